import PyProof.Rows.All
import Wide.All
import OpenK.AllK
import Wide.FinOn
import HandS.ForMost
import HandS.Exc
import HandS.ExcInit
import HandS.ExcOwn
import HandS.CallSlots
import HandS.Walk
import HandS.EndTab
import HandS.EndBits
import HandS.WordsExc
import HandS.AnyAll
import HandS.TupAny
import HandS.TupMul
import HandS.TupLe
import HandS.Codes
import HandS.Deep
import HandS.IsInst
import HandS.Conv
import HandS.ExcCtx
import HandS.Zip
import KE.GoesMore
import PyProof.EnumMake
import HandS.More
import HandS.FStr
import HandS.Text
import KE.SortData
import HandS.DictTup
import PyProof.DictMoreH
import HandS.OwnEq
import HandS.Words
import HandS.SortInts
import KE.DataFind
import HandS.SetFor
import HandS.TryMany
import HandS.ExcField
import HandS.HotCalls
import HandS.ExcIs
import KE.KExcIs
import HandS.Ends
import PyProof.ReprRoads
import HandS.MakeKwOnly
import HandS.TupLen
import HandS.GenOver
import HandS.Strs
import PyProof.WalksMore
import PyProof.Rows.SumAny
import PyProof.StrOps2
import PyProof.IsRules
import HandS.Star
import HandS.SetKeys
import PyProof.DictRoadsH
import PyProof.Rows.TupDisplay
import PyProof.Rows.SetFrom
import PyProof.SetRoads
import HandS.Style
import KE.KRevSl
import PyProof.ReprLen
import PyProof.Rows.ReprOcc
import PySem.Challenge.RW_keptandsaid_k09_rings
import PyProof.EqAt
import PyProof.EqKinds
import PyProof.TupleCall
import Open.SpecLaws
import KE.OsGo
import KE.RegKIsAll
set_option Elab.async false
set_option linter.all false
set_option maxRecDepth 100000
set_option maxHeartbeats 4000000
namespace KS
open PySem PySem.Spec L2
/-- a value by its content; var i: the list (dict, object) that slot i owns -/
inductive D where
  | non | bl (b : Bool) | int (i : Int) | str (x : Str)
  | tup (ds : List D) | lst (ds : List D) | scr (ns : List Int)
  | obj (c : Nat) (ns : List Nat) (fs : List D)
  | dct (ks vs : List D)
  | var (i : Nat)
abbrev Fr := List (Option D)
/-- an end: a value, an exception (its class's number, its fields), or what is not told -/
inductive Res (σ α : Type) where
  | ok (a : α) (s : σ) | exc (c : Nat) (fs : List D) (s : σ) | bad
inductive Fl where
  | nx | brk | cnt | ret (d : D)
abbrev Ev := Fr → Res Fr D
abbrev Av := Fr → Res Fr (List D)
abbrev Bv := Fr → Res Fr Bool
abbrev Sv := Fr → Res Fr Fl
abbrev Fn := List D → Res (List D) D
def Res.bind {σ α β : Type} (r : Res σ α) (k : α → σ → Res σ β) : Res σ β :=
  match r with
  | .ok a s => k a s
  | .exc c fs s => .exc c fs s
  | .bad => .bad
/-- what is known of the text as it stands: classes by number, fields by number, tables of code objects -/
structure SE where
  P : Program
  w : World
  K : PySem.W.Frag
  mg : Str → Option Value
  base : Heap
  tabs : List Addr
  cls : Nat → Addr
  fld : Nat → Str
  ecls : Nat → Addr
  efld : Nat → List Str
def kD : Key → D
  | .inl i => .int i
  | .inr x => .str x
/-- a dict at a: its keys by content, its values -/
def DctAt (H : Hp) (a : Addr) (ks : List D) (us : List V) : Prop :=
  (∃ kvs : List (List Key × V), H a = some (.dT kvs) ∧ ks = D.bl true :: kvs.map (fun p => D.tup (p.1.map kD)) ∧ us = kvs.map (·.2)) ∨
  (∃ kvs : List (Key × V), H a = some (.dK kvs) ∧ ks = D.bl false :: kvs.map (fun p => kD p.1) ∧ us = kvs.map (·.2))
theorem DctAt.at {H H' : Hp} {a : Addr} {ks : List D} {us : List V} (h : DctAt H a ks us) (k : ∀ o, H a = some o → H' a = some o) : DctAt H' a ks us := by
  rcases h with ⟨kvs, e, r⟩ | ⟨kvs, e, r⟩
  · exact .inl ⟨kvs, k _ e, r⟩
  · exact .inr ⟨kvs, k _ e, r⟩
mutual
/-- the value v bears the content d in the heap Hv (that nothing changes) -/
def Rep (G : SE) (Hv : Hp) : D → V → Prop
  | .non, v => v = .non
  | .bl b, v => v = .bl b
  | .int i, v => v = .int i
  | .str x, v => v = .str x
  | .tup ds, v => ∃ a vs, v = .ref a ∧ Hv a = some (.tup vs) ∧ RepL G Hv ds vs
  | .lst ds, v => ∃ a vs, v = .ref a ∧ Hv a = some (.lst vs) ∧ RepL G Hv ds vs
  | .scr ns, v => ∃ a, v = .ref a ∧ SqL G.K Hv a (ns.map V.int)
  | .obj c ns fs, v => ∃ a dx vs, v = .ref a ∧ Hv a = some (.ins (G.cls c) dx ((ns.map G.fld).zip vs)) ∧ ns.length = vs.length ∧ RepL G Hv fs vs
  | .dct ks ds, v => ∃ a us, v = .ref a ∧ DctAt Hv a ks us ∧ RepL G Hv ds us
  | .var _, _ => False
def RepL (G : SE) (Hv : Hp) : List D → List V → Prop
  | [], vs => vs = []
  | d :: ds, vs => ∃ v r, vs = v :: r ∧ Rep G Hv d v ∧ RepL G Hv ds r
end
def Sub (H H' : Hp) : Prop := ∀ b o, H b = some o → H' b = some o
theorem Sub.refl (H : Hp) : Sub H H := fun _ _ h => h
theorem Sub.trans {H H1 H2 : Hp} (a : Sub H H1) (b : Sub H1 H2) : Sub H H2 := fun c o h => b c o (a c o h)
theorem Sub.sqt {K : PySem.W.Frag} {H H' : Hp} (s : Sub H H') {a : Addr} {xs : List V} (h : SqT K H a xs) : SqT K H' a xs := by
  rcases h with (h | ⟨o, h⟩) | h
  · exact .inl (.inl (s _ _ h))
  · exact .inl (.inr ⟨o, s _ _ h⟩)
  · exact .inr h
theorem Sub.sql {K : PySem.W.Frag} {H H' : Hp} (s : Sub H H') {a : Addr} {xs : List V} (h : SqL K H a xs) : SqL K H' a xs := by
  rcases h with (h | ⟨o, h⟩) | h
  · exact .inl (.inl (s _ _ h))
  · exact .inl (.inr ⟨o, s _ _ h⟩)
  · exact .inr h
theorem Sub.put {H H' : Hp} (s : Sub H H') {a : Addr} {o : HO} (hn : H a = none) : Sub H (upd H' a o) := fun b u h => by
  rw [upd_ne (ne_of_none h hn)]
  exact s b u h
mutual
theorem Rep.mono {G : SE} {H H' : Hp} (s : Sub H H') : ∀ (d : D) (v : V), Rep G H d v → Rep G H' d v
  | .non, _, h => h
  | .bl _, _, h => h
  | .int _, _, h => h
  | .str _, _, h => h
  | .tup ds, v, h => by
    simp only [Rep] at h ⊢
    obtain ⟨a, vs, e, q, r⟩ := h
    exact ⟨a, vs, e, s _ _ q, RepL.mono s ds vs r⟩
  | .lst ds, v, h => by
    simp only [Rep] at h ⊢
    obtain ⟨a, vs, e, q, r⟩ := h
    exact ⟨a, vs, e, s _ _ q, RepL.mono s ds vs r⟩
  | .scr ns, v, h => by
    simp only [Rep] at h ⊢
    obtain ⟨a, e, q⟩ := h
    exact ⟨a, e, s.sql q⟩
  | .obj c ns fs, v, h => by
    simp only [Rep] at h ⊢
    obtain ⟨a, dx, vs, e, q, l, r⟩ := h
    exact ⟨a, dx, vs, e, s _ _ q, l, RepL.mono s fs vs r⟩
  | .dct ks ds, v, h => by
    simp only [Rep] at h ⊢
    obtain ⟨a, us, e, q, r⟩ := h
    exact ⟨a, us, e, q.at fun o => s a o, RepL.mono s ds us r⟩
  | .var _, _, h => by simp only [Rep] at h
theorem RepL.mono {G : SE} {H H' : Hp} (s : Sub H H') : ∀ (ds : List D) (vs : List V), RepL G H ds vs → RepL G H' ds vs
  | [], _, h => by simp only [RepL] at h ⊢; exact h
  | d :: ds, vs, h => by
    simp only [RepL] at h ⊢
    obtain ⟨v, r, e, h1, h2⟩ := h
    exact ⟨v, r, e, Rep.mono s d v h1, RepL.mono s ds r h2⟩
end
section
variable {G : SE} {H : Hp}
theorem RepL.nil : RepL G H [] [] := by simp only [RepL]
theorem RepL.cons {d : D} {v : V} {ds : List D} {vs : List V} (h : Rep G H d v) (t : RepL G H ds vs) : RepL G H (d :: ds) (v :: vs) := by
  simp only [RepL]
  exact ⟨v, vs, rfl, h, t⟩
theorem RepL.nil_inv {vs : List V} (h : RepL G H [] vs) : vs = [] := by simpa only [RepL] using h
theorem RepL.cons_inv {d : D} {ds : List D} {vs : List V} (h : RepL G H (d :: ds) vs) : ∃ v r, vs = v :: r ∧ Rep G H d v ∧ RepL G H ds r := by simpa only [RepL] using h
theorem RepL.length : ∀ {ds : List D} {vs : List V}, RepL G H ds vs → vs.length = ds.length
  | [], vs, h => by rw [h.nil_inv]; rfl
  | d :: ds, vs, h => by
    obtain ⟨v, r, e, _, t⟩ := h.cons_inv
    rw [e, List.length_cons, List.length_cons, RepL.length t]
theorem RepL.get : ∀ {ds : List D} {vs : List V}, RepL G H ds vs → ∀ {i : Nat} {d : D}, ds[i]? = some d → ∃ v, vs[i]? = some v ∧ Rep G H d v
  | [], _, _, i, d, e => by simp at e
  | d :: ds, vs, h, 0, d', e => by
    obtain ⟨v, r, ev, h1, t⟩ := h.cons_inv
    have e' : d = d' := by simpa using e
    subst e'
    exact ⟨v, by rw [ev]; rfl, h1⟩
  | d :: ds, vs, h, i + 1, d', e => by
    obtain ⟨v, r, ev, h1, t⟩ := h.cons_inv
    obtain ⟨u, e1, e2⟩ := RepL.get t (i := i) (d := d') (by simpa using e)
    exact ⟨u, by rw [ev]; simpa using e1, e2⟩
theorem RepL.getV : ∀ {ds : List D} {vs : List V}, RepL G H ds vs → ∀ {i : Nat} {v : V}, vs[i]? = some v → ∃ d, ds[i]? = some d ∧ Rep G H d v
  | [], vs, h, i, v, e => by rw [h.nil_inv] at e; simp at e
  | d :: ds, vs, h, 0, v', e => by
    obtain ⟨v, r, ev, h1, t⟩ := h.cons_inv
    rw [ev] at e
    have e' : v = v' := by simpa using e
    subst e'
    exact ⟨d, rfl, h1⟩
  | d :: ds, vs, h, i + 1, v', e => by
    obtain ⟨v, r, ev, h1, t⟩ := h.cons_inv
    rw [ev] at e
    obtain ⟨u, e1, e2⟩ := RepL.getV t (i := i) (v := v') (by simpa using e)
    exact ⟨u, by simpa using e1, e2⟩
theorem RepL.append : ∀ {ds : List D} {vs : List V} {es : List D} {us : List V}, RepL G H ds vs → RepL G H es us → RepL G H (ds ++ es) (vs ++ us)
  | [], vs, es, us, h, q => by rw [h.nil_inv]; exact q
  | d :: ds, vs, es, us, h, q => by
    obtain ⟨v, r, e, h1, t⟩ := h.cons_inv
    subst e
    exact .cons h1 (RepL.append t q)
theorem RepL.take : ∀ {ds : List D} {vs : List V} (n : Nat), RepL G H ds vs → RepL G H (ds.take n) (vs.take n)
  | [], vs, n, h => by rw [h.nil_inv]; simp only [List.take_nil]; exact .nil
  | d :: ds, vs, 0, h => by simp only [List.take_zero]; exact .nil
  | d :: ds, vs, n + 1, h => by
    obtain ⟨v, r, e, h1, t⟩ := h.cons_inv
    subst e
    exact .cons h1 (RepL.take n t)
theorem RepL.drop : ∀ {ds : List D} {vs : List V} (n : Nat), RepL G H ds vs → RepL G H (ds.drop n) (vs.drop n)
  | [], vs, n, h => by rw [h.nil_inv]; simp only [List.drop_nil]; exact .nil
  | d :: ds, vs, 0, h => h
  | d :: ds, vs, n + 1, h => by
    obtain ⟨v, r, e, h1, t⟩ := h.cons_inv
    subst e
    exact RepL.drop n t
theorem RepL.set : ∀ {ds : List D} {vs : List V} {d : D} {v : V} (n : Nat), RepL G H ds vs → Rep G H d v → RepL G H (ds.set n d) (vs.set n v)
  | [], vs, d, v, n, h, _ => by rw [h.nil_inv]; exact .nil
  | d :: ds, vs, d', v', 0, h, q => by
    obtain ⟨v, r, e, h1, t⟩ := h.cons_inv
    subst e
    exact .cons q t
  | d :: ds, vs, d', v', n + 1, h, q => by
    obtain ⟨v, r, e, h1, t⟩ := h.cons_inv
    subst e
    exact .cons h1 (RepL.set n t q)
theorem RepL.reverse {ds : List D} {vs : List V} (h : RepL G H ds vs) : RepL G H ds.reverse vs.reverse := by
  induction ds generalizing vs with
  | nil => rw [h.nil_inv]; exact .nil
  | cons d ds ih =>
    obtain ⟨v, r, e, h1, t⟩ := h.cons_inv
    subst e
    rw [List.reverse_cons, List.reverse_cons]
    exact (ih t).append (.cons h1 .nil)
theorem RepL.dropLast {ds : List D} {vs : List V} (h : RepL G H ds vs) : RepL G H ds.dropLast vs.dropLast := by
  rw [List.dropLast_eq_take, List.dropLast_eq_take, h.length]
  exact h.take _
theorem Rep.tup {ds : List D} {vs : List V} {a : Addr} (q : H a = some (.tup vs)) (r : RepL G H ds vs) : Rep G H (.tup ds) (.ref a) := by
  simp only [Rep]
  exact ⟨a, vs, rfl, q, r⟩
theorem Rep.lst {ds : List D} {vs : List V} {a : Addr} (q : H a = some (.lst vs)) (r : RepL G H ds vs) : Rep G H (.lst ds) (.ref a) := by
  simp only [Rep]
  exact ⟨a, vs, rfl, q, r⟩
theorem Rep.obj {c : Nat} {ns : List Nat} {fs : List D} {vs : List V} {a dx : Addr} (q : H a = some (.ins (G.cls c) dx ((ns.map G.fld).zip vs))) (l : ns.length = vs.length) (r : RepL G H fs vs) : Rep G H (.obj c ns fs) (.ref a) := by
  simp only [Rep]
  exact ⟨a, dx, vs, rfl, q, l, r⟩
theorem Rep.non_iff {v : V} : Rep G H .non v ↔ v = .non := by simp only [Rep]
theorem Rep.bl_iff {b : Bool} {v : V} : Rep G H (.bl b) v ↔ v = .bl b := by simp only [Rep]
theorem Rep.int_iff {i : Int} {v : V} : Rep G H (.int i) v ↔ v = .int i := by simp only [Rep]
theorem Rep.str_iff {x : Str} {v : V} : Rep G H (.str x) v ↔ v = .str x := by simp only [Rep]
theorem Rep.tup_at {ds : List D} {v : V} (h : Rep G H (.tup ds) v) : ∃ a vs, v = .ref a ∧ H a = some (.tup vs) ∧ RepL G H ds vs := by simpa only [Rep] using h
theorem Rep.tup_inv {ds : List D} {v : V} (h : Rep G H (.tup ds) v) : ∃ a vs, v = .ref a ∧ SqT G.K H a vs ∧ RepL G H ds vs := by
  obtain ⟨a, vs, e, q, r⟩ := h.tup_at
  exact ⟨a, vs, e, .inl (.inl q), r⟩
theorem Rep.lst_inv {ds : List D} {v : V} (h : Rep G H (.lst ds) v) : ∃ a vs, v = .ref a ∧ H a = some (.lst vs) ∧ RepL G H ds vs := by simpa only [Rep] using h
theorem Rep.scr_inv {ns : List Int} {v : V} (h : Rep G H (.scr ns) v) : ∃ a, v = .ref a ∧ SqL G.K H a (ns.map V.int) := by simpa only [Rep] using h
theorem Rep.obj_inv {c : Nat} {ns : List Nat} {fs : List D} {v : V} (h : Rep G H (.obj c ns fs) v) : ∃ a dx vs, v = .ref a ∧ H a = some (.ins (G.cls c) dx ((ns.map G.fld).zip vs)) ∧ ns.length = vs.length ∧ RepL G H fs vs := by simpa only [Rep] using h
theorem Rep.no_var {i : Nat} {v : V} (h : Rep G H (.var i) v) : False := by simp only [Rep] at h
theorem Rep.dct_inv {ks ds : List D} {v : V} (h : Rep G H (.dct ks ds) v) : ∃ a us, v = .ref a ∧ DctAt H a ks us ∧ RepL G H ds us := by simpa only [Rep] using h
theorem Rep.dct {ks ds : List D} {us : List V} {a : Addr} (q : DctAt H a ks us) (r : RepL G H ds us) : Rep G H (.dct ks ds) (.ref a) := by
  simp only [Rep]
  exact ⟨a, us, rfl, q, r⟩
end
end KS
namespace KS
open PySem PySem.Spec L2
/-- what a def's running body is told by: its owned slots, the slots that were handed in to be changed, the heap at the entry -/
structure Bd where
  G : SE
  M : List Nat
  io : List (Nat × Addr)
  H0 : Hp
  Hv0 : Hp
  ex : Option (Nat × Addr) := none
/-- the object at a, owned, bears d -/
def Cell (G : SE) (H Hv : Hp) (a : Addr) : D → Prop
  | .lst ds => ∃ vs, H a = some (.lst vs) ∧ RepL G Hv ds vs
  | .obj c ns fs => ∃ dx vs, H a = some (.ins (G.cls c) dx ((ns.map G.fld).zip vs)) ∧ ns.length = vs.length ∧ RepL G Hv fs vs
  | .dct ks ds => ∃ us, DctAt H a ks us ∧ RepL G Hv ds us
  | _ => False
def isCell : D → Bool
  | .lst _ => true
  | .obj _ _ _ => true
  | .dct _ _ => true
  | _ => false
theorem Cell.isCell {G : SE} {H Hv : Hp} {a : Addr} {d : D} (h : Cell G H Hv a d) : isCell d = true := by
  cases d <;> first | rfl | exact h.elim
def Own (B : Bd) (fr : Fr) (σ : St) (a : Addr) : Prop := ∃ i d, i ∈ B.M ∧ (fr[i]? = some (some d) ∧ isCell d = true) ∧ σ[i]? = some (some (.ref a))
def Keep (B : Bd) (fr : Fr) (σ : St) (H H' : Hp) : Prop := ∀ b o, H b = some o → ¬ Own B fr σ b → b ∉ B.G.tabs → H' b = some o
/-- a table of a code object -/
def TabH (H : Hp) (P : Addr) : Prop := GxR.TabG H P
/-- new at the entry, or a tuple (that nothing owns) -/
def NewOk (H : Hp) (b : Addr) (o : HO) : Prop := H b = none ∨ ∃ vs, o = .tup vs
/-- a frozen slot's value: by content, or (at i itself) the exception that is handled -/
def BoxR (B : Bd) (Hv : Hp) (i : Nat) (e : D) (v : V) : Prop := Rep B.G Hv e v ∨ (e = .var i ∧ ∃ a, B.ex = some (i, a) ∧ v = .ref a)
structure Rel (B : Bd) (fr : Fr) (σ : St) (H Hv : Hp) : Prop where
  sub : Sub Hv H
  ext0 : Sub B.Hv0 Hv
  new : ∀ b o, Hv b = some o → B.Hv0 b = some o ∨ NewOk B.H0 b o
  keep : ∀ b o, B.H0 b = some o → (∀ p ∈ B.io, p.2 ≠ b) → b ∉ B.G.tabs → H b = some o
  len : fr.length = σ.length
  val : ∀ i d, fr[i]? = some (some d) → i ∉ B.M → ∃ v, σ[i]? = some (some v) ∧ Rep B.G Hv d v
  box : ∀ i d, fr[i]? = some (some d) → isCell d = false → i ∈ B.M → ∃ e v, d = .tup [e] ∧ σ[i]? = some (some v) ∧ BoxR B Hv i e v
  own : ∀ i d, (fr[i]? = some (some d) ∧ isCell d = true) → i ∈ B.M → ∃ a, σ[i]? = some (some (.ref a)) ∧ Hv a = none ∧ ((∃ p ∈ B.io, p.2 = a) ∨ B.H0 a = none) ∧ Cell B.G H Hv a d
  sep : ∀ i j a di dj, i ∈ B.M → j ∈ B.M → i ≠ j → (fr[i]? = some (some di) ∧ isCell di = true) → (fr[j]? = some (some dj) ∧ isCell dj = true) → σ[i]? = some (some (.ref a)) → σ[j]? ≠ some (some (.ref a))
  io : ∀ p ∈ B.io, p.1 ∈ B.M ∧ (∃ d, fr[p.1]? = some (some d) ∧ isCell d = true) ∧ σ[p.1]? = some (some (.ref p.2))
  tab : ∀ P ∈ B.G.tabs, TabH H P ∧ Hv P = none
/-- a value at an expression's end: by content, or the object of an owned slot -/
def RepW (B : Bd) (σ : St) (Hv : Hp) (d : D) (v : V) : Prop :=
  match d with
  | .var i => i ∈ B.M ∧ σ[i]? = some (some v)
  | d => Rep B.G Hv d v
def look (fr : Fr) (d : D) : Option D :=
  match d with
  | .var i => match fr[i]? with
    | some (some d) => if isCell d = true then some d else none
    | _ => none
  | d => some d
def Shr (B : Bd) (fr fr' : Fr) : Prop := ∀ i d, i ∈ B.M → (fr'[i]? = some (some d) ∧ isCell d = true) → ∃ d0, fr[i]? = some (some d0) ∧ isCell d0 = true
structure Nxt (B : Bd) (fr : Fr) (σ : St) (H Hv : Hp) (fr' : Fr) (H' Hv' : Hp) : Prop where
  rel : Rel B fr' σ H' Hv'
  ext : Sub Hv Hv'
  keep : Keep B fr σ H H'
  shp : Shr B fr fr'
  alive : ∀ b o, H b = some o → ∃ o', H' b = some o'
  newv : ∀ b o, Hv' b = some o → Hv b = some o ∨ NewOk H b o ∨ Own B fr σ b
theorem own_shp {B : Bd} {fr fr' : Fr} {σ : St} {a : Addr} (h : Shr B fr fr') (o : Own B fr' σ a) : Own B fr σ a := by
  obtain ⟨i, d, hi, hf, hs⟩ := o
  obtain ⟨d', hd'⟩ := h i d hi hf
  exact ⟨i, d', hi, hd', hs⟩
theorem Shr.refl (B : Bd) (fr : Fr) : Shr B fr fr := fun i d _ h => ⟨d, h⟩
theorem Shr.trans {B : Bd} {fr fr1 fr2 : Fr} (a : Shr B fr fr1) (b : Shr B fr1 fr2) : Shr B fr fr2 := fun i d hi h => by
  obtain ⟨d1, h1⟩ := b i d hi h
  exact a i d1 hi h1
section
variable {B : Bd} {fr fr1 fr2 : Fr} {σ : St} {H H1 H2 Hv Hv1 Hv2 : Hp}
theorem Nxt.refl (R : Rel B fr σ H Hv) : Nxt B fr σ H Hv fr H Hv := ⟨R, .refl _, fun _ _ h _ _ => h, .refl _ _, fun _ o h => ⟨o, h⟩, fun _ _ h => .inl h⟩
theorem Nxt.trans (a : Nxt B fr σ H Hv fr1 H1 Hv1) (b : Nxt B fr1 σ H1 Hv1 fr2 H2 Hv2) : Nxt B fr σ H Hv fr2 H2 Hv2 :=
  ⟨b.rel, a.ext.trans b.ext, fun c o h no nt => b.keep c o (a.keep c o h no nt) (fun q => no (own_shp a.shp q)) nt, a.shp.trans b.shp, fun c o h => (a.alive c o h).elim fun o1 h1 => b.alive c o1 h1, fun c o h => by
    rcases b.newv c o h with z | z | z
    · exact a.newv c o z
    · refine .inr (.inl ?_)
      refine z.imp (fun z => ?_) id
      cases e : H c with
      | none => rfl
      | some u =>
        obtain ⟨u', h'⟩ := a.alive c u e
        rw [z] at h'; cases h'
    · exact .inr (.inr (own_shp a.shp z))⟩
theorem RepW.mono {d : D} {v : V} (s : Sub Hv Hv1) (h : RepW B σ Hv d v) : RepW B σ Hv1 d v := by
  cases d with
  | var i => exact h
  | _ => exact Rep.mono s _ _ h
theorem RepW.of {d : D} {v : V} (h : Rep B.G Hv d v) : RepW B σ Hv d v := by
  cases d with
  | var i => exact h.no_var.elim
  | _ => exact h
theorem RepW.rep {d : D} {v : V} (h : RepW B σ Hv d v) (hd : ∀ i, d ≠ .var i) : Rep B.G Hv d v := by
  cases d with
  | var i => exact absurd rfl (hd i)
  | _ => exact h
/-- the sizes of the tracked address: what stands at a tracked address stands in the heap -/
theorem Rel.own_some (R : Rel B fr σ H Hv) {a : Addr} (o : Own B fr σ a) : (∃ u, H a = some u) ∧ Hv a = none ∧ a ∉ B.G.tabs := by
  obtain ⟨i, d, hi, hf, hs⟩ := o
  obtain ⟨a', hs', hv, _, hc⟩ := R.own i d hf hi
  rw [hs] at hs'
  cases hs'
  have e : ∃ u, H a = some u ∧ ∀ ps, u ≠ .tbl ps := by
    cases d with
    | lst ds => obtain ⟨vs, e, _⟩ := hc; exact ⟨_, e, fun ps z => by cases z⟩
    | obj c ns fs => obtain ⟨dx, vs, e, _⟩ := hc; exact ⟨_, e, fun ps z => by cases z⟩
    | dct ks vs =>
      obtain ⟨us, ⟨kvs, e, _⟩ | ⟨kvs, e, _⟩, _⟩ := hc
      · exact ⟨_, e, fun ps z => by cases z⟩
      · exact ⟨_, e, fun ps z => by cases z⟩
    | _ => exact hc.elim
  obtain ⟨u, e, ne⟩ := e
  refine ⟨⟨u, e⟩, hv, fun ht => ?_⟩
  obtain ⟨⟨ps, et, _⟩, _⟩ := R.tab a ht
  rw [e] at et
  exact ne ps (Option.some.inj et)
theorem Cell.mono {G : SE} {a : Addr} {d : D} (s : Sub Hv Hv1) (e : H1 a = H a) (h : Cell G H Hv a d) : Cell G H1 Hv1 a d := by
  cases d with
  | lst ds => obtain ⟨vs, q, r⟩ := h; exact ⟨vs, by rw [e]; exact q, RepL.mono s _ _ r⟩
  | obj c ns fs => obtain ⟨dx, vs, q, l, r⟩ := h; exact ⟨dx, vs, by rw [e]; exact q, l, RepL.mono s _ _ r⟩
  | dct ks vs =>
    obtain ⟨us, q, r⟩ := h
    exact ⟨us, q.at fun o z => by rw [e]; exact z, RepL.mono s _ _ r⟩
  | _ => exact h.elim
/-- a new object laid, owned by nothing as yet -/
theorem Rel.lay (R : Rel B fr σ H Hv) {p : Addr} {o : HO} (hp : H p = none) : Rel B fr σ (upd H p o) Hv where
  sub := fun b u h => by
    have := R.sub b u h
    rw [upd_ne (ne_of_none this hp)]
    exact this
  ext0 := R.ext0
  new := R.new
  keep := fun b u h hi ht => by
    have := R.keep b u h hi ht
    rw [upd_ne (ne_of_none this hp)]
    exact this
  len := R.len
  val := R.val
  box := R.box
  own := fun i d hf hm => by
    obtain ⟨a, hs, hv, hn, hc⟩ := R.own i d hf hm
    obtain ⟨⟨u, hu⟩, _⟩ := R.own_some ⟨i, d, hm, hf, hs⟩
    exact ⟨a, hs, hv, hn, hc.mono (.refl _) (upd_ne (ne_of_none hu hp))⟩
  sep := R.sep
  io := R.io
  tab := fun P hP => by
    obtain ⟨⟨ps, e, t⟩, v⟩ := R.tab P hP
    exact ⟨⟨ps, by rw [upd_ne (ne_of_none e hp)]; exact e, t⟩, v⟩
theorem Rel.h0_none (R : Rel B fr σ H Hv) {p : Addr} (hp : H p = none) : B.H0 p = none := by
  cases e : B.H0 p with
  | none => rfl
  | some o =>
    by_cases hi : ∀ q ∈ B.io, q.2 ≠ p
    · by_cases ht : p ∈ B.G.tabs
      · obtain ⟨⟨ps, e', _⟩, _⟩ := R.tab p ht
        rw [hp] at e'
        cases e'
      · have := R.keep p o e hi ht
        rw [hp] at this
        cases this
    · have : ∃ q ∈ B.io, q.2 = p := by
        refine Classical.byContradiction fun n => hi fun q hq z => n ⟨q, hq, z⟩
      obtain ⟨q, hq, rfl⟩ := this
      obtain ⟨hm, ⟨d, hd⟩, hs⟩ := R.io q hq
      obtain ⟨⟨u, hu⟩, _⟩ := R.own_some ⟨q.1, d, hm, hd, hs⟩
      rw [hp] at hu
      cases hu
theorem Rel.hv_none (R : Rel B fr σ H Hv) {p : Addr} (hp : H p = none) : Hv p = none := by
  cases e : Hv p with
  | none => rfl
  | some o =>
    have := R.sub p o e
    rw [hp] at this
    cases this
/-- an object that is owned by nothing becomes a value -/
theorem Rel.freeze (R : Rel B fr σ H Hv) {p : Addr} {o : HO} (hp : H p = some o) (h0 : NewOk B.H0 p o) (ht : ∀ ps, o ≠ .tbl ps) (no : ¬ Own B fr σ p) : Rel B fr σ H (upd Hv p o) where
  sub := fun b u h => by
    by_cases e : b = p
    · subst e
      rw [upd_same] at h
      cases h
      exact hp
    · rw [upd_ne e] at h
      exact R.sub b u h
  ext0 := fun b u h => by
    by_cases e : b = p
    · subst e
      have h1 := R.sub b u (R.ext0 b u h)
      rw [hp] at h1
      cases h1
      exact upd_same
    · rw [upd_ne e]
      exact R.ext0 b u h
  new := fun b u h => by
    by_cases e : b = p
    · subst e
      rw [upd_same] at h
      cases h
      exact .inr h0
    · rw [upd_ne e] at h
      exact R.new b u h
  keep := R.keep
  len := R.len
  val := fun i d hf hm => by
    obtain ⟨v, hs, hr⟩ := R.val i d hf hm
    refine ⟨v, hs, Rep.mono (fun b u h => ?_) _ _ hr⟩
    by_cases e : b = p
    · subst e
      have h1 := R.sub b u h
      rw [hp] at h1
      cases h1
      exact upd_same
    · rw [upd_ne e]
      exact h
  box := fun i d hf hc hm => by
    obtain ⟨e, v, h1, hs, hr⟩ := R.box i d hf hc hm
    refine ⟨e, v, h1, hs, hr.imp (Rep.mono (fun b u h => ?_) _ _) id⟩
    by_cases e : b = p
    · subst e
      have h1 := R.sub b u h
      rw [hp] at h1
      cases h1
      exact upd_same
    · rw [upd_ne e]
      exact h
  own := fun i d hf hm => by
    obtain ⟨a, hs, hv, hn, hc⟩ := R.own i d hf hm
    have ne : a ≠ p := fun e => no (by rw [← e]; exact ⟨i, d, hm, hf, hs⟩)
    refine ⟨a, hs, by rw [upd_ne ne]; exact hv, hn, hc.mono (fun b u h => ?_) rfl⟩
    by_cases e : b = p
    · subst e
      have h1 := R.sub b u h
      rw [hp] at h1
      cases h1
      exact upd_same
    · rw [upd_ne e]
      exact h
  sep := R.sep
  io := R.io
  tab := fun P hP => by
    obtain ⟨⟨ps, e, t⟩, v⟩ := R.tab P hP
    have ne : P ≠ p := fun q => by
      rw [q, hp] at e
      exact ht ps (Option.some.inj e)
    exact ⟨⟨ps, e, t⟩, by rw [upd_ne ne]; exact v⟩
theorem sub_freeze (R : Rel B fr σ H Hv) {p : Addr} {o : HO} (hp : H p = some o) : Sub Hv (upd Hv p o) := fun b u h => by
  by_cases e : b = p
  · subst e
    have h1 := R.sub b u h
    rw [hp] at h1
    cases h1
    exact upd_same
  · rw [upd_ne e]
    exact h
/-- a new value laid -/
theorem Rel.layV (R : Rel B fr σ H Hv) {p : Addr} {o : HO} (hp : H p = none) (ht : ∀ ps, o ≠ .tbl ps) : Rel B fr σ (upd H p o) (upd Hv p o) := by
  refine (R.lay hp).freeze upd_same (.inl (R.h0_none hp)) ht fun q => ?_
  obtain ⟨⟨u, hu⟩, _⟩ := R.own_some (a := p) (by obtain ⟨i, d, a, b, c⟩ := q; exact ⟨i, d, a, b, c⟩)
  rw [hp] at hu
  cases hu
theorem Nxt.layV (R : Rel B fr σ H Hv) {p : Addr} {o : HO} (hp : H p = none) (ht : ∀ ps, o ≠ .tbl ps) : Nxt B fr σ H Hv fr (upd H p o) (upd Hv p o) :=
  ⟨R.layV hp ht, (Sub.refl Hv).put (R.hv_none hp), fun b u h _ _ => by rw [upd_ne (ne_of_none h hp)]; exact h, .refl _ _, fun b u h => ⟨u, by rw [upd_ne (ne_of_none h hp)]; exact h⟩, fun b u h => by
    by_cases e : b = p
    · exact .inr (.inl (.inl (e ▸ hp)))
    · rw [upd_ne e] at h; exact .inl h⟩
/-- what stands behind an owned slot, or a value -/
theorem look_var {i : Nat} {d : D} (h : look fr (.var i) = some d) : fr[i]? = some (some d) ∧ isCell d = true := by
  unfold look at h
  dsimp only at h
  split at h
  · next d' e =>
    split at h
    · next c => cases h; exact ⟨e, c⟩
    · cases h
  · cases h
/-- a list that may be read now -/
theorem Rel.list_of (R : Rel B fr σ H Hv) {d : D} {v : V} {ds : List D} (h : RepW B σ Hv d v) (hl : look fr d = some (.lst ds)) : ∃ a vs, v = .ref a ∧ H a = some (.lst vs) ∧ RepL B.G Hv ds vs := by
  cases d with
  | var i =>
    obtain ⟨hm, hs⟩ := h
    obtain ⟨a, hs', hv, _, vs, e, r⟩ := R.own i _ (look_var hl) hm
    rw [hs] at hs'
    cases hs'
    exact ⟨a, vs, rfl, e, r⟩
  | lst ds' =>
    have e : D.lst ds' = .lst ds := Option.some.inj hl
    cases e
    obtain ⟨a, vs, e, q, r⟩ := Rep.lst_inv h
    exact ⟨a, vs, e, R.sub _ _ q, r⟩
  | _ => cases hl
theorem Rel.tup_of (R : Rel B fr σ H Hv) {d : D} {v : V} {ds : List D} (h : RepW B σ Hv d v) (hl : look fr d = some (.tup ds)) : ∃ a vs, v = .ref a ∧ SqT B.G.K H a vs ∧ Hv a = some (.tup vs) ∧ RepL B.G Hv ds vs := by
  cases d with
  | var i =>
    obtain ⟨hm, hs⟩ := h
    obtain ⟨a, hs', hv, _, hc⟩ := R.own i _ (look_var hl) hm
    exact hc.elim
  | tup ds' =>
    have e : D.tup ds' = .tup ds := Option.some.inj hl
    cases e
    obtain ⟨a, vs, e, q, r⟩ := Rep.tup_at h
    exact ⟨a, vs, e, .inl (.inl (R.sub _ _ q)), q, r⟩
  | _ => cases hl
theorem look_scalar {d e : D} (R : Rel B fr σ H Hv) {v : V} (h : RepW B σ Hv d v) (hl : look fr d = some e) (hs : isCell e = false) : Rep B.G Hv e v := by
  cases d with
  | var i =>
    obtain ⟨hm, _⟩ := h
    obtain ⟨a, _, _, _, hc⟩ := R.own i _ (look_var hl) hm
    cases e <;> first
      | exact hc.elim
      | cases hs
  | _ =>
    cases hl
    exact h
theorem Rel.int_of (R : Rel B fr σ H Hv) {d : D} {v : V} {i : Int} (h : RepW B σ Hv d v) (hl : look fr d = some (.int i)) : v = .int i := Rep.int_iff.mp (look_scalar R h hl rfl)
theorem Rel.bl_of (R : Rel B fr σ H Hv) {d : D} {v : V} {i : Bool} (h : RepW B σ Hv d v) (hl : look fr d = some (.bl i)) : v = .bl i := Rep.bl_iff.mp (look_scalar R h hl rfl)
theorem Rel.str_of (R : Rel B fr σ H Hv) {d : D} {v : V} {i : Str} (h : RepW B σ Hv d v) (hl : look fr d = some (.str i)) : v = .str i := Rep.str_iff.mp (look_scalar R h hl rfl)
theorem Rel.non_of (R : Rel B fr σ H Hv) {d : D} {v : V} (h : RepW B σ Hv d v) (hl : look fr d = some .non) : v = .non := Rep.non_iff.mp (look_scalar R h hl rfl)
end
/-- an exception's dict at dd bears the fields fs of the class c -/
def ExcAt (G : SE) (H Hv : Hp) (c : Nat) (fs : List D) (dd : Addr) : Prop :=
  ∃ l, H dd = some (.xd l) ∧ fs.length = (G.efld c).length ∧ ∀ (k : Nat) (n : Str) (d : D), (G.efld c)[k]? = some n → fs[k]? = some d → ∃ v, l.lookup n = some v ∧ Rep G Hv d v
def PostE (B : Bd) (W : WX) (fr : Fr) (σ : St) (H Hv : Hp) (r : Res Fr D) (Q : VK) : Prop :=
  match r with
  | .ok d fr' => ∀ v H' Hv', Nxt B fr σ H Hv fr' H' Hv' → RepW B σ Hv' d v → Q v H'
  | .exc c fs fr' => ∀ dd H' Hv', Nxt B fr σ H Hv fr' H' Hv' → ExcAt B.G H' Hv' c fs dd → W (.ref (B.G.ecls c)) (some dd) σ H'
  | .bad => False
def dTE (B : Bd) (W : WX) (f : Ev) : TE := fun σ H Q => ∃ fr Hv, Rel B fr σ H Hv ∧ PostE B W fr σ H Hv (f fr) Q
/-- the end is a new list, owned by nothing as yet -/
def PostF (B : Bd) (W : WX) (fr : Fr) (σ : St) (H Hv : Hp) (r : Res Fr D) (Q : VK) : Prop :=
  match r with
  | .ok d fr' => ∀ p H' Hv', Nxt B fr σ H Hv fr' H' Hv' → H p = none → Hv' p = none → Cell B.G H' Hv' p d → Q (.ref p) H'
  | .exc c fs fr' => ∀ dd H' Hv', Nxt B fr σ H Hv fr' H' Hv' → ExcAt B.G H' Hv' c fs dd → W (.ref (B.G.ecls c)) (some dd) σ H'
  | .bad => False
def dTF (B : Bd) (W : WX) (f : Ev) : TE := fun σ H Q => ∃ fr Hv, Rel B fr σ H Hv ∧ PostF B W fr σ H Hv (f fr) Q
def RepWs (B : Bd) (σ : St) (Hv : Hp) : List D → List V → Prop
  | [], vs => vs = []
  | d :: ds, vs => ∃ v r, vs = v :: r ∧ RepW B σ Hv d v ∧ RepWs B σ Hv ds r
def PostA (B : Bd) (W : WX) (fr : Fr) (σ : St) (H Hv : Hp) (r : Res Fr (List D)) (Q : List V → Hp → Prop) : Prop :=
  match r with
  | .ok ds fr' => ∀ vs H' Hv', Nxt B fr σ H Hv fr' H' Hv' → RepWs B σ Hv' ds vs → Q vs H'
  | .exc c fs fr' => ∀ dd H' Hv', Nxt B fr σ H Hv fr' H' Hv' → ExcAt B.G H' Hv' c fs dd → W (.ref (B.G.ecls c)) (some dd) σ H'
  | .bad => False
def dTA (B : Bd) (W : WX) (f : Av) : TA := fun σ H Q => ∃ fr Hv, Rel B fr σ H Hv ∧ PostA B W fr σ H Hv (f fr) Q
def PostB (B : Bd) (W : WX) (fr : Fr) (σ : St) (H Hv : Hp) (r : Res Fr Bool) (Q : Bool → Hp → Prop) : Prop :=
  match r with
  | .ok b fr' => ∀ H' Hv', Nxt B fr σ H Hv fr' H' Hv' → Q b H'
  | .exc c fs fr' => ∀ dd H' Hv', Nxt B fr σ H Hv fr' H' Hv' → ExcAt B.G H' Hv' c fs dd → W (.ref (B.G.ecls c)) (some dd) σ H'
  | .bad => False
def dTT (B : Bd) (W : WX) (f : Bv) : TT := fun σ H Q => ∃ fr Hv, Rel B fr σ H Hv ∧ PostB B W fr σ H Hv (f fr) Q
def DE (X : Cx) (B : Bd) (W : WX) (e : Expr) (f : Ev) : Prop := PE X e (dTE B W f)
def DF (X : Cx) (B : Bd) (W : WX) (e : Expr) (f : Ev) : Prop := PE X e (dTF B W f)
def DA (X : Cx) (B : Bd) (W : WX) (es : List Expr) (f : Av) : Prop := PA X es (dTA B W f)
def DT (X : Cx) (B : Bd) (W : WX) (e : Expr) (f : Bv) : Prop := PT X e (dTT B W f)
def DW (X : Cx) (B : Bd) (W : WX) (e : Expr) (f : Bv) : Prop := PW X e (dTT B W f)
theorem pe_imp {X : Cx} {e : Expr} {t t' : TE} (h : PE X e t) (i : ∀ σ H Q, t' σ H Q → t σ H Q) : PE X e t' := ⟨fun pins s σ H Q I hw => h.run pins s σ H Q I (i σ H Q hw)⟩
theorem pt_imp {X : Cx} {e : Expr} {t t' : TT} (h : PT X e t) (i : ∀ σ H Q, t' σ H Q → t σ H Q) : PT X e t' := ⟨fun pins s σ H Q I hw => h.run pins s σ H Q I (i σ H Q hw)⟩
theorem pw_imp {X : Cx} {e : Expr} {t t' : TT} (h : PW X e t) (i : ∀ σ H Q, t' σ H Q → t σ H Q) : PW X e t' := ⟨fun wh pins s σ H Q I hw => h.run wh pins s σ H Q I (i σ H Q hw)⟩
theorem pa_imp {X : Cx} {es : List Expr} {t t' : TA} (h : PA X es t) (i : ∀ σ H Q, t' σ H Q → t σ H Q) : PA X es t' := ⟨fun pos pins s σ H Q I hw => h.run pos pins s σ H Q I (i σ H Q hw)⟩
theorem ps_imp {X : Cx} {st : Stmt} {t t' : TS} (h : PS X st t) (i : ∀ D σ H, t' D σ H → t D σ H) : PS X st t' := ⟨fun pins s σ H D I hw => h.run pins s σ H D I (i D σ H hw)⟩
theorem pss_imp {X : Cx} {st : List Stmt} {t t' : TS} (h : PSs X st t) (i : ∀ D σ H, t' D σ H → t D σ H) : PSs X st t' := ⟨fun pins s σ H D I hw => h.run pins s σ H D I (i D σ H hw)⟩
section
variable {B : Bd} {W : WX} {fr fr1 : Fr} {σ : St} {H H1 Hv Hv1 : Hp}
/-- a first step, then the rest -/
theorem PostE.step {r : Res Fr D} {Q : VK} (n : Nxt B fr σ H Hv fr1 H1 Hv1) (h : PostE B W fr σ H Hv r Q) : PostE B W fr1 σ H1 Hv1 r Q := by
  cases r with
  | ok d fr' => exact fun v H' Hv' m => h v H' Hv' (n.trans m)
  | exc c fs fr' => exact fun dd H' Hv' m => h dd H' Hv' (n.trans m)
  | bad => exact h
theorem PostB.step {r : Res Fr Bool} {Q : Bool → Hp → Prop} (n : Nxt B fr σ H Hv fr1 H1 Hv1) (h : PostB B W fr σ H Hv r Q) : PostB B W fr1 σ H1 Hv1 r Q := by
  cases r with
  | ok d fr' => exact fun H' Hv' m => h H' Hv' (n.trans m)
  | exc c fs fr' => exact fun dd H' Hv' m => h dd H' Hv' (n.trans m)
  | bad => exact h
theorem PostA.step {r : Res Fr (List D)} {Q : List V → Hp → Prop} (n : Nxt B fr σ H Hv fr1 H1 Hv1) (h : PostA B W fr σ H Hv r Q) : PostA B W fr1 σ H1 Hv1 r Q := by
  cases r with
  | ok d fr' => exact fun v H' Hv' m => h v H' Hv' (n.trans m)
  | exc c fs fr' => exact fun dd H' Hv' m => h dd H' Hv' (n.trans m)
  | bad => exact h
/-- what is new behind a step was new ahead of it -/
theorem Nxt.none (n : Nxt B fr σ H Hv fr1 H1 Hv1) (R : Rel B fr σ H Hv) {p : Addr} (hp : H1 p = none) : H p = none := by
  cases e : H p with
  | none => rfl
  | some o =>
    obtain ⟨o', h'⟩ := n.alive p o e
    rw [hp] at h'
    cases h'
theorem PostF.step {r : Res Fr D} {Q : VK} (n : Nxt B fr σ H Hv fr1 H1 Hv1) (R : Rel B fr σ H Hv) (h : PostF B W fr σ H Hv r Q) : PostF B W fr1 σ H1 Hv1 r Q := by
  cases r with
  | ok d fr' => exact fun p H' Hv' m hp => h p H' Hv' (n.trans m) (n.none R hp)
  | exc c fs fr' => exact fun dd H' Hv' m => h dd H' Hv' (n.trans m)
  | bad => exact h
end
end KS
namespace KS
open PySem PySem.Spec L2
def eVar (i : Nat) : Ev := fun fr => match fr[i]? with
  | some (some d) => .ok d fr
  | _ => .bad
def ePl (i : Nat) : Ev := fun fr => match fr[i]? with
  | some (some d) => if isCell d = true then .ok (.var i) fr else (match d with
    | .tup [e] => .ok e fr
    | _ => .bad)
  | _ => .bad
/-- the object of the slot is a value from now on -/
def eFz (i : Nat) : Ev := fun fr => match fr[i]? with
  | some (some d) => if isCell d = true then .ok d (fr.set i (some (.tup [d]))) else (match d with
    | .tup [e] => .ok e fr
    | _ => .bad)
  | _ => .bad
section
variable {B : Bd} {fr : Fr} {σ : L2.St} {H Hv : Hp}
theorem get_set {fr : Fr} {i j : Nat} {o : Option D} {x : Option D} (h : (fr.set i o)[j]? = some x) : (j = i ∧ x = o) ∨ (j ≠ i ∧ fr[j]? = some x) := by
  by_cases e : j = i
  · subst e
    rw [List.getElem?_set] at h
    simp only [if_true] at h
    split at h
    · cases h; exact .inl ⟨rfl, rfl⟩
    · cases h
  · rw [List.getElem?_set_ne (Ne.symm e)] at h
    exact .inr ⟨e, h⟩
/-- a slot is let go -/
theorem Rel.drop (R : Rel B fr σ H Hv) {i : Nat} (hio : ∀ p ∈ B.io, p.1 ≠ i) : Rel B (fr.set i none) σ H Hv where
  sub := R.sub
  ext0 := R.ext0
  new := R.new
  keep := R.keep
  len := by rw [List.length_set]; exact R.len
  val := fun j d h hm => by
    rcases get_set h with ⟨_, e⟩ | ⟨_, e⟩
    · cases e
    · exact R.val j d e hm
  box := fun j d h hc hm => by
    rcases get_set h with ⟨_, e⟩ | ⟨_, e⟩
    · cases e
    · exact R.box j d e hc hm
  own := fun j d h hm => by
    rcases get_set h.1 with ⟨_, e⟩ | ⟨_, e⟩
    · cases e
    · exact R.own j d ⟨e, h.2⟩ hm
  sep := fun j k a dj dk hj hk hjk e1 e2 => by
    rcases get_set e1.1 with ⟨_, e⟩ | ⟨_, e⟩
    · cases e
    rcases get_set e2.1 with ⟨_, f⟩ | ⟨_, f⟩
    · cases f
    exact R.sep j k a dj dk hj hk hjk ⟨e, e1.2⟩ ⟨f, e2.2⟩
  io := fun p hp => by
    obtain ⟨h1, ⟨d, h2, h3⟩, h4⟩ := R.io p hp
    exact ⟨h1, ⟨d, by rw [List.getElem?_set_ne (Ne.symm (hio p hp))]; exact h2, h3⟩, h4⟩
  tab := R.tab
theorem BoxR.w {B : Bd} {Hv : Hp} {σ : St} {i : Nat} {e : D} {v : V} (h : BoxR B Hv i e v) (hi : i ∈ B.M) (hs : σ[i]? = some (some v)) : RepW B σ Hv e v := by
  rcases h with h | ⟨rfl, _⟩
  · exact .of h
  · exact ⟨hi, hs⟩
theorem Rel.boxed (R : Rel B (fr.set i none) σ H Hv) {d : D} {v : V} (hi : i ∈ B.M) (hs : σ[i]? = some (some v)) (hr : Rep B.G Hv d v) : Rel B (fr.set i (some (.tup [d]))) σ H Hv where
  sub := R.sub
  ext0 := R.ext0
  new := R.new
  keep := R.keep
  len := by rw [List.length_set, ← R.len, List.length_set]
  val := fun j e h hm => by
    rcases get_set h with ⟨z, _⟩ | ⟨n, z⟩
    · subst z; exact absurd hi hm
    · exact R.val j e (by rw [List.getElem?_set_ne (Ne.symm n)]; exact z) hm
  box := fun j e h hc hm => by
    rcases get_set h with ⟨z, q⟩ | ⟨n, z⟩
    · subst z
      cases q
      exact ⟨d, v, rfl, hs, .inl hr⟩
    · exact R.box j e (by rw [List.getElem?_set_ne (Ne.symm n)]; exact z) hc hm
  own := fun j e h hm => by
    rcases get_set h.1 with ⟨z, q⟩ | ⟨n, z⟩
    · cases q; cases h.2
    · exact R.own j e ⟨by rw [List.getElem?_set_ne (Ne.symm n)]; exact z, h.2⟩ hm
  sep := fun j k a dj dk hj hk hjk e1 e2 => by
    rcases get_set e1.1 with ⟨_, e⟩ | ⟨n1, e⟩
    · cases e; cases e1.2
    rcases get_set e2.1 with ⟨_, f⟩ | ⟨n2, f⟩
    · cases f; cases e2.2
    exact R.sep j k a dj dk hj hk hjk ⟨by rw [List.getElem?_set_ne (Ne.symm n1)]; exact e, e1.2⟩ ⟨by rw [List.getElem?_set_ne (Ne.symm n2)]; exact f, e2.2⟩
  io := fun p hp => by
    obtain ⟨h1, ⟨e, h2, h3⟩, h4⟩ := R.io p hp
    have n : p.1 ≠ i := fun z => by
      rcases get_set h2 with ⟨_, e⟩ | ⟨n, _⟩
      · cases e
      · exact n z
    rcases get_set h2 with ⟨_, e⟩ | ⟨_, e⟩
    · cases e
    exact ⟨h1, ⟨_, by rw [List.getElem?_set_ne (Ne.symm n)]; exact e, h3⟩, h4⟩
  tab := R.tab
theorem Cell.ob {G : SE} {a : Addr} {d : D} (h : Cell G H Hv a d) : ∃ o, H a = some o ∧ (∀ ps, o ≠ .tbl ps) ∧ (∀ H2 : Hp, H2 a = some o → Cell G H2 Hv a d) ∧ (∀ Hv2 : Hp, Sub Hv Hv2 → Hv2 a = some o → Rep G Hv2 d (.ref a)) := by
  cases d with
  | lst ds =>
    obtain ⟨vs, e, r⟩ := h
    exact ⟨_, e, (fun ps z => by cases z), fun H2 q => ⟨vs, q, r⟩, fun Hv2 s q => Rep.lst q (RepL.mono s _ _ r)⟩
  | obj c ns fs =>
    obtain ⟨dx, vs, e, l, r⟩ := h
    exact ⟨_, e, (fun ps z => by cases z), fun H2 q => ⟨dx, vs, q, l, r⟩, fun Hv2 s q => Rep.obj q l (RepL.mono s _ _ r)⟩
  | dct ks ds =>
    obtain ⟨us, q, r⟩ := h
    rcases q with ⟨kvs, e, q⟩ | ⟨kvs, e, q⟩
    · exact ⟨_, e, (fun ps z => by cases z), fun H2 z => ⟨us, .inl ⟨kvs, z, q⟩, r⟩, fun Hv2 s z => Rep.dct (.inl ⟨kvs, z, q⟩) (RepL.mono s _ _ r)⟩
    · exact ⟨_, e, (fun ps z => by cases z), fun H2 z => ⟨us, .inr ⟨kvs, z, q⟩, r⟩, fun Hv2 s z => Rep.dct (.inr ⟨kvs, z, q⟩) (RepL.mono s _ _ r)⟩
  | _ => exact h.elim
theorem Cell.not_tup {G : SE} {a : Addr} {d : D} {ws : List V} (h : Cell G H Hv a d) (e : H a = some (.tup ws)) : False := by
  cases d with
  | lst ds => obtain ⟨vs, q, _⟩ := h; rw [e] at q; cases q
  | obj c ns fs => obtain ⟨dx, vs, q, _⟩ := h; rw [e] at q; cases q
  | dct ks ds =>
    obtain ⟨us, ⟨kvs, q, _⟩ | ⟨kvs, q, _⟩, _⟩ := h
    · rw [e] at q; cases q
    · rw [e] at q; cases q
  | _ => exact h.elim
theorem Rel.own_h0 (R : Rel B fr σ H Hv) {i : Nat} {a : Addr} {d : D} (hi : i ∈ B.M) (e : fr[i]? = some (some d) ∧ isCell d = true) (hs : σ[i]? = some (some (.ref a))) (hio : ∀ p ∈ B.io, p.1 ≠ i) : B.H0 a = none := by
  obtain ⟨a', hs', hva, hn, hc⟩ := R.own i d e hi
  rw [hs] at hs'
  cases hs'
  rcases hn with ⟨p, hp, z⟩ | hn
  · obtain ⟨h1, ⟨d', hd'⟩, h3⟩ := R.io p hp
    rw [z] at h3
    exact absurd hs (R.sep p.1 i a d' d h1 hi (hio p hp) hd' e h3)
  · exact hn
theorem Rel.fz (R : Rel B fr σ H Hv) {i : Nat} {d : D} (hi : i ∈ B.M) (e : fr[i]? = some (some d) ∧ isCell d = true) (hio : ∀ p ∈ B.io, p.1 ≠ i) :
    ∃ a Hv', σ[i]? = some (some (.ref a)) ∧ Nxt B fr σ H Hv (fr.set i (some (.tup [d]))) H Hv' ∧ Rep B.G Hv' d (.ref a) := by
  obtain ⟨a, hs, hva, _, hc⟩ := R.own i d e hi
  obtain ⟨o, ho, nt, _, rep⟩ := hc.ob
  have h0 := R.own_h0 hi e hs hio
  have no : ¬ Own B (fr.set i none) σ a := by
    rintro ⟨j, dj, hj, ⟨ej, cj⟩, sj⟩
    rcases get_set ej with ⟨_, z⟩ | ⟨n, z⟩
    · cases z
    · exact R.sep j i a dj d hj hi n ⟨z, cj⟩ e sj hs
  have s := sub_freeze R ho
  have R1 := (R.drop hio).freeze ho (.inl h0) nt no
  have rr := rep (upd Hv a o) s upd_same
  refine ⟨a, upd Hv a o, hs, ⟨R1.boxed hi hs rr, s, fun b u h _ _ => h, fun j dj hj ej => ?_, fun b u h => ⟨u, h⟩, fun b u h => ?_⟩, rr⟩
  · rcases get_set ej.1 with ⟨_, z⟩ | ⟨_, z⟩
    · cases z; cases ej.2
    · exact ⟨dj, z, ej.2⟩
  · by_cases eb : b = a
    · exact .inr (.inr ⟨i, d, hi, e, eb ▸ hs⟩)
    · rw [upd_ne eb] at h; exact .inl h
end
def eC (d : D) : Ev := fun fr => .ok d fr
section
variable {X : Cx} {B : Bd} {W : WX}
theorem d_var {i : Nat} {x : Str} {pos : Pos} (hi : i ∉ B.M) (hN : X.N[i]? = some x := by rfl) (hv : Vis X.env.scope x := by first | exact Or.inl rfl | exact Or.inr (Or.inl rfl) | exact Or.inr (Or.inr rfl)) (hd : (x == ("__debug__" : Str)) = false := by decide)
    (hcd : (x == ("__classdict__" : Str)) = false := by decide) : DE X B W (.Name x pos) (eVar i) := by
  refine pe_imp (pe_var hN hv hd hcd) fun σ H Q h => ?_
  obtain ⟨fr, Hv, R, h⟩ := h
  unfold eVar at h
  split at h
  · next d e =>
    obtain ⟨v, hs, hr⟩ := R.val i d e hi
    exact ⟨v, hs, h v H Hv (.refl R) (.of hr)⟩
  · exact h.elim
theorem d_pl {i : Nat} {x : Str} {pos : Pos} (hi : i ∈ B.M) (hN : X.N[i]? = some x := by rfl) (hv : Vis X.env.scope x := by first | exact Or.inl rfl | exact Or.inr (Or.inl rfl) | exact Or.inr (Or.inr rfl)) (hd : (x == ("__debug__" : Str)) = false := by decide)
    (hcd : (x == ("__classdict__" : Str)) = false := by decide) : DE X B W (.Name x pos) (ePl i) := by
  refine pe_imp (pe_var hN hv hd hcd) fun σ H Q h => ?_
  obtain ⟨fr, Hv, R, h⟩ := h
  unfold ePl at h
  split at h
  · next d e =>
    split at h
    · next c =>
      obtain ⟨a, hs, _⟩ := R.own i d ⟨e, c⟩ hi
      exact ⟨_, hs, h _ H Hv (.refl R) ⟨hi, hs⟩⟩
    · next c =>
      obtain ⟨e', v, rfl, hs, hr⟩ := R.box i d e (by simpa using c) hi
      exact ⟨v, hs, h v H Hv (.refl R) (hr.w hi hs)⟩
  · exact h.elim
theorem d_fz {i : Nat} {x : Str} {pos : Pos} (hi : i ∈ B.M) (hio : ∀ p ∈ B.io, p.1 ≠ i) (hN : X.N[i]? = some x := by rfl) (hv : Vis X.env.scope x := by first | exact Or.inl rfl | exact Or.inr (Or.inl rfl) | exact Or.inr (Or.inr rfl)) (hd : (x == ("__debug__" : Str)) = false := by decide)
    (hcd : (x == ("__classdict__" : Str)) = false := by decide) : DE X B W (.Name x pos) (eFz i) := by
  refine pe_imp (pe_var hN hv hd hcd) fun σ H Q h => ?_
  obtain ⟨fr, Hv, R, h⟩ := h
  unfold eFz at h
  split at h
  · next d e =>
    split at h
    · next c =>
      obtain ⟨a, Hv', hs, n, r⟩ := R.fz hi ⟨e, c⟩ hio
      exact ⟨_, hs, h _ H Hv' n (.of r)⟩
    · next c =>
      obtain ⟨e', v, rfl, hs, hr⟩ := R.box i d e (by simpa using c) hi
      exact ⟨v, hs, h v H Hv (.refl R) (hr.w hi hs)⟩
  · exact h.elim
theorem de_const {e : Expr} {v : V} {d : D} (hp : PE X e (tC v)) (hr : Rep B.G (fun _ => none) d v) : DE X B W e (eC d) := by
  refine pe_imp hp fun σ H Q h => ?_
  obtain ⟨fr, Hv, R, h⟩ := h
  exact h v H Hv (.refl R) (.of (Rep.mono (fun _ _ z => by cases z) _ _ hr))
theorem d_int {i j pos} : DE X B W (.Constant (.int i) j pos) (eC (.int i)) := de_const pe_int (Rep.int_iff.mpr rfl)
theorem d_bl {b j pos} : DE X B W (.Constant (.bool b) j pos) (eC (.bl b)) := de_const pe_bl (Rep.bl_iff.mpr rfl)
theorem d_non {j pos} : DE X B W (.Constant .none j pos) (eC .non) := de_const pe_non (Rep.non_iff.mpr rfl)
theorem d_str {x j pos} : DE X B W (.Constant (.str x) j pos) (eC (.str x)) := de_const pe_str (Rep.str_iff.mpr rfl)
/-- a module's constant -/
theorem d_glob {x : Str} {v : V} {u : Value} {d : D} {pos : Pos} (hr : Rep B.G (fun _ => none) d v) (hm : X.mg x = some u) (r : RelV v u) (hg : Gl X x := by rfl) (hd : (x == ("__debug__" : Str)) = false := by decide) : DE X B W (.Name x pos) (eC d) :=
  de_const (pe_glob hg hm r hd) hr
end
def ofO (o : Option D) (fr : Fr) : Res Fr D := match o with
  | some d => .ok d fr
  | none => .bad
def eOp2 (F : D → D → Option D) (f g : Ev) : Ev := fun fr => (f fr).bind fun x fr1 => (g fr1).bind fun y fr2 => match look fr2 x, look fr2 y with
  | some a, some b => ofO (F a b) fr2
  | _, _ => .bad
def eOp1 (F : D → Option D) (f : Ev) : Ev := fun fr => (f fr).bind fun x fr1 => match look fr1 x with
  | some a => ofO (F a) fr1
  | _ => .bad
/-- what an operation on two values gives: a value that stays -/
def OpS (B : Bd) (r : R2) (F : D → D → Option D) : Prop := ∀ fr σ H Hv x y dx dy a b z (Q : VK), Rel B fr σ H Hv → RepW B σ Hv dx x → RepW B σ Hv dy y → look fr dx = some a → look fr dy = some b → F a b = some z →
  (∀ v H' Hv', Nxt B fr σ H Hv fr H' Hv' → Rep B.G Hv' z v → Q v H') → r x y H Q
def OpF (B : Bd) (r : R2) (F : D → D → Option D) : Prop := ∀ fr σ H Hv x y dx dy a b z (Q : VK), Rel B fr σ H Hv → RepW B σ Hv dx x → RepW B σ Hv dy y → look fr dx = some a → look fr dy = some b → F a b = some z →
  (∀ p H' Hv', Nxt B fr σ H Hv fr H' Hv' → H p = none → Hv' p = none → Cell B.G H' Hv' p z → Q (.ref p) H') → r x y H Q
def UnS (B : Bd) (r : V → Hp → VK → Prop) (F : D → Option D) : Prop := ∀ fr σ H Hv x dx a z (Q : VK), Rel B fr σ H Hv → RepW B σ Hv dx x → look fr dx = some a → F a = some z →
  (∀ v H' Hv', Nxt B fr σ H Hv fr H' Hv' → Rep B.G Hv' z v → Q v H') → r x H Q
section
variable {X : Cx} {B : Bd} {W : WX} {f g : Ev} {σ : L2.St} {H : Hp} {Q : VK} {F : D → D → Option D} {r : R2}
theorem ent2 (hr : OpS B r F) (h : dTE B W (eOp2 F f g) σ H Q) : tOp r (dTE B W f) (dTE B W g) σ H Q := by
  obtain ⟨fr, Hv, R, h⟩ := h
  refine ⟨fr, Hv, R, ?_⟩
  unfold eOp2 at h
  cases hf : f fr with
  | bad => rw [hf] at h; exact h.elim
  | exc c fs fr1 => rw [hf] at h; exact h
  | ok x fr1 =>
    rw [hf] at h
    dsimp only [Res.bind] at h
    intro vx H1 Hv1 n1 r1
    refine ⟨fr1, Hv1, n1.rel, ?_⟩
    cases hg : g fr1 with
    | bad => rw [hg] at h; exact h.elim
    | exc c fs fr2 =>
      rw [hg] at h
      exact fun dd H' Hv' n => h dd H' Hv' (n1.trans n)
    | ok y fr2 =>
      rw [hg] at h
      dsimp only at h
      intro vy H2 Hv2 n2 r2
      cases hx : look fr2 x with
      | none => rw [hx] at h; exact h.elim
      | some a =>
        cases hy : look fr2 y with
        | none => rw [hx, hy] at h; exact h.elim
        | some b =>
          rw [hx, hy] at h
          dsimp only at h
          cases hz : F a b with
          | none => rw [hz] at h; exact h.elim
          | some z =>
            rw [hz] at h
            exact hr fr2 σ H2 Hv2 vx vy x y a b z Q n2.rel (r1.mono n2.ext) r2 hx hy hz fun v H' Hv' n q => h v H' Hv' ((n1.trans n2).trans n) (.of q)
theorem ent2F (hr : OpF B r F) (h : dTF B W (eOp2 F f g) σ H Q) : tOp r (dTE B W f) (dTE B W g) σ H Q := by
  obtain ⟨fr, Hv, R, h⟩ := h
  refine ⟨fr, Hv, R, ?_⟩
  unfold eOp2 at h
  cases hf : f fr with
  | bad => rw [hf] at h; exact h.elim
  | exc c fs fr1 => rw [hf] at h; exact h
  | ok x fr1 =>
    rw [hf] at h
    dsimp only [Res.bind] at h
    intro vx H1 Hv1 n1 r1
    refine ⟨fr1, Hv1, n1.rel, ?_⟩
    cases hg : g fr1 with
    | bad => rw [hg] at h; exact h.elim
    | exc c fs fr2 =>
      rw [hg] at h
      exact fun dd H' Hv' n => h dd H' Hv' (n1.trans n)
    | ok y fr2 =>
      rw [hg] at h
      dsimp only at h
      intro vy H2 Hv2 n2 r2
      cases hx : look fr2 x with
      | none => rw [hx] at h; exact h.elim
      | some a =>
        cases hy : look fr2 y with
        | none => rw [hx, hy] at h; exact h.elim
        | some b =>
          rw [hx, hy] at h
          dsimp only at h
          cases hz : F a b with
          | none => rw [hz] at h; exact h.elim
          | some z =>
            rw [hz] at h
            exact hr fr2 σ H2 Hv2 vx vy x y a b z Q n2.rel (r1.mono n2.ext) r2 hx hy hz fun p H' Hv' n hp q => h p H' Hv' ((n1.trans n2).trans n) ((n1.trans n2).none R hp) q
theorem ent1 {r : V → Hp → VK → Prop} {F : D → Option D} (hr : UnS B r F) (h : dTE B W (eOp1 F f) σ H Q) : tUn r (dTE B W f) σ H Q := by
  obtain ⟨fr, Hv, R, h⟩ := h
  refine ⟨fr, Hv, R, ?_⟩
  unfold eOp1 at h
  cases hf : f fr with
  | bad => rw [hf] at h; exact h.elim
  | exc c fs fr1 => rw [hf] at h; exact h
  | ok x fr1 =>
    rw [hf] at h
    dsimp only [Res.bind] at h
    intro vx H1 Hv1 n1 r1
    cases hx : look fr1 x with
    | none => rw [hx] at h; exact h.elim
    | some a =>
      rw [hx] at h
      dsimp only at h
      cases hz : F a with
      | none => rw [hz] at h; exact h.elim
      | some z =>
        rw [hz] at h
        exact hr fr1 σ H1 Hv1 vx x a z Q n1.rel r1 hx hz fun v H' Hv' n q => h v H' Hv' (n1.trans n) (.of q)
/-- a new list as a value -/
theorem df_de {f : Ev} {σ : L2.St} {H : Hp} {Q : VK} (h : dTE B W f σ H Q) : dTF B W f σ H Q := by
  obtain ⟨fr, Hv, R, h⟩ := h
  refine ⟨fr, Hv, R, ?_⟩
  cases hf : f fr with
  | bad => rw [hf] at h; exact h.elim
  | exc c fs fr1 => rw [hf] at h; exact h
  | ok d fr1 =>
    rw [hf] at h
    intro p H' Hv' n hp hvp hc
    have no : ¬ Own B fr1 σ p := fun o => by
      have o' : Own B fr σ p := own_shp n.shp o
      obtain ⟨⟨u, hu⟩, _⟩ := R.own_some o'
      rw [hp] at hu
      cases hu
    have h0 := R.h0_none hp
    have nv : ∀ {o : HO} (b : Addr) (u : HO), upd Hv' p o b = some u → Hv b = some u ∨ NewOk H b u ∨ Own B fr σ b := fun {o} b u h => by
      by_cases e : b = p
      · exact .inr (.inl (.inl (e ▸ hp)))
      · rw [upd_ne e] at h; exact n.newv b u h
    cases d with
    | lst ds =>
      obtain ⟨vs, e1, r⟩ := hc
      have nt : ∀ ps, HO.lst vs ≠ .tbl ps := fun ps z => by cases z
      have s := sub_freeze n.rel e1
      exact h (.ref p) H' (upd Hv' p (.lst vs)) ⟨n.rel.freeze e1 (.inl h0) nt no, n.ext.trans s, n.keep, n.shp, n.alive, nv⟩ (.of (Rep.lst upd_same (RepL.mono s _ _ r)))
    | obj c ns fs =>
      obtain ⟨dx, vs, e1, l, r⟩ := hc
      have nt : ∀ ps, HO.ins (B.G.cls c) dx ((ns.map B.G.fld).zip vs) ≠ .tbl ps := fun ps z => by cases z
      have s := sub_freeze n.rel e1
      exact h (.ref p) H' (upd Hv' p (.ins (B.G.cls c) dx ((ns.map B.G.fld).zip vs))) ⟨n.rel.freeze e1 (.inl h0) nt no, n.ext.trans s, n.keep, n.shp, n.alive, nv⟩ (.of (Rep.obj upd_same l (RepL.mono s _ _ r)))
    | dct ks ds =>
      obtain ⟨us, q, r⟩ := hc
      obtain ⟨o, e1, nt⟩ : ∃ o, H' p = some o ∧ ∀ ps, o ≠ .tbl ps := by
        rcases q with ⟨kvs, e, _⟩ | ⟨kvs, e, _⟩
        · exact ⟨_, e, fun ps z => by cases z⟩
        · exact ⟨_, e, fun ps z => by cases z⟩
      have s := sub_freeze n.rel e1
      exact h (.ref p) H' (upd Hv' p o) ⟨n.rel.freeze e1 (.inl h0) nt no, n.ext.trans s, n.keep, n.shp, n.alive, nv⟩ (.of (Rep.dct (q.at fun u z => by rw [e1] at z; cases z; exact upd_same) (RepL.mono s _ _ r)))
    | _ => exact hc.elim
theorem DF.de {e : Expr} {f : Ev} (h : DF X B W e f) : DE X B W e f := pe_imp h fun _ _ _ h => df_de h
end
end KS
namespace KS
open PySem PySem.Spec L2
def addF : D → D → Option D
  | .int i, .int j => some (.int (i + j))
  | .str x, .str y => if x.length + y.length ≤ sizeLine then some (.str (x ++ y)) else none
  | .tup a, .tup b => if a.length + b.length ≤ sizeLine then some (.tup (a ++ b)) else none
  | .lst a, .lst b => if a.length + b.length ≤ sizeLine then some (.lst (a ++ b)) else none
  | _, _ => none
def catF : D → D → Option D
  | .lst a, .lst b => if a.length + b.length ≤ sizeLine then some (.lst (a ++ b)) else none
  | _, _ => none
def subF : D → D → Option D
  | .int i, .int j => some (.int (i - j))
  | _, _ => none
def mulF : D → D → Option D
  | .int i, .int j => if (-(2 ^ 64) < i ∧ i < 2 ^ 64) ∨ (-(2 ^ 64) < j ∧ j < 2 ^ 64) then some (.int (i * j)) else none
  | _, _ => none
def fdivF : D → D → Option D
  | .int i, .int j => if 0 < j ∧ j < 1073741824 then some (.int (i / j)) else none
  | _, _ => none
def modF : D → D → Option D
  | .int i, .int j => if 0 < j then some (.int (i % j)) else none
  | _, _ => none
def powF : D → D → Option D
  | .int i, .int j => if 0 ≤ j ∧ j ≤ 1000000 ∧ i.natAbs < 2 ^ 64 then some (.int (i ^ j.toNat)) else none
  | _, _ => none
def negF : D → Option D
  | .int i => some (.int (-i))
  | _ => none
section
variable {B : Bd} {fr : Fr} {σ : L2.St} {H Hv : Hp}
/-- a value laid and at once a value -/
theorem lay_tup (R : Rel B fr σ H Hv) {p : Addr} {xs : List V} {ds : List D} (hp : H p = none) (r : RepL B.G Hv ds xs) {Q : VK}
    (k : ∀ v H' Hv', Nxt B fr σ H Hv fr H' Hv' → Rep B.G Hv' (.tup ds) v → Q v H') : Q (.ref p) (upd H p (.tup xs)) :=
  have nt : ∀ ps, HO.tup xs ≠ .tbl ps := fun ps z => by cases z
  k _ _ _ (Nxt.layV R hp nt) (Rep.tup upd_same (RepL.mono ((Sub.refl Hv).put (R.hv_none hp)) _ _ r))
theorem lay_lst (R : Rel B fr σ H Hv) {p : Addr} {xs : List V} {ds : List D} (hp : H p = none) (r : RepL B.G Hv ds xs) {Q : VK}
    (k : ∀ v H' Hv', Nxt B fr σ H Hv fr H' Hv' → Rep B.G Hv' (.lst ds) v → Q v H') : Q (.ref p) (upd H p (.lst xs)) :=
  have nt : ∀ ps, HO.lst xs ≠ .tbl ps := fun ps z => by cases z
  k _ _ _ (Nxt.layV R hp nt) (Rep.lst upd_same (RepL.mono ((Sub.refl Hv).put (R.hv_none hp)) _ _ r))
/-- a new list, owned by nothing as yet -/
theorem lay_own (R : Rel B fr σ H Hv) {p : Addr} {xs : List V} {ds : List D} (hp : H p = none) (r : RepL B.G Hv ds xs) {Q : VK}
    (k : ∀ p H' Hv', Nxt B fr σ H Hv fr H' Hv' → H p = none → Hv' p = none → Cell B.G H' Hv' p (.lst ds) → Q (.ref p) H') : Q (.ref p) (upd H p (.lst xs)) :=
  k _ _ Hv ⟨R.lay hp, .refl _, fun b u h _ _ => by rw [upd_ne (ne_of_none h hp)]; exact h, .refl _ _, fun b u h => ⟨u, by rw [upd_ne (ne_of_none h hp)]; exact h⟩, fun b u h => .inl h⟩ hp (R.hv_none hp) ⟨xs, upd_same, r⟩
end
section
variable {X : Cx} {B : Bd} {W : WX} {a b : Expr} {f g : Ev} {pos : Pos}
theorem ops_ints {r : R2} {F : D → D → Option D} (hF : ∀ x y z, F x y = some z → ∃ i j, x = .int i ∧ y = .int j) (hr : ∀ i j z H Q, F (.int i) (.int j) = some z → (∀ v, Rep B.G (fun _ => none) z v → Q v H) → r (.int i) (.int j) H Q) : OpS B r F := by
  intro fr σ H Hv x y dx dy a b z Q R rx ry hx hy hz k
  obtain ⟨i, j, rfl, rfl⟩ := hF _ _ _ hz
  rw [R.int_of rx hx, R.int_of ry hy]
  exact hr i j z H Q hz fun v hv => k v H Hv (.refl R) (Rep.mono (fun _ _ z => by cases z) _ _ hv)
theorem repI {G : SE} {H : Hp} {i : Int} : Rep G H (.int i) (.int i) := Rep.int_iff.mpr rfl
theorem repB {G : SE} {H : Hp} {i : Bool} : Rep G H (.bl i) (.bl i) := Rep.bl_iff.mpr rfl
theorem repS {G : SE} {H : Hp} {i : Str} : Rep G H (.str i) (.str i) := Rep.str_iff.mpr rfl
theorem repN {G : SE} {H : Hp} : Rep G H .non .non := Rep.non_iff.mpr rfl
theorem ints_of {F : D → D → Option D} (h : ∀ x y, (∀ i j, ¬ (x = .int i ∧ y = .int j)) → F x y = none) : ∀ x y z, F x y = some z → ∃ i j, x = .int i ∧ y = .int j := fun x y z e => by
  refine Classical.byContradiction fun n => ?_
  rw [h x y fun i j q => n ⟨i, j, q⟩] at e
  cases e
theorem ops_sub : OpS B (rI0 fun i j => .int (i - j)) subF := ops_ints (ints_of fun x y h => by cases x <;> cases y <;> first | rfl | exact absurd ⟨rfl, rfl⟩ (h _ _)) fun i j z H Q e k => by
  cases e
  exact ⟨i, j, rfl, rfl, k _ repI⟩
theorem ops_mul : OpS B (rI CMul fun i j => .int (i * j)) mulF := ops_ints (ints_of fun x y h => by cases x <;> cases y <;> first | rfl | exact absurd ⟨rfl, rfl⟩ (h _ _)) fun i j z H Q e k => by
  unfold mulF at e
  dsimp only at e
  split at e
  · next c => cases e; exact ⟨i, j, rfl, rfl, c, k _ repI⟩
  · cases e
theorem ops_fdiv : OpS B (rI CDiv fun i j => .int (i / j)) fdivF := ops_ints (ints_of fun x y h => by cases x <;> cases y <;> first | rfl | exact absurd ⟨rfl, rfl⟩ (h _ _)) fun i j z H Q e k => by
  unfold fdivF at e
  dsimp only at e
  split at e
  · next c => cases e; exact ⟨i, j, rfl, rfl, c, k _ repI⟩
  · cases e
theorem ops_mod : OpS B (rI (fun _ j => 0 < j) fun i j => .int (i % j)) modF := ops_ints (ints_of fun x y h => by cases x <;> cases y <;> first | rfl | exact absurd ⟨rfl, rfl⟩ (h _ _)) fun i j z H Q e k => by
  unfold modF at e
  dsimp only at e
  split at e
  · next c => cases e; exact ⟨i, j, rfl, rfl, c, k _ repI⟩
  · cases e
theorem ops_pow : OpS B (rI CPow fun i j => .int (i ^ j.toNat)) powF := ops_ints (ints_of fun x y h => by cases x <;> cases y <;> first | rfl | exact absurd ⟨rfl, rfl⟩ (h _ _)) fun i j z H Q e k => by
  unfold powF at e
  dsimp only at e
  split at e
  · next c => cases e; exact ⟨i, j, rfl, rfl, c, k _ repI⟩
  · cases e
theorem d_sub (ha : DE X B W a f) (hb : DE X B W b g) : DE X B W (.BinOp a .Sub b pos) (eOp2 subF f g) := pe_imp (pe_op op_sub ha hb) fun _ _ _ h => ent2 ops_sub h
theorem d_mul (ha : DE X B W a f) (hb : DE X B W b g) : DE X B W (.BinOp a .Mult b pos) (eOp2 mulF f g) := pe_imp (pe_op op_mul ha hb) fun _ _ _ h => ent2 ops_mul h
theorem d_fdiv (ha : DE X B W a f) (hb : DE X B W b g) : DE X B W (.BinOp a .FloorDiv b pos) (eOp2 fdivF f g) := pe_imp (pe_op op_fdiv ha hb) fun _ _ _ h => ent2 ops_fdiv h
theorem d_mod (ha : DE X B W a f) (hb : DE X B W b g) : DE X B W (.BinOp a .Mod b pos) (eOp2 modF f g) := pe_imp (pe_op op_mod ha hb) fun _ _ _ h => ent2 ops_mod h
theorem d_pow (ha : DE X B W a f) (hb : DE X B W b g) : DE X B W (.BinOp a .Pow b pos) (eOp2 powF f g) := pe_imp (pe_op op_pow ha hb) fun _ _ _ h => ent2 ops_pow h
theorem ops_add (hK : X.K = B.G.K) : OpS B (fun x y H Q => (∃ i j, x = .int i ∧ y = .int j ∧ Q (.int (i + j)) H) ∨ ((∃ i j, x = .str i ∧ y = .str j ∧ i.length + j.length ≤ sizeLine ∧ Q (.str (i ++ j)) H) ∨ (rCatA X.K x y H Q ∨ rCat x y H Q))) addF := by
  intro fr σ H Hv x y dx dy a b z Q R rx ry hx hy hz k
  unfold addF at hz
  split at hz
  · cases hz
    rw [R.int_of rx hx, R.int_of ry hy]
    exact .inl ⟨_, _, rfl, rfl, k _ H Hv (.refl R) repI⟩
  · split at hz
    · next c =>
      cases hz
      rw [R.str_of rx hx, R.str_of ry hy]
      exact .inr (.inl ⟨_, _, rfl, rfl, c, k _ H Hv (.refl R) repS⟩)
    · cases hz
  · split at hz
    · next c =>
      cases hz
      obtain ⟨p, vs, rfl, q1, q1v, r1⟩ := R.tup_of rx hx
      obtain ⟨q, us, rfl, q2, q2v, r2⟩ := R.tup_of ry hy
      refine .inr (.inr (.inl ⟨p, q, vs, us, rfl, rfl, by rw [hK]; exact q1, by rw [hK]; exact q2, by rw [r1.length, r2.length]; exact c, fun e => ?_, fun e1 e2 => ?_, fun e1 e2 t ht => ?_⟩))
      · subst e
        have e1 := List.eq_nil_of_length_eq_zero r1.length.symm
        subst e1
        exact k _ H Hv (.refl R) (by simpa using Rep.tup q2v r2)
      · subst e2
        have e2' := List.eq_nil_of_length_eq_zero r2.length.symm
        subst e2'
        exact k _ H Hv (.refl R) (by simpa using Rep.tup q1v r1)
      · exact lay_tup R ht (r1.append r2) k
    · cases hz
  · split at hz
    · next c =>
      cases hz
      obtain ⟨p, vs, rfl, q1, r1⟩ := R.list_of rx hx
      obtain ⟨q, us, rfl, q2, r2⟩ := R.list_of ry hy
      exact .inr (.inr (.inr ⟨p, q, vs, us, rfl, rfl, q1, q2, by rw [r1.length, r2.length]; exact c, fun t ht => lay_lst R ht (r1.append r2) k⟩))
    · cases hz
  · cases hz
theorem d_add (ha : DE X B W a f) (hb : DE X B W b g) (hK : X.K = B.G.K := by rfl) : DE X B W (.BinOp a .Add b pos) (eOp2 addF f g) :=
  pe_imp (pe_op (op_add.or (op_add_str.or (op_catA.or op_cat))) ha hb) fun _ _ _ h => ent2 (ops_add hK) h
theorem opf_cat : OpF B rCat catF := by
  intro fr σ H Hv x y dx dy a b z Q R rx ry hx hy hz k
  unfold catF at hz
  split at hz
  · split at hz
    · next c =>
      cases hz
      obtain ⟨p, vs, rfl, q1, r1⟩ := R.list_of rx hx
      obtain ⟨q, us, rfl, q2, r2⟩ := R.list_of ry hy
      exact ⟨p, q, vs, us, rfl, rfl, q1, q2, by rw [r1.length, r2.length]; exact c, fun t ht => lay_own R ht (r1.append r2) k⟩
    · cases hz
  · cases hz
theorem d_catF (ha : DE X B W a f) (hb : DE X B W b g) : DF X B W (.BinOp a .Add b pos) (eOp2 catF f g) := pe_imp (pe_op op_cat ha hb) fun _ _ _ h => ent2F opf_cat h
theorem uns_neg : UnS B (rU fun i => .int (-i)) negF := by
  intro fr σ H Hv x dx a z Q R rx hx hz k
  unfold negF at hz
  split at hz
  · cases hz
    rw [R.int_of rx hx]
    exact ⟨_, rfl, k _ H Hv (.refl R) repI⟩
  · cases hz
theorem d_neg (ha : DE X B W a f) : DE X B W (.UnaryOp .USub a pos) (eOp1 negF f) := pe_imp (pe_un un_neg ha) fun _ _ _ h => ent1 uns_neg h
end
mutual
def pyOf : D → Option PyData
  | .non => some .none
  | .bl b => some (.bool b)
  | .int i => some (.int i)
  | .str x => some (.str x)
  | .tup ds => (pyOfL ds).map .tuple
  | .lst ds => (pyOfL ds).map .list
  | _ => none
def pyOfL : List D → Option (List PyData)
  | [] => some []
  | d :: ds => match pyOf d, pyOfL ds with
    | some p, some ps => some (p :: ps)
    | _, _ => none
end
mutual
theorem dp_of {G : SE} {H Hv : Hp} (s : Sub Hv H) : ∀ (d : D) (v : V) (p : PyData), Rep G Hv d v → pyOf d = some p → Dp G.K H v p
  | .non, v, p, h, e => by
    rw [Rep.non_iff.mp h]
    simp only [pyOf] at e
    cases e
    exact .non
  | .bl b, v, p, h, e => by
    rw [Rep.bl_iff.mp h]
    simp only [pyOf] at e
    cases e
    exact .bl _
  | .int i, v, p, h, e => by
    rw [Rep.int_iff.mp h]
    simp only [pyOf] at e
    cases e
    exact .int _
  | .str x, v, p, h, e => by
    rw [Rep.str_iff.mp h]
    simp only [pyOf] at e
    cases e
    exact .str _
  | .tup ds, v, p, h, e => by
    obtain ⟨a, vs, rfl, q, r⟩ := Rep.tup_inv h
    simp only [pyOf, Option.map_eq_some_iff] at e
    obtain ⟨ps, e1, rfl⟩ := e
    exact .tup (s.sqt q) (dpL_of s ds vs ps r e1)
  | .lst ds, v, p, h, e => by
    obtain ⟨a, vs, rfl, q, r⟩ := Rep.lst_inv h
    simp only [pyOf, Option.map_eq_some_iff] at e
    obtain ⟨ps, e1, rfl⟩ := e
    exact .lst (SqL.of (s _ _ q)) (dpL_of s ds vs ps r e1)
  | .scr _, _, _, _, e => by simp only [pyOf] at e; cases e
  | .obj _ _ _, _, _, _, e => by simp only [pyOf] at e; cases e
  | .dct _ _, _, _, _, e => by simp only [pyOf] at e; cases e
  | .var _, _, _, _, e => by simp only [pyOf] at e; cases e
theorem dpL_of {G : SE} {H Hv : Hp} (s : Sub Hv H) : ∀ (ds : List D) (vs : List V) (ps : List PyData), RepL G Hv ds vs → pyOfL ds = some ps → DpAll G.K H vs ps
  | [], vs, ps, h, e => by
    rw [h.nil_inv]
    simp only [pyOfL] at e
    cases e
    exact .nil
  | d :: ds, vs, ps, h, e => by
    obtain ⟨v, r, rfl, h1, h2⟩ := h.cons_inv
    simp only [pyOfL] at e
    split at e
    · next p qs e1 e2 =>
      cases e
      exact .cons (dp_of s d v p h1 e1) (dpL_of s ds r qs h2 e2)
    · cases e
end
theorem dp_look {B : Bd} {fr : Fr} {σ : L2.St} {H Hv : Hp} (R : Rel B fr σ H Hv) {d e : D} {v : V} {p : PyData} (h : RepW B σ Hv d v) (hl : look fr d = some e) (hp : pyOf e = some p) : Dp B.G.K H v p := by
  cases d with
  | var i =>
    cases e with
    | lst ds =>
      obtain ⟨a, vs, rfl, q, r⟩ := R.list_of h hl
      simp only [pyOf, Option.map_eq_some_iff] at hp
      obtain ⟨ps, e1, rfl⟩ := hp
      exact .lst (SqL.of q) (dpL_of R.sub ds vs ps r e1)
    | obj _ _ _ => simp only [pyOf] at hp; cases hp
    | dct _ _ => simp only [pyOf] at hp; cases hp
    | _ => exact dp_of R.sub _ _ _ (look_scalar R h hl rfl) hp
  | _ =>
    cases hl
    exact dp_of R.sub _ _ _ h hp
/-- the scalars that == tells apart as data does -/
def scalE : D → D → Option Bool
  | .non, .non => some true | .non, .int _ => some false | .int _, .non => some false | .non, .bl _ => some false | .bl _, .non => some false | .non, .str _ => some false | .str _, .non => some false
  | .int i, .int j => some (decide (i = j)) | .bl i, .bl j => some (decide (i = j)) | .str i, .str j => some (decide (i = j))
  | .int _, .str _ => some false | .str _, .int _ => some false | .bl _, .str _ => some false | .str _, .bl _ => some false
  | _, _ => none
def eqB (a b : D) : Option Bool := match scalE a b with
  | some k => some k
  | none => match pyOf a, pyOf b with
    | some p, some q => if SeqAt.shaped p && SeqAt.shaped q then some (PyData.eqv p q) else none
    | _, _ => none
def eqF (a b : D) : Option D := (eqB a b).map D.bl
def neF (a b : D) : Option D := (eqB a b).map fun k => D.bl (!k)
def inB (a b : D) : Option Bool := match pyOf a, pyOf b with
  | some p, some (.list qs) => if SeqAt.shaped p && SeqAt.shaped (.list qs) then some (qs.any fun z => PyData.eqv z p) else none
  | _, _ => none
section
variable {X : Cx} {B : Bd} {W : WX} {a b c : Expr} {f g h : Ev} {pos : Pos}
theorem scal_of {a b : D} {k : Bool} {x y : V} {G : SE} {H : Hp} (e : scalE a b = some k) (hx : Rep G H a x) (hy : Rep G H b y) : scal x y = true ∧ decide (x = y) = k := by
  unfold scalE at e
  split at e <;> first
    | (cases e
       simp only [Rep] at hx hy
       subst hx hy
       exact ⟨rfl, by simp⟩)
    | cases e
theorem scalE_cell {a b : D} {k : Bool} (e : scalE a b = some k) : isCell a = false ∧ isCell b = false := by
  unfold scalE at e
  split at e <;> first
    | exact ⟨rfl, rfl⟩
    | cases e
theorem ops_eqg {r : Bool → V} (hK : X.K = B.G.K) (rr : Bool → D) (hr : ∀ k H, Rep B.G H (rr k) (r k)) : OpS B (fun x y H Q => (scal x y = true ∧ Q (r (decide (x = y))) H) ∨ ∃ d e, Dp X.K H x d ∧ Dp X.K H y e ∧ SeqAt.shaped d = true ∧ SeqAt.shaped e = true ∧ Q (r (PyData.eqv d e)) H) (fun a b => (eqB a b).map rr) := by
  intro fr σ H Hv x y dx dy a b z Q R rx ry hx hy hz k
  simp only [Option.map_eq_some_iff] at hz
  obtain ⟨m, hz, rfl⟩ := hz
  unfold eqB at hz
  split at hz
  · next kk e =>
    cases hz
    obtain ⟨c1, c2⟩ := scalE_cell e
    obtain ⟨h1, h2⟩ := scal_of e (look_scalar R rx hx c1) (look_scalar R ry hy c2)
    refine .inl ⟨h1, ?_⟩
    rw [h2]
    exact k _ H Hv (.refl R) (hr _ _)
  · split at hz
    · next p q ep eq =>
      split at hz
      · next c =>
        cases hz
        have c' := Bool.and_eq_true_iff.mp c
        refine .inr ⟨p, q, ?_, ?_, c'.1, c'.2, k _ H Hv (.refl R) (hr _ _)⟩
        · rw [hK]; exact dp_look R rx hx ep
        · rw [hK]; exact dp_look R ry hy eq
      · cases hz
    · cases hz
theorem ops_eq (hK : X.K = B.G.K) : OpS B (fun x y H Q => rEq x y H Q ∨ rEqD X.K x y H Q) eqF := ops_eqg (r := V.bl) hK D.bl fun _ _ => repB
theorem ops_ne (hK : X.K = B.G.K) : OpS B (fun x y H Q => rNe x y H Q ∨ rNeD X.K x y H Q) neF := ops_eqg (r := fun k => V.bl (!k)) hK (fun k => D.bl (!k)) fun _ _ => repB
/-- order of ints -/
def ltF : D → D → Option D
  | .int i, .int j => some (.bl (decide (i < j)))
  | _, _ => none
def leF : D → D → Option D
  | .int i, .int j => some (.bl (decide (i ≤ j)))
  | _, _ => none
def gtF : D → D → Option D
  | .int i, .int j => some (.bl (decide (j < i)))
  | _, _ => none
def geF : D → D → Option D
  | .int i, .int j => some (.bl (decide (j ≤ i)))
  | _, _ => none
def isNon : D → Bool
  | .non => true
  | _ => false
def isNF : D → D → Option D
  | a, .non => some (.bl (isNon a))
  | _, _ => none
def notNF : D → D → Option D
  | a, .non => some (.bl (!isNon a))
  | _, _ => none
def inF (a b : D) : Option D := (inB a b).map D.bl
def notInF (a b : D) : Option D := (inB a b).map fun k => D.bl (!k)
theorem ops_lt : OpS B (rI0 fun i j => .bl (decide (i < j))) ltF := ops_ints (ints_of fun x y h => by cases x <;> cases y <;> first | rfl | exact absurd ⟨rfl, rfl⟩ (h _ _)) fun i j z H Q e k => by
  cases e
  exact ⟨i, j, rfl, rfl, k _ repB⟩
theorem ops_le : OpS B (rI0 fun i j => .bl (decide (i ≤ j))) leF := ops_ints (ints_of fun x y h => by cases x <;> cases y <;> first | rfl | exact absurd ⟨rfl, rfl⟩ (h _ _)) fun i j z H Q e k => by
  cases e
  exact ⟨i, j, rfl, rfl, k _ repB⟩
theorem ops_gt : OpS B (rI0 fun i j => .bl (decide (j < i))) gtF := ops_ints (ints_of fun x y h => by cases x <;> cases y <;> first | rfl | exact absurd ⟨rfl, rfl⟩ (h _ _)) fun i j z H Q e k => by
  cases e
  exact ⟨i, j, rfl, rfl, k _ repB⟩
theorem ops_ge : OpS B (rI0 fun i j => .bl (decide (j ≤ i))) geF := ops_ints (ints_of fun x y h => by cases x <;> cases y <;> first | rfl | exact absurd ⟨rfl, rfl⟩ (h _ _)) fun i j z H Q e k => by
  cases e
  exact ⟨i, j, rfl, rfl, k _ repB⟩
theorem non_look {fr : Fr} {σ : L2.St} {H Hv : Hp} (R : Rel B fr σ H Hv) {d e : D} {v : V} (h : RepW B σ Hv d v) (hl : look fr d = some e) : decide (v = .non) = isNon e := by
  cases e with
  | non => rw [R.non_of h hl]; rfl
  | bl i => rw [R.bl_of h hl]; rfl
  | int i => rw [R.int_of h hl]; rfl
  | str i => rw [R.str_of h hl]; rfl
  | tup ds =>
    obtain ⟨a, vs, rfl, _⟩ := R.tup_of h hl
    rfl
  | lst ds =>
    obtain ⟨a, vs, rfl, _⟩ := R.list_of h hl
    rfl
  | scr ns =>
    obtain ⟨a, rfl, _⟩ := Rep.scr_inv (look_scalar R h hl rfl)
    rfl
  | var i => exact (Rep.no_var (look_scalar R h hl rfl)).elim
  | obj c ns fs =>
    cases d with
    | var i =>
      obtain ⟨hm, hs⟩ := h
      obtain ⟨a, hs', _⟩ := R.own i _ (look_var hl) hm
      rw [hs] at hs'
      cases hs'
      rfl
    | obj c' ns' fs' =>
      obtain ⟨a, dx, vs, rfl, _⟩ := Rep.obj_inv h
      rfl
    | _ => cases hl
  | dct ks ds =>
    cases d with
    | var i =>
      obtain ⟨hm, hs⟩ := h
      obtain ⟨a, hs', _⟩ := R.own i _ (look_var hl) hm
      rw [hs] at hs'
      cases hs'
      rfl
    | dct ks' ds' =>
      obtain ⟨a, us, rfl, _⟩ := Rep.dct_inv h
      rfl
    | _ => cases hl
theorem ops_isN : OpS B (fun x y H Q => y = .non ∧ Q (.bl (decide (x = .non))) H) isNF := by
  intro fr σ H Hv x y dx dy a b z Q R rx ry hx hy hz k
  cases b <;> first | cases hz | skip
  refine ⟨R.non_of ry hy, ?_⟩
  rw [non_look R rx hx]
  exact k _ H Hv (.refl R) repB
theorem ops_notN : OpS B (fun x y H Q => y = .non ∧ Q (.bl (!decide (x = .non))) H) notNF := by
  intro fr σ H Hv x y dx dy a b z Q R rx ry hx hy hz k
  cases b <;> first | cases hz | skip
  refine ⟨R.non_of ry hy, ?_⟩
  rw [non_look R rx hx]
  exact k _ H Hv (.refl R) repB
theorem ops_ing (hK : X.K = B.G.K) (r : Bool → V) (rr : Bool → D) (hr : ∀ k H, Rep B.G H (rr k) (r k)) : OpS B (fun x y H Q => ∃ d ds, Dp X.K H x d ∧ Dp X.K H y (.list ds) ∧ SeqAt.shaped d = true ∧ SeqAt.shaped (.list ds) = true ∧ Q (r (ds.any fun z => PyData.eqv z d)) H) (fun a b => (inB a b).map rr) := by
  intro fr σ H Hv x y dx dy a b z Q R rx ry hx hy hz k
  simp only [Option.map_eq_some_iff] at hz
  obtain ⟨m, hz, rfl⟩ := hz
  unfold inB at hz
  split at hz
  · next p qs ep eq =>
    split at hz
    · next c =>
      cases hz
      have c' := Bool.and_eq_true_iff.mp c
      refine ⟨p, qs, ?_, ?_, c'.1, c'.2, k _ H Hv (.refl R) (hr _ _)⟩
      · rw [hK]; exact dp_look R rx hx ep
      · rw [hK]; exact dp_look R ry hy eq
    · cases hz
  · cases hz
end
end KS
namespace KS
open PySem PySem.Spec L2
def bE (e : Ev) : Bv := fun fr => (e fr).bind fun d fr1 => match d with
  | .bl b => .ok b fr1
  | _ => .bad
def bAnd (f g : Bv) : Bv := fun fr => (f fr).bind fun b fr1 => if b then g fr1 else .ok false fr1
def bOr (f g : Bv) : Bv := fun fr => (f fr).bind fun b fr1 => if b then .ok true fr1 else g fr1
def bNot (f : Bv) : Bv := fun fr => (f fr).bind fun b fr1 => .ok (!b) fr1
def eAnd (f g : Ev) : Ev := fun fr => (f fr).bind fun d fr1 => match d with
  | .bl true => g fr1
  | .bl false => .ok (.bl false) fr1
  | _ => .bad
def eNot (f : Ev) : Ev := fun fr => (f fr).bind fun d fr1 => match d with
  | .bl b => .ok (.bl (!b)) fr1
  | _ => .bad
def truB : D → Option Bool
  | .non => some false
  | .bl b => some b
  | .int i => some (i != 0)
  | .str x => if x.length ≤ sizeLine then some ((x.length : Int) != 0) else none
  | .tup ds => some (!ds.isEmpty)
  | .lst ds => some (!ds.isEmpty)
  | _ => none
def bTru (f : Ev) : Bv := fun fr => (f fr).bind fun d fr1 => match look fr1 d with
  | some a => match truB a with
    | some b => .ok b fr1
    | none => .bad
  | none => .bad
/-- a op1 b op2 c -/
def eChain (F F' : D → D → Option D) (f g h : Ev) : Ev := fun fr => (f fr).bind fun x fr1 => (g fr1).bind fun y fr2 => match look fr2 x, look fr2 y with
  | some a, some b => match F a b with
    | some (.bl true) => (h fr2).bind fun z fr3 => match look fr3 y, look fr3 z with
      | some b', some c => ofO (F' b' c) fr3
      | _, _ => .bad
    | some (.bl false) => .ok (.bl false) fr2
    | _ => .bad
  | _, _ => .bad
section
variable {X : Cx} {B : Bd} {W : WX} {a b c : Expr} {f g h : Ev} {t u : Bv} {pos : Pos} {rest : List Expr}
theorem d_cmp {op : CmpOp} {r : R2} {F : D → D → Option D} (hr : OpS B r F) (ho : OpR X (compareOp op) r) (ha : DE X B W a f) (hb : DE X B W b g) (hm : behindInMarks op b = false) : DE X B W (.Compare a [op] [b] pos) (eOp2 F f g) :=
  pe_imp (pe_cmpR ho ha hb hm) fun _ _ _ h => ent2 hr h
/-- a bool's reading, from a value's -/
theorem postB_E {fr : Fr} {σ : L2.St} {H Hv : Hp} {r : Res Fr D} {Q : Bool → Hp → Prop} (h : PostB B W fr σ H Hv (r.bind fun d fr1 => match d with | .bl b => .ok b fr1 | _ => .bad) Q) :
    PostE B W fr σ H Hv r (fun x H' => ∃ k, x = .bl k ∧ Q k H') := by
  cases r with
  | bad => exact h.elim
  | exc c fs fr1 => exact h
  | ok d fr1 =>
    dsimp only [Res.bind] at h
    cases d with
    | bl k => exact fun v H' Hv' n hv => ⟨k, Rep.bl_iff.mp (hv.rep fun i z => by cases z), h H' Hv' n⟩
    | _ => exact h.elim
theorem dt_cmp {op : CmpOp} {r : R2} {F : D → D → Option D} (hr : OpS B r F) (ho : OpR X (compareOp op) r) (ha : DE X B W a f) (hb : DE X B W b g) (hm : behindInMarks op b = false) : DT X B W (.Compare a [op] [b] pos) (bE (eOp2 F f g)) :=
  pt_imp (pt_cmpR ho ha hb hm) fun σ H Q ⟨fr, Hv, R, h⟩ => ent2 hr ⟨fr, Hv, R, postB_E h⟩
/-- an expression whose value is a bool, as a test -/
theorem dt_val (ha : DE X B W a f) (he : ∀ whole, isTrue a X.env whole = (do let v ← whole; standAt a.pos; holding [v] (truthy v)) := by intro _; rfl) : DT X B W a (bE f) :=
  pt_imp (pt_val ha he) fun σ H Q ⟨fr, Hv, R, h⟩ => ⟨fr, Hv, R, postB_E h⟩
theorem tru_look (hK : X.K = B.G.K) {fr : Fr} {σ : L2.St} {H Hv : Hp} (R : Rel B fr σ H Hv) {d e : D} {v : V} {k : Bool} (h : RepW B σ Hv d v) (hl : look fr d = some e) (ht : truB e = some k) : TruV X.K v H k := by
  cases e with
  | non => rw [R.non_of h hl]; cases ht; rfl
  | bl i => rw [R.bl_of h hl]; cases ht; rfl
  | int i => rw [R.int_of h hl]; cases ht; rfl
  | str x =>
    rw [R.str_of h hl]
    unfold truB at ht
    dsimp only at ht
    split at ht
    · next c => cases ht; exact ⟨c, rfl⟩
    · cases ht
  | tup ds =>
    obtain ⟨a, vs, rfl, q, _, r⟩ := R.tup_of h hl
    cases ht
    refine .inr (.inl ⟨vs, by rw [hK]; exact q, ?_⟩)
    cases ds with
    | nil => rw [r.nil_inv]; rfl
    | cons d ds => obtain ⟨v, t, rfl, _⟩ := r.cons_inv; rfl
  | lst ds =>
    obtain ⟨a, vs, rfl, q, r⟩ := R.list_of h hl
    cases ht
    refine .inl ⟨vs, SqL.of q, ?_⟩
    cases ds with
    | nil => rw [r.nil_inv]; rfl
    | cons d ds => obtain ⟨v, t, rfl, _⟩ := r.cons_inv; rfl
  | _ => cases ht
/-- any value, as a test -/
theorem dt_tru (ha : DE X B W a f) (hK : X.K = B.G.K := by rfl) (he : ∀ whole, isTrue a X.env whole = (do let v ← whole; standAt a.pos; holding [v] (truthy v)) := by intro _; rfl) : DT X B W a (bTru f) := by
  refine pt_imp (pt_truth ha he) fun σ H Q h => ?_
  obtain ⟨fr, Hv, R, h⟩ := h
  refine ⟨fr, Hv, R, ?_⟩
  unfold bTru at h
  cases hf : f fr with
  | bad => rw [hf] at h; exact h.elim
  | exc c fs fr1 => rw [hf] at h; exact h
  | ok d fr1 =>
    rw [hf] at h
    dsimp only [Res.bind] at h
    intro v H1 Hv1 n r
    cases hl : look fr1 d with
    | none => rw [hl] at h; exact h.elim
    | some e =>
      rw [hl] at h
      dsimp only at h
      cases ht : truB e with
      | none => rw [ht] at h; exact h.elim
      | some k =>
        rw [ht] at h
        exact ⟨k, tru_look hK n.rel r hl ht, h H1 Hv1 n⟩
theorem dw_and1 (ha : DT X B W a t) : DW X B W (.BoolOp .And [a] pos) t := pw_and1 ha
theorem dw_or1 (ha : DT X B W a t) : DW X B W (.BoolOp .Or [a] pos) t := pw_or1 ha
theorem bnd2 {σ : L2.St} {H : Hp} {f : Bv} {k : Bool → Bv} {Q : Bool → Hp → Prop} (h : dTT B W (fun fr => (f fr).bind fun b fr1 => k b fr1) σ H Q) : dTT B W f σ H fun b H1 => dTT B W (k b) σ H1 Q := by
  obtain ⟨fr, Hv, R, h⟩ := h
  refine ⟨fr, Hv, R, ?_⟩
  dsimp only at h
  cases hf : f fr with
  | bad => rw [hf] at h; exact h.elim
  | exc c fs fr1 => rw [hf] at h; exact h
  | ok b fr1 =>
    rw [hf] at h
    exact fun H1 Hv1 n => ⟨fr1, Hv1, n.rel, h.step n⟩
theorem dtt_ok {σ : L2.St} {H : Hp} {b : Bool} {Q : Bool → Hp → Prop} (h : dTT B W (fun fr => .ok b fr) σ H Q) : Q b H := by
  obtain ⟨fr, Hv, R, h⟩ := h
  exact h H Hv (.refl R)
theorem dw_and (ha : DT X B W a t) (hb : DW X B W (.BoolOp .And (b :: rest) pos) u) : DW X B W (.BoolOp .And (a :: b :: rest) pos) (bAnd t u) := by
  refine pw_imp (pw_and ha hb) fun σ H Q h => ?_
  obtain ⟨fr, Hv, R, h⟩ := bnd2 (k := fun b => fun fr1 => if b then u fr1 else .ok false fr1) h
  refine ⟨fr, Hv, R, ?_⟩
  cases hf : t fr with
  | bad => rw [hf] at h; exact h.elim
  | exc c fs fr1 => rw [hf] at h; exact h
  | ok k fr1 =>
    rw [hf] at h
    intro H1 Hv1 n
    have q := h H1 Hv1 n
    cases k with
    | true =>
      rw [if_pos rfl]
      exact q
    | false =>
      rw [if_neg Bool.false_ne_true]
      exact dtt_ok q
theorem dw_or (ha : DT X B W a t) (hb : DW X B W (.BoolOp .Or (b :: rest) pos) u) : DW X B W (.BoolOp .Or (a :: b :: rest) pos) (bOr t u) := by
  refine pw_imp (pw_or ha hb) fun σ H Q h => ?_
  obtain ⟨fr, Hv, R, h⟩ := bnd2 (k := fun b => fun fr1 => if b then .ok true fr1 else u fr1) h
  refine ⟨fr, Hv, R, ?_⟩
  cases hf : t fr with
  | bad => rw [hf] at h; exact h.elim
  | exc c fs fr1 => rw [hf] at h; exact h
  | ok k fr1 =>
    rw [hf] at h
    intro H1 Hv1 n
    have q := h H1 Hv1 n
    cases k with
    | true =>
      rw [if_pos rfl]
      exact dtt_ok q
    | false =>
      rw [if_neg Bool.false_ne_true]
      exact q
theorem DW.dt (h : DW X B W a t) : DT X B W a t := PW.pt h
theorem dt_not (ha : DT X B W a t) : DT X B W (.UnaryOp .Not a pos) (bNot t) := by
  refine pt_imp (pt_not ha) fun σ H Q h => ?_
  obtain ⟨fr, Hv, R, h⟩ := bnd2 (k := fun b => fun fr1 => .ok (!b) fr1) h
  refine ⟨fr, Hv, R, ?_⟩
  cases hf : t fr with
  | bad => rw [hf] at h; exact h.elim
  | exc c fs fr1 => rw [hf] at h; exact h
  | ok k fr1 =>
    rw [hf] at h
    exact fun H1 Hv1 n => dtt_ok (h H1 Hv1 n)
theorem d_one {op} (ha : DE X B W a f) : DE X B W (.BoolOp op [a] pos) f := pe_one ha
theorem d_and (ha : DE X B W a f) (hb : DE X B W (.BoolOp .And (b :: rest) pos) g) : DE X B W (.BoolOp .And (a :: b :: rest) pos) (eAnd f g) := by
  refine pe_imp (pe_and ha hb) fun σ H Q h => ?_
  obtain ⟨fr, Hv, R, h⟩ := h
  refine ⟨fr, Hv, R, ?_⟩
  unfold eAnd at h
  cases hf : f fr with
  | bad => rw [hf] at h; exact h.elim
  | exc c fs fr1 => rw [hf] at h; exact h
  | ok d fr1 =>
    rw [hf] at h
    dsimp only [Res.bind] at h
    intro v H1 Hv1 n r
    cases d with
    | bl k =>
      refine ⟨k, Rep.bl_iff.mp (r.rep fun i z => by cases z), ?_⟩
      cases k with
      | true =>
        rw [if_pos rfl]
        exact ⟨fr1, Hv1, n.rel, PostE.step n h⟩
      | false =>
        rw [if_neg Bool.false_ne_true]
        exact h _ H1 Hv1 n (.of repB)
    | _ => exact h.elim
theorem d_not (ha : DE X B W a f) : DE X B W (.UnaryOp .Not a pos) (eNot f) := by
  refine pe_imp (pe_not ha) fun σ H Q h => ?_
  obtain ⟨fr, Hv, R, h⟩ := h
  refine ⟨fr, Hv, R, ?_⟩
  unfold eNot at h
  cases hf : f fr with
  | bad => rw [hf] at h; exact h.elim
  | exc c fs fr1 => rw [hf] at h; exact h
  | ok d fr1 =>
    rw [hf] at h
    dsimp only [Res.bind] at h
    intro v H1 Hv1 n r
    cases d with
    | bl k => exact ⟨k, Rep.bl_iff.mp (r.rep fun i z => by cases z), h _ H1 Hv1 n (.of repB)⟩
    | _ => exact h.elim
theorem entC {r r' : R2} {F F' : D → D → Option D} {σ : L2.St} {H : Hp} {Q : VK} (hr : OpS B r F) (hr' : OpS B r' F') (hh : dTE B W (eChain F F' f g h) σ H Q) : tChain r r' (dTE B W f) (dTE B W g) (dTE B W h) σ H Q := by
  obtain ⟨fr, Hv, R, hh⟩ := hh
  refine ⟨fr, Hv, R, ?_⟩
  unfold eChain at hh
  cases hf : f fr with
  | bad => rw [hf] at hh; exact hh.elim
  | exc c fs fr1 => rw [hf] at hh; exact hh
  | ok x fr1 =>
    rw [hf] at hh
    dsimp only [Res.bind] at hh
    intro vx H1 Hv1 n1 r1
    refine ⟨fr1, Hv1, n1.rel, ?_⟩
    cases hg : g fr1 with
    | bad => rw [hg] at hh; exact hh.elim
    | exc c fs fr2 =>
      rw [hg] at hh
      exact fun dd H' Hv' n => hh dd H' Hv' (n1.trans n)
    | ok y fr2 =>
      rw [hg] at hh
      dsimp only at hh
      intro vy H2 Hv2 n2 r2
      cases hx : look fr2 x with
      | none => rw [hx] at hh; exact hh.elim
      | some a =>
        cases hy : look fr2 y with
        | none => rw [hx, hy] at hh; exact hh.elim
        | some b =>
          rw [hx, hy] at hh
          dsimp only at hh
          cases hz : F a b with
          | none => rw [hz] at hh; exact hh.elim
          | some z =>
            rw [hz] at hh
            refine hr fr2 σ H2 Hv2 vx vy x y a b z _ n2.rel (r1.mono n2.ext) r2 hx hy hz fun v H3 Hv3 n3 q => ?_
            cases z with
            | bl k =>
              refine ⟨k, Rep.bl_iff.mp q, ?_⟩
              have n := (n1.trans n2).trans n3
              cases k with
              | false =>
                rw [if_neg Bool.false_ne_true]
                exact hh _ H3 Hv3 n (.of repB)
              | true =>
                rw [if_pos rfl]
                dsimp only at hh
                refine ⟨fr2, Hv3, n3.rel, ?_⟩
                cases hhh : h fr2 with
                | bad => rw [hhh] at hh; exact hh.elim
                | exc c fs fr3 =>
                  rw [hhh] at hh
                  exact fun dd H' Hv' m => hh dd H' Hv' (n.trans m)
                | ok w fr3 =>
                  rw [hhh] at hh
                  dsimp only at hh
                  intro vw H4 Hv4 n4 r4
                  cases hy3 : look fr3 y with
                  | none => rw [hy3] at hh; exact hh.elim
                  | some b' =>
                    cases hw3 : look fr3 w with
                    | none => rw [hy3, hw3] at hh; exact hh.elim
                    | some c' =>
                      rw [hy3, hw3] at hh
                      dsimp only at hh
                      cases hz2 : F' b' c' with
                      | none => rw [hz2] at hh; exact hh.elim
                      | some z2 =>
                        rw [hz2] at hh
                        exact hr' fr3 σ H4 Hv4 vy vw y w b' c' z2 Q n4.rel ((r2.mono n3.ext).mono n4.ext) r4 hy3 hw3 hz2 fun v5 H5 Hv5 n5 q5 => hh v5 H5 Hv5 ((n.trans n4).trans n5) (.of q5)
            | _ => exact hh.elim
theorem d_chain {op op' : CmpOp} {r r' : R2} {F F' : D → D → Option D} (hr : OpS B r F) (hr' : OpS B r' F') (ho : OpR X (compareOp op) r) (ho' : OpR X (compareOp op') r') (ha : DE X B W a f) (hb : DE X B W b g) (hc : DE X B W c h)
    (hm : lastMarks [op, op'] [b, c] = false := by with_unfolding_all rfl) : DE X B W (.Compare a [op, op'] [b, c] pos) (eChain F F' f g h) := pe_imp (pe_chain ho ho' ha hb hc hm) fun _ _ _ h => entC hr hr' h
end
def aNil : Av := fun fr => .ok [] fr
def aCons (f : Ev) (g : Av) : Av := fun fr => (f fr).bind fun d fr1 => (g fr1).bind fun ds fr2 => .ok (d :: ds) fr2
def pers : D → Bool
  | .var _ => false
  | _ => true
def eTup (g : Av) : Ev := fun fr => (g fr).bind fun ds fr1 => if ds.length ≤ sizeLine ∧ ds.all pers = true then .ok (.tup ds) fr1 else .bad
def eLst (g : Av) : Ev := fun fr => (g fr).bind fun ds fr1 => if ds.length ≤ sizeLine ∧ ds.all pers = true then .ok (.lst ds) fr1 else .bad
section
variable {X : Cx} {B : Bd} {W : WX} {e : Expr} {es : List Expr} {f : Ev} {g : Av} {pos : Pos}
theorem repWs_repL {σ : L2.St} {Hv : Hp} : ∀ {ds : List D} {vs : List V}, RepWs B σ Hv ds vs → ds.all pers = true → RepL B.G Hv ds vs
  | [], vs, h, _ => by
    have h' : vs = [] := h
    rw [h']
    exact .nil
  | d :: ds, _, ⟨v, r, e, h1, h2⟩, p => by
    subst e
    rw [List.all_cons, Bool.and_eq_true] at p
    exact .cons (h1.rep fun i z => by rw [z] at p; cases p.1) (repWs_repL h2 p.2)
theorem repWs_length {σ : L2.St} {Hv : Hp} : ∀ {ds : List D} {vs : List V}, RepWs B σ Hv ds vs → vs.length = ds.length
  | [], vs, h => by
    have h' : vs = [] := h
    rw [h']
    rfl
  | d :: ds, _, ⟨v, r, e, _, h2⟩ => by rw [e, List.length_cons, List.length_cons, repWs_length h2]
theorem a_nil : DA X B W [] aNil := pa_imp pa_nil fun σ H Q ⟨fr, Hv, R, h⟩ => h [] H Hv (.refl R) rfl
theorem a_cons (ha : DE X B W e f) (hr : DA X B W es g) (hs : starEach (e :: es) X.env = (false, eval e X.env) :: starEach es X.env := by rfl) : DA X B W (e :: es) (aCons f g) := by
  refine pa_imp (pa_cons ha hr hs) fun σ H Q h => ?_
  obtain ⟨fr, Hv, R, h⟩ := h
  refine ⟨fr, Hv, R, ?_⟩
  unfold aCons at h
  cases hf : f fr with
  | bad => rw [hf] at h; exact h.elim
  | exc c fs fr1 => rw [hf] at h; exact h
  | ok d fr1 =>
    rw [hf] at h
    dsimp only [Res.bind] at h
    intro v H1 Hv1 n1 r1
    refine ⟨fr1, Hv1, n1.rel, ?_⟩
    cases hg : g fr1 with
    | bad => rw [hg] at h; exact h.elim
    | exc c fs fr2 =>
      rw [hg] at h
      exact fun dd H' Hv' n => h dd H' Hv' (n1.trans n)
    | ok ds fr2 =>
      rw [hg] at h
      exact fun vs H2 Hv2 n2 r2 => h (v :: vs) H2 Hv2 (n1.trans n2) ⟨v, vs, rfl, r1.mono n2.ext, r2⟩
theorem d_tup {x1} (ha : DA X B W es g) : DE X B W (.Tuple es x1 pos) (eTup g) := by
  refine pe_imp (pe_tup ha) fun σ H Q h => ?_
  obtain ⟨fr, Hv, R, h⟩ := h
  refine ⟨fr, Hv, R, ?_⟩
  unfold eTup at h
  cases hg : g fr with
  | bad => rw [hg] at h; exact h.elim
  | exc c fs fr1 => rw [hg] at h; exact h
  | ok ds fr1 =>
    rw [hg] at h
    dsimp only [Res.bind] at h
    split at h
    · next c =>
      intro vs H1 Hv1 n r
      exact ⟨by rw [repWs_length r]; exact c.1, fun p hp => lay_tup n.rel hp (repWs_repL r c.2) fun v H' Hv' m q => h v H' Hv' (n.trans m) (.of q)⟩
    · exact h.elim
theorem d_lst (ha : DA X B W es g) : DF X B W (.List es pos) (eLst g) := by
  refine pe_imp (pe_lst ha) fun σ H Q h => ?_
  obtain ⟨fr, Hv, R, h⟩ := h
  refine ⟨fr, Hv, R, ?_⟩
  unfold eLst at h
  cases hg : g fr with
  | bad => rw [hg] at h; exact h.elim
  | exc c fs fr1 => rw [hg] at h; exact h
  | ok ds fr1 =>
    rw [hg] at h
    dsimp only [Res.bind] at h
    split at h
    · next c =>
      intro vs H1 Hv1 n r
      exact ⟨by rw [repWs_length r]; exact c.1, fun p hp => lay_own n.rel hp (repWs_repL r c.2) fun q H' Hv' m hq => h q H' Hv' (n.trans m) (n.none R hq)⟩
    · exact h.elim
end
end KS
namespace KS
open PySem PySem.Spec L2
def ixF : D → D → Option D
  | .lst ds, .int i => atI ds i
  | .tup ds, .int i => atI ds i
  | .scr ns, .int i => (atI ns i).map D.int
  | .str x, .int i => if x.length ≤ sizeLine then (atI x.cps.toList i).map fun c => .str ⟨#[c]⟩ else none
  | _, _ => none
def cutD {α : Type} (xs : List α) (lo hi : Option Int) : List α := (xs.drop (HT.sIx xs.length 0 lo)).take (HT.sIx xs.length xs.length hi - HT.sIx xs.length 0 lo)
def slF : D → Option Int → Option Int → Option D
  | .lst ds, lo, hi => some (.lst (cutD ds lo hi))
  | .tup ds, lo, hi => some (.tup (cutD ds lo hi))
  | .str x, lo, hi => if x.length ≤ sizeLine then some (.str (cutS x lo hi)) else none
  | _, _, _ => none
abbrev Ov := Fr → Res Fr (Option Int)
def oNone : Ov := fun fr => .ok none fr
def oSome (f : Ev) : Ov := fun fr => (f fr).bind fun d fr1 => match look fr1 d with
  | some (.int i) => .ok (some i) fr1
  | _ => .bad
def eSl (f : Ev) (lo hi : Ov) : Ev := fun fr => (f fr).bind fun x fr1 => (lo fr1).bind fun l fr2 => (hi fr2).bind fun u fr3 => match look fr3 x with
  | some a => ofO (slF a l u) fr3
  | none => .bad
def slFL : D → Option Int → Option Int → Option D
  | .lst ds, lo, hi => some (.lst (cutD ds lo hi))
  | _, _, _ => none
def eSlF (f : Ev) (lo hi : Ov) : Ev := fun fr => (f fr).bind fun x fr1 => (lo fr1).bind fun l fr2 => (hi fr2).bind fun u fr3 => match look fr3 x with
  | some a => ofO (slFL a l u) fr3
  | none => .bad
def PostO (B : Bd) (W : WX) (fr : Fr) (σ : L2.St) (H Hv : Hp) (r : Res Fr (Option Int)) (Q : Option Int → Hp → Prop) : Prop :=
  match r with
  | .ok o fr' => ∀ H' Hv', Nxt B fr σ H Hv fr' H' Hv' → Q o H'
  | .exc c fs fr' => ∀ dd H' Hv', Nxt B fr σ H Hv fr' H' Hv' → ExcAt B.G H' Hv' c fs dd → W (.ref (B.G.ecls c)) (some dd) σ H'
  | .bad => False
def dTO (B : Bd) (W : WX) (f : Ov) : TO := fun σ H Q => ∃ fr Hv, Rel B fr σ H Hv ∧ PostO B W fr σ H Hv (f fr) Q
def DO (X : Cx) (B : Bd) (W : WX) (e : Option Expr) (f : Ov) : Prop := PO X e (dTO B W f)
theorem cut_whole {α : Type} {xs : List α} {lo hi : Option Int} (c : HT.sIx xs.length 0 lo = 0 ∧ HT.sIx xs.length xs.length hi = xs.length) : cutD xs lo hi = xs := by
  unfold cutD
  rw [c.1, c.2, List.drop_zero, Nat.sub_zero, List.take_length]
theorem atI_repL {G : SE} {H : Hp} {ds : List D} {vs : List V} {i : Int} {d : D} (r : RepL G H ds vs) (h : atI ds i = some d) : ∃ v, atI vs i = some v ∧ Rep G H d v := by
  unfold atI at h ⊢
  rw [r.length]
  cases e : ixN ds.length i with
  | none => rw [e] at h; cases h
  | some j =>
    rw [e] at h
    exact r.get h
theorem atI_map {α β : Type} (f : α → β) {xs : List α} {i : Int} : atI (xs.map f) i = (atI xs i).map f := by
  unfold atI
  rw [List.length_map]
  cases ixN xs.length i with
  | none => rfl
  | some j => simp
theorem cut_repL {G : SE} {H : Hp} {ds : List D} {vs : List V} {lo hi : Option Int} (r : RepL G H ds vs) : RepL G H (cutD ds lo hi) (cutV vs lo hi) := by
  unfold cutD cutV
  rw [r.length]
  exact (r.drop _).take _
section
variable {X : Cx} {B : Bd} {W : WX} {a b : Expr} {lo hi : Option Expr} {f g : Ev} {l u : Ov} {pos p2 : Pos}
theorem ops_ix (hK : X.K = B.G.K) : OpS B (fun x y H Q => rIxL X.K x y H Q ∨ (rIxT X.K x y H Q ∨ rIxS x y H Q)) ixF := by
  intro fr σ H Hv x y dx dy a b z Q R rx ry hx hy hz k
  unfold ixF at hz
  split at hz
  · obtain ⟨p, vs, rfl, q, r⟩ := R.list_of rx hx
    rw [R.int_of ry hy]
    obtain ⟨v, e1, e2⟩ := atI_repL r hz
    exact .inl ⟨p, vs, _, v, rfl, rfl, SqL.of q, e1, k v H Hv (.refl R) e2⟩
  · obtain ⟨p, vs, rfl, q, _, r⟩ := R.tup_of rx hx
    rw [R.int_of ry hy]
    obtain ⟨v, e1, e2⟩ := atI_repL r hz
    exact .inr (.inl ⟨p, vs, _, v, rfl, rfl, by rw [hK]; exact q, e1, k v H Hv (.refl R) e2⟩)
  · obtain ⟨p, rfl, q⟩ := Rep.scr_inv (look_scalar R rx hx rfl)
    rw [R.int_of ry hy]
    simp only [Option.map_eq_some_iff] at hz
    obtain ⟨n, e1, rfl⟩ := hz
    exact .inl ⟨p, _, _, .int n, rfl, rfl, by rw [hK]; exact R.sub.sql q, by rw [atI_map, e1]; rfl, k _ H Hv (.refl R) repI⟩
  · split at hz
    · next c =>
      rw [R.str_of rx hx, R.int_of ry hy]
      simp only [Option.map_eq_some_iff] at hz
      obtain ⟨n, e1, rfl⟩ := hz
      exact .inr (.inr ⟨_, _, n, rfl, rfl, c, e1, k _ H Hv (.refl R) repS⟩)
    · cases hz
  · cases hz
theorem d_ix (ha : DE X B W a f) (hb : DE X B W b g) (hs : PlainIx b := by exact fun _ _ => rfl) (hK : X.K = B.G.K := by rfl) : DE X B W (.Subscript a b pos) (eOp2 ixF f g) :=
  pe_imp (pe_ix ix_seq ha hb hs) fun _ _ _ h => ent2 (ops_ix hK) h
theorem do_none : DO X B W none oNone := ⟨fun pins s σ H Q I ⟨fr, Hv, R, h⟩ => po_none.run pins s σ H Q I (h H Hv (.refl R))⟩
theorem po_imp {e : Option Expr} {t t' : TO} (h : PO X e t) (i : ∀ σ H Q, t' σ H Q → t σ H Q) : PO X e t' := ⟨fun pins s σ H Q I hw => h.run pins s σ H Q I (i σ H Q hw)⟩
theorem do_some (ha : DE X B W a f) : DO X B W (some a) (oSome f) := by
  refine po_imp (po_some ha) fun σ H Q h => ?_
  obtain ⟨fr, Hv, R, h⟩ := h
  refine ⟨fr, Hv, R, ?_⟩
  unfold oSome at h
  cases hf : f fr with
  | bad => rw [hf] at h; exact h.elim
  | exc c fs fr1 => rw [hf] at h; exact h
  | ok d fr1 =>
    rw [hf] at h
    dsimp only [Res.bind] at h
    intro v H1 Hv1 n r
    split at h
    · next i e => exact ⟨i, n.rel.int_of r e, h H1 Hv1 n⟩
    · exact h.elim
theorem entSl {r : V → Option Int → Option Int → Hp → VK → Prop} {post : Fr → L2.St → Hp → Hp → D → Fr → VK → Prop} {σ : L2.St} {H : Hp} {Q : VK} {fr : Fr} {Hv : Hp} (R : Rel B fr σ H Hv) {k : D → Option Int → Option Int → Fr → Res Fr D} {P : Res Fr D → Prop}
    (hex : ∀ c fs fr', P (.exc c fs fr') → ∀ dd H' Hv', Nxt B fr σ H Hv fr' H' Hv' → ExcAt B.G H' Hv' c fs dd → W (.ref (B.G.ecls c)) (some dd) σ H') (hb : ¬ P .bad)
    (h : P ((f fr).bind fun x fr1 => (l fr1).bind fun l fr2 => (u fr2).bind fun u fr3 => k x l u fr3))
    (hk : ∀ x lo hi fr3 v H3 Hv3, Nxt B fr σ H Hv fr3 H3 Hv3 → RepW B σ Hv3 x v → P (k x lo hi fr3) → r v lo hi H3 Q) : tSl r (dTE B W f) (dTO B W l) (dTO B W u) σ H Q := by
  refine ⟨fr, Hv, R, ?_⟩
  cases hf : f fr with
  | bad => rw [hf] at h; exact (hb h).elim
  | exc c fs fr1 => rw [hf] at h; exact hex _ _ _ h
  | ok x fr1 =>
    rw [hf] at h
    dsimp only [Res.bind] at h
    intro vx H1 Hv1 n1 r1
    refine ⟨fr1, Hv1, n1.rel, ?_⟩
    cases hg : l fr1 with
    | bad => rw [hg] at h; exact (hb h).elim
    | exc c fs fr2 =>
      rw [hg] at h
      exact fun dd H' Hv' n => hex _ _ _ h dd H' Hv' (n1.trans n)
    | ok lo fr2 =>
      rw [hg] at h
      dsimp only at h
      intro H2 Hv2 n2
      refine ⟨fr2, Hv2, n2.rel, ?_⟩
      cases hu : u fr2 with
      | bad => rw [hu] at h; exact (hb h).elim
      | exc c fs fr3 =>
        rw [hu] at h
        exact fun dd H' Hv' n => hex _ _ _ h dd H' Hv' ((n1.trans n2).trans n)
      | ok hi fr3 =>
        rw [hu] at h
        exact fun H3 Hv3 n3 => hk x lo hi fr3 vx H3 Hv3 ((n1.trans n2).trans n3) ((r1.mono n2.ext).mono n3.ext) h
theorem d_sl (ha : DE X B W a f) (hl : DO X B W lo l) (hu : DO X B W hi u) (hK : X.K = B.G.K := by rfl) : DE X B W (.Subscript a (.Slice lo hi none p2) pos) (eSl f l u) := by
  refine pe_imp (pe_slice (sl_list.or (sl_tupA.or sl_str)) ha hl hu) fun σ H Q h => ?_
  obtain ⟨fr, Hv, R, h⟩ := h
  refine entSl (post := fun _ _ _ _ _ _ _ => True) R (P := fun r => PostE B W fr σ H Hv r Q) (fun c fs fr' h => h) (fun h => h) h fun x lo hi fr3 v H3 Hv3 n rx h => ?_
  split at h
  · next a ea =>
    cases hz : slF a lo hi with
    | none => rw [hz] at h; exact h.elim
    | some z =>
      rw [hz] at h
      unfold slF at hz
      split at hz
      · cases hz
        obtain ⟨p, vs, rfl, q, r⟩ := n.rel.list_of rx ea
        exact .inl ⟨p, vs, rfl, SqL.of q, fun t ht => lay_lst n.rel ht (cut_repL r) fun v H' Hv' m q => h v H' Hv' (n.trans m) (.of q)⟩
      · cases hz
        obtain ⟨p, vs, rfl, q, qv, r⟩ := n.rel.tup_of rx ea
        refine .inr (.inl ⟨p, vs, rfl, by rw [hK]; exact q, fun c => ?_, fun c t ht => lay_tup n.rel ht (cut_repL r) fun v H' Hv' m q => h v H' Hv' (n.trans m) (.of q)⟩)
        refine h _ H3 Hv3 n (.of ?_)
        rw [cut_whole (by rw [r.length] at c; exact c)]
        exact Rep.tup qv r
      · split at hz
        · next c =>
          cases hz
          rw [n.rel.str_of rx ea]
          exact .inr (.inr ⟨_, rfl, c, h _ H3 Hv3 n (.of repS)⟩)
        · cases hz
      · cases hz
  · exact h.elim
theorem d_slF (ha : DE X B W a f) (hl : DO X B W lo l) (hu : DO X B W hi u) (hK : X.K = B.G.K := by rfl) : DF X B W (.Subscript a (.Slice lo hi none p2) pos) (eSlF f l u) := by
  refine pe_imp (pe_slice sl_list ha hl hu) fun σ H Q h => ?_
  obtain ⟨fr, Hv, R, h⟩ := h
  refine entSl (post := fun _ _ _ _ _ _ _ => True) R (P := fun r => PostF B W fr σ H Hv r Q) (fun c fs fr' h => h) (fun h => h) h fun x lo hi fr3 v H3 Hv3 n rx h => ?_
  split at h
  · next a ea =>
    cases hz : slFL a lo hi with
    | none => rw [hz] at h; exact h.elim
    | some z =>
      rw [hz] at h
      unfold slFL at hz
      split at hz
      · cases hz
        obtain ⟨p, vs, rfl, q, r⟩ := n.rel.list_of rx ea
        exact ⟨p, vs, rfl, SqL.of q, fun t ht => lay_own n.rel ht (cut_repL r) fun q H' Hv' m hq => h q H' Hv' (n.trans m) (n.none R hq)⟩
      · cases hz
  · exact h.elim
end
def idx (n : Nat) : List Nat → List D → Option D
  | m :: ns, d :: ds => if m = n then some d else idx n ns ds
  | _, _ => none
def eAttr (cs : List Nat) (n : Nat) (f : Ev) : Ev := eOp1 (fun d => match d with
  | .obj c ns fs => if c ∈ cs then idx n ns fs else none
  | _ => none) f
theorem idx_lookup {G : SE} {H : Hp} {n : Nat} (inj : ∀ m, G.fld m = G.fld n → m = n) : ∀ {ns : List Nat} {fs : List D} {vs : List V} {d : D}, RepL G H fs vs → idx n ns fs = some d → ∃ v, ((ns.map G.fld).zip vs).lookup (G.fld n) = some v ∧ Rep G H d v
  | [], _, _, _, _, h => by simp [idx] at h
  | m :: ns, [], _, _, _, h => by simp [idx] at h
  | m :: ns, d' :: fs, vs, d, r, h => by
    obtain ⟨v, t, rfl, h1, h2⟩ := r.cons_inv
    rw [idx] at h
    by_cases e : m = n
    · rw [if_pos e] at h
      cases h
      refine ⟨v, ?_, h1⟩
      rw [List.map_cons, List.zip_cons_cons, e]
      simp [List.lookup]
    · rw [if_neg e] at h
      obtain ⟨v', e1, e2⟩ := idx_lookup inj h2 h
      refine ⟨v', ?_, e2⟩
      rw [List.map_cons, List.zip_cons_cons]
      have ne : (G.fld n == G.fld m) = false := by
        rw [beq_eq_false_iff_ne]
        exact fun z => e (inj m z.symm)
      simp only [List.lookup, ne]
      exact e1
section
variable {X : Cx} {B : Bd} {W : WX} {a : Expr} {f : Ev} {pos : Pos}
theorem obj_of {fr : Fr} {σ : L2.St} {H Hv : Hp} (R : Rel B fr σ H Hv) {d : D} {v : V} {c : Nat} {ns : List Nat} {fs : List D} (h : RepW B σ Hv d v) (hl : look fr d = some (.obj c ns fs)) :
    ∃ p dx vs, v = .ref p ∧ H p = some (.ins (B.G.cls c) dx ((ns.map B.G.fld).zip vs)) ∧ ns.length = vs.length ∧ RepL B.G Hv fs vs := by
  cases d with
  | var i =>
    obtain ⟨hm, hs⟩ := h
    obtain ⟨p, hs', hv, _, dx, vs, e, l, r⟩ := R.own i _ (look_var hl) hm
    rw [hs] at hs'
    cases hs'
    exact ⟨p, dx, vs, rfl, e, l, r⟩
  | obj c' ns' fs' =>
    have e : D.obj c' ns' fs' = .obj c ns fs := Option.some.inj hl
    cases e
    obtain ⟨p, dx, vs, rfl, q, l, r⟩ := Rep.obj_inv h
    exact ⟨p, dx, vs, rfl, R.sub _ _ q, l, r⟩
  | _ => cases hl
theorem d_attr {n : Nat} {x : Str} {cs : List Nat} (ha : DE X B W a f) (hx : x = B.G.fld n) (inj : ∀ m, B.G.fld m = B.G.fld n → m = n) (hc : ∀ c ∈ cs, Cls X.K (B.G.cls c) ∧ NoAttr X.K (B.G.cls c) x)
    (hb : attributeBase a x X.env (eval a X.env) = eval a X.env := by rfl) : DE X B W (.Attribute a x pos) (eAttr cs n f) := by
  refine pe_imp (pe_fld ha hb) fun σ H Q h => ?_
  have e := ent1 (r := fun x1 H1 Q => ∃ p C dx fs v, x1 = .ref p ∧ H1 p = some (.ins C dx fs) ∧ Cls X.K C ∧ NoAttr X.K C x ∧ fs.lookup x = some v ∧ Q v H1) ?_ h
  · exact e
  · intro fr σ H Hv y dy b z Q R ry hy hz k
    cases b with
    | obj c ns fs =>
      dsimp only at hz
      split at hz
      · next hcc =>
        obtain ⟨p, dx, vs, rfl, q, l, r⟩ := obj_of R ry hy
        obtain ⟨v, e1, e2⟩ := idx_lookup inj r hz
        obtain ⟨c1, c2⟩ := hc c hcc
        exact ⟨p, _, dx, _, v, rfl, q, c1, c2, by rw [hx]; exact e1, k v H Hv (.refl R) e2⟩
      · cases hz
    | _ => cases hz
end
def CaS1 (B : Bd) (r : List V → Hp → VK → Prop) (F : D → Option D) : Prop := UnS B (fun x => r [x]) F
def CaF1 (B : Bd) (r : List V → Hp → VK → Prop) (F : D → Option D) : Prop := ∀ fr σ H Hv x dx a z (Q : VK), Rel B fr σ H Hv → RepW B σ Hv dx x → look fr dx = some a → F a = some z →
  (∀ p H' Hv', Nxt B fr σ H Hv fr H' Hv' → H p = none → Hv' p = none → Cell B.G H' Hv' p z → Q (.ref p) H') → r [x] H Q
def CaS2 (B : Bd) (r : List V → Hp → VK → Prop) (F : D → D → Option D) : Prop := OpS B (fun x y => r [x, y]) F
section
variable {X : Cx} {B : Bd} {W : WX} {a b : Expr} {f g : Ev} {pos p : Pos} {x : Str} {idn T : String} {r : List V → Hp → VK → Prop} {F : D → Option D} {F2 : D → D → Option D}
theorem entF1 {σ : L2.St} {H : Hp} {Q : VK} (hr : CaF1 B r F) (h : dTF B W (eOp1 F f) σ H Q) : tUn (fun x => r [x]) (dTE B W f) σ H Q := by
  obtain ⟨fr, Hv, R, h⟩ := h
  refine ⟨fr, Hv, R, ?_⟩
  unfold eOp1 at h
  cases hf : f fr with
  | bad => rw [hf] at h; exact h.elim
  | exc c fs fr1 => rw [hf] at h; exact h
  | ok x fr1 =>
    rw [hf] at h
    dsimp only [Res.bind] at h
    intro vx H1 Hv1 n1 r1
    cases hx : look fr1 x with
    | none => rw [hx] at h; exact h.elim
    | some a =>
      rw [hx] at h
      dsimp only at h
      cases hz : F a with
      | none => rw [hz] at h; exact h.elim
      | some z =>
        rw [hz] at h
        exact hr fr1 σ H1 Hv1 vx x a z Q n1.rel r1 hx hz fun p H' Hv' n hp q => h p H' Hv' (n1.trans n) (n1.none R hp) q
theorem d_b1 (hs : CaS1 B r F) (hc : CallR X (.builtin idn) r) (hm : X.mg x = none) (ha : DE X B W a f) (hv : bootBuiltins x = some (.builtin idn) := by decide +kernel) (hg : Gl X x := by rfl) (hn : x ≠ "__name__" := by decide) (hdb : (x == ("__debug__" : Str)) = false := by decide)
    (he : starEach [a] X.env = (false, eval a X.env) :: starEach [] X.env := by rfl) (hpl : (backTo pos (starEach [] X.env)).any (·.1) = false := by rfl) : DE X B W (.Call (.Name x p) [a] [] pos) (eOp1 F f) :=
  pe_imp (pe_callB hc hg hm hv (pa_cons ha pa_nil he) hn hdb he hpl) fun _ _ _ h => ent1 hs h
theorem d_t1 (hs : CaS1 B r F) (hc : CallR X (.type T) r) (hm : X.mg x = none) (ha : DE X B W a f) (hv : bootBuiltins x = some (.type T) := by decide +kernel) (hg : Gl X x := by rfl) (hn : x ≠ "__name__" := by decide) (hdb : (x == ("__debug__" : Str)) = false := by decide)
    (he : starEach [a] X.env = (false, eval a X.env) :: starEach [] X.env := by rfl) (hpl : (backTo pos (starEach [] X.env)).any (·.1) = false := by rfl) : DE X B W (.Call (.Name x p) [a] [] pos) (eOp1 F f) :=
  pe_imp (pe_callTy hc hg hm hv (pa_cons ha pa_nil he) hn hdb he hpl) fun _ _ _ h => ent1 hs h
theorem d_t1F (hs : CaF1 B r F) (hc : CallR X (.type T) r) (hm : X.mg x = none) (ha : DE X B W a f) (hv : bootBuiltins x = some (.type T) := by decide +kernel) (hg : Gl X x := by rfl) (hn : x ≠ "__name__" := by decide) (hdb : (x == ("__debug__" : Str)) = false := by decide)
    (he : starEach [a] X.env = (false, eval a X.env) :: starEach [] X.env := by rfl) (hpl : (backTo pos (starEach [] X.env)).any (·.1) = false := by rfl) : DF X B W (.Call (.Name x p) [a] [] pos) (eOp1 F f) :=
  pe_imp (pe_callTy hc hg hm hv (pa_cons ha pa_nil he) hn hdb he hpl) fun _ _ _ h => entF1 hs h
theorem d_b2 (hs : CaS2 B r F2) (hc : CallR X (.builtin idn) r) (hm : X.mg x = none) (ha : DE X B W a f) (hb : DE X B W b g) (hv : bootBuiltins x = some (.builtin idn) := by decide +kernel) (hg : Gl X x := by rfl) (hn : x ≠ "__name__" := by decide) (hdb : (x == ("__debug__" : Str)) = false := by decide)
    (he2 : starEach [b] X.env = (false, eval b X.env) :: starEach [] X.env := by rfl) (he : starEach [a, b] X.env = (false, eval a X.env) :: starEach [b] X.env := by rfl) (hpl : (backTo pos (starEach [b] X.env)).any (·.1) = false := by rfl) : DE X B W (.Call (.Name x p) [a, b] [] pos) (eOp2 F2 f g) :=
  pe_imp (pe_callB hc hg hm hv (pa_cons ha (pa_cons hb pa_nil he2) he) hn hdb he hpl) fun _ _ _ h => ent2 hs h
def lenF : D → Option D
  | .str x => if x.length ≤ sizeLine then some (.int x.length) else none
  | .tup ds => some (.int ds.length)
  | .lst ds => some (.int ds.length)
  | .scr ns => some (.int ns.length)
  | _ => none
theorem cas_len (hK : X.K = B.G.K) : CaS1 B (fun xs H Q => ∃ x n, xs = [x] ∧ LenV X.K x H n ∧ Q (.int n) H) lenF := by
  intro fr σ H Hv x dx a z Q R rx hx hz k
  unfold lenF at hz
  split at hz
  · split at hz
    · next c =>
      cases hz
      rw [R.str_of rx hx]
      exact ⟨_, _, rfl, ⟨c, rfl⟩, k _ H Hv (.refl R) repI⟩
    · cases hz
  · cases hz
    obtain ⟨p, vs, rfl, q, _, r⟩ := R.tup_of rx hx
    refine ⟨_, _, rfl, .inr ⟨vs, by rw [hK]; exact q, rfl⟩, k _ H Hv (.refl R) (by rw [r.length]; exact repI)⟩
  · cases hz
    obtain ⟨p, vs, rfl, q, r⟩ := R.list_of rx hx
    refine ⟨_, _, rfl, .inl ⟨vs, SqL.of q, rfl⟩, k _ H Hv (.refl R) (by rw [r.length]; exact repI)⟩
  · cases hz
    obtain ⟨p, rfl, q⟩ := Rep.scr_inv (look_scalar R rx hx rfl)
    refine ⟨_, _, rfl, .inl ⟨_, by rw [hK]; exact R.sub.sql q, rfl⟩, k _ H Hv (.refl R) (by rw [List.length_map]; exact repI)⟩
  · cases hz
def intF : D → Option D
  | .int i => some (.int i)
  | .bl b => some (.int (if b then 1 else 0))
  | .str x => if x.length ≤ 640 then (PySem.intText? x).map D.int else none
  | _ => none
theorem cas_int : CaS1 B (fun xs H Q => ((∃ i, xs = [.int i] ∧ Q (.int i) H) ∨ ∃ k, xs = [.bl k] ∧ Q (.int (if k then 1 else 0)) H) ∨ ∃ a n, xs = [.str a] ∧ PySem.intText? a = some n ∧ a.length ≤ 640 ∧ Q (.int n) H) intF := by
  intro fr σ H Hv x dx a z Q R rx hx hz k
  unfold intF at hz
  split at hz
  · cases hz
    rw [R.int_of rx hx]
    exact .inl (.inl ⟨_, rfl, k _ H Hv (.refl R) repI⟩)
  · cases hz
    rw [R.bl_of rx hx]
    exact .inl (.inr ⟨_, rfl, k _ H Hv (.refl R) repI⟩)
  · split at hz
    · next c =>
      simp only [Option.map_eq_some_iff] at hz
      obtain ⟨n, e, rfl⟩ := hz
      rw [R.str_of rx hx]
      exact .inr ⟨_, n, rfl, e, c, k _ H Hv (.refl R) repI⟩
    · cases hz
  · cases hz
theorem call_intA : CallR X (.type "int") (fun xs H Q => ((∃ i, xs = [.int i] ∧ Q (.int i) H) ∨ ∃ k, xs = [.bl k] ∧ Q (.int (if k then 1 else 0)) H) ∨ ∃ a n, xs = [.str a] ∧ PySem.intText? a = some n ∧ a.length ≤ 640 ∧ Q (.int n) H) := by
  intro pins s σ H xs us Q I r h
  rcases h with h | h
  · exact call_int1 pins s σ H xs us Q I r h
  · exact call_int_str pins s σ H xs us Q I r h
def absF : D → Option D
  | .int i => some (.int (if i < 0 then -i else i))
  | _ => none
theorem cas_abs : CaS1 B (fun xs H Q => ∃ i, xs = [.int i] ∧ Q (.int (if i < 0 then -i else i)) H) absF := by
  intro fr σ H Hv x dx a z Q R rx hx hz k
  unfold absF at hz
  split at hz
  · cases hz
    rw [R.int_of rx hx]
    exact ⟨_, rfl, k _ H Hv (.refl R) repI⟩
  · cases hz
def min2F : D → D → Option D
  | .int i, .int j => some (.int (if j < i then j else i))
  | _, _ => none
theorem cas_min2 : CaS2 B (fun xs H Q => ∃ i j, xs = [.int i, .int j] ∧ Q (.int (if j < i then j else i)) H) min2F := ops_ints (ints_of fun x y h => by cases x <;> cases y <;> first | rfl | exact absurd ⟨rfl, rfl⟩ (h _ _)) fun i j z H Q e k => by
  cases e
  exact ⟨i, j, rfl, k _ repI⟩
def tupF : D → Option D
  | .lst ds => some (.tup ds)
  | .tup ds => some (.tup ds)
  | _ => none
theorem cas_tup (hK : X.K = B.G.K) : CaS1 B (fun xs H Q => ∃ p ys, xs = [.ref p] ∧ ((SqL X.K H p ys ∧ ∀ l, H l = none → Q (.ref l) (upd H l (.tup ys))) ∨ (SqT X.K H p ys ∧ Q (.ref p) H))) tupF := by
  intro fr σ H Hv x dx a z Q R rx hx hz k
  unfold tupF at hz
  split at hz
  · cases hz
    obtain ⟨p, vs, rfl, q, r⟩ := R.list_of rx hx
    exact ⟨p, vs, rfl, .inl ⟨SqL.of q, fun t ht => lay_tup R ht r k⟩⟩
  · cases hz
    obtain ⟨p, vs, rfl, q, qv, r⟩ := R.tup_of rx hx
    exact ⟨p, vs, rfl, .inr ⟨by rw [hK]; exact q, k _ H Hv (.refl R) (Rep.tup qv r)⟩⟩
  · cases hz
def lstF : D → Option D
  | .lst ds => some (.lst ds)
  | .tup ds => some (.lst ds)
  | _ => none
theorem caf_lst (hK : X.K = B.G.K) : CaF1 B (fun xs H Q => ∃ p ys, xs = [.ref p] ∧ (SqL X.K H p ys ∨ SqT X.K H p ys) ∧ ∀ l, H l = none → Q (.ref l) (upd H l (.lst ys))) lstF := by
  intro fr σ H Hv x dx a z Q R rx hx hz k
  unfold lstF at hz
  split at hz
  · cases hz
    obtain ⟨p, vs, rfl, q, r⟩ := R.list_of rx hx
    exact ⟨p, vs, rfl, .inl (SqL.of q), fun t ht => lay_own R ht r k⟩
  · cases hz
    obtain ⟨p, vs, rfl, q, qv, r⟩ := R.tup_of rx hx
    exact ⟨p, vs, rfl, .inr (by rw [hK]; exact q), fun t ht => lay_own R ht r k⟩
  · cases hz
def blsOf : List D → Option (List Bool)
  | [] => some []
  | .bl b :: ds => (blsOf ds).map (b :: ·)
  | _ => none
theorem bls_rep {G : SE} {H : Hp} : ∀ {ds : List D} {vs : List V} {bs : List Bool}, RepL G H ds vs → blsOf ds = some bs → vs = bs.map V.bl
  | [], vs, bs, r, e => by
    rw [r.nil_inv]
    cases e
    rfl
  | d :: ds, vs, bs, r, e => by
    obtain ⟨v, t, rfl, h1, h2⟩ := r.cons_inv
    cases d with
    | bl b =>
      simp only [blsOf, Option.map_eq_some_iff] at e
      obtain ⟨cs, e1, rfl⟩ := e
      rw [Rep.bl_iff.mp h1, bls_rep h2 e1]
      rfl
    | _ => simp [blsOf] at e
def allF : D → Option D
  | .lst ds => (blsOf ds).map fun bs => .bl (bs.all id)
  | _ => none
def anyF : D → Option D
  | .lst ds => (blsOf ds).map fun bs => .bl (bs.any id)
  | _ => none
theorem cas_all (hK : X.K = B.G.K) : CaS1 B (rAll X.K) allF := by
  intro fr σ H Hv x dx a z Q R rx hx hz k
  unfold allF at hz
  split at hz
  · simp only [Option.map_eq_some_iff] at hz
    obtain ⟨bs, e, rfl⟩ := hz
    obtain ⟨p, vs, rfl, q, r⟩ := R.list_of rx hx
    have ev := bls_rep r e
    subst ev
    exact ⟨p, bs, rfl, SqL.of q, k _ H Hv (.refl R) repB⟩
  · cases hz
theorem cas_any (hK : X.K = B.G.K) : CaS1 B (rAny X.K) anyF := by
  intro fr σ H Hv x dx a z Q R rx hx hz k
  unfold anyF at hz
  split at hz
  · simp only [Option.map_eq_some_iff] at hz
    obtain ⟨bs, e, rfl⟩ := hz
    obtain ⟨p, vs, rfl, q, r⟩ := R.list_of rx hx
    have ev := bls_rep r e
    subst ev
    exact ⟨p, bs, rfl, SqL.of q, k _ H Hv (.refl R) repB⟩
  · cases hz
def intsOf : List D → Option (List Int)
  | [] => some []
  | .int b :: ds => (intsOf ds).map (b :: ·)
  | _ => none
theorem ints_rep {G : SE} {H : Hp} : ∀ {ds : List D} {vs : List V} {bs : List Int}, RepL G H ds vs → intsOf ds = some bs → vs = bs.map V.int
  | [], vs, bs, r, e => by
    rw [r.nil_inv]
    cases e
    rfl
  | d :: ds, vs, bs, r, e => by
    obtain ⟨v, t, rfl, h1, h2⟩ := r.cons_inv
    cases d with
    | int b =>
      simp only [intsOf, Option.map_eq_some_iff] at e
      obtain ⟨cs, e1, rfl⟩ := e
      rw [Rep.int_iff.mp h1, ints_rep h2 e1]
      rfl
    | _ => simp [intsOf] at e
end
end KS
namespace KS
theorem okXN {CX : L2.CXT} {P : PySem.Program} {w : PySem.World} {K : PySem.W.Frag} {mg : PySem.Str → Option PySem.Value} {base : PySem.Heap} {x qual : PySem.Str} {st : PySem.Stmt} {f : PySem.Addr} {fd : PySem.FuncData} {N ps : List PySem.Str} {k : Nat} {sp : L2.Sp} (F : L2.Fun K x qual st f fd) (S : L2.FnScope N ps (L2.defScope st)) (len : ∀ vs H Q E, sp vs H Q E → vs.length = ps.length)
    (hbody : ∀ (cdv : PySem.Value) (A : PySem.Around) (outer : List PySem.Env) (s : PySem.Shared) (H : L2.Hp) (vs : List L2.V) (Q : L2.VK) (E : L2.XK), L2.Room k (A.deeper (PyProof.Rows.envOfC qual (L2.defScope st) s.heap.objs.size f cdv)) → sp vs H Q E →
      ∃ t, L2.PSs (L2.cxOf CX P w K mg base N qual (L2.defScope st) f cdv A outer s H E) (L2.defBody st) t ∧ t { nx := fun _ H' => Q .non H', rt := Q } (L2.start N vs) H) : L2.FnOk P w K mg base CX (k + 1) f fd ps sp := by
  obtain ⟨oc, od, kV, doc, pm, an, cdv, ct, osl, rfl, lk, hcd⟩ := F.ex
  exact L2.fn_of lk hcd S len fun A outer s H vs Q E hr hsp => hbody cdv A outer s H vs Q E hr hsp
open PySem PySem.Spec L2
def ioA (ms : List Bool) (vs : List V) (a : Addr) : Prop := ∃ i : Nat, ms[i]? = some true ∧ vs[i]? = some (V.ref a)
structure Start (G : SE) (ms : List Bool) (ds : List D) (vs : List V) (H Hv : Hp) : Prop where
  sub : Sub Hv H
  tab : ∀ P ∈ G.tabs, TabH H P ∧ Hv P = none
  lend : ds.length = ms.length
  lenv : vs.length = ms.length
  val : ∀ (i : Nat) (d : D), ms[i]? = some false → ds[i]? = some d → ∃ v, vs[i]? = some v ∧ Rep G Hv d v
  own : ∀ (i : Nat) (d : D), ms[i]? = some true → ds[i]? = some d → ∃ a, vs[i]? = some (.ref a) ∧ Hv a = none ∧ Cell G H Hv a d
  sep : ∀ (i j : Nat) (a : Addr), i ≠ j → ms[i]? = some true → ms[j]? = some true → vs[i]? = some (.ref a) → vs[j]? ≠ some (.ref a)
structure FinC (G : SE) (ms : List Bool) (outs : List D) (vs : List V) (H Hv H' Hv' : Hp) : Prop where
  sub : Sub Hv' H'
  ext : Sub Hv Hv'
  new : ∀ b o, Hv' b = some o → Hv b = some o ∨ NewOk H b o
  keep : ∀ b o, H b = some o → ¬ ioA ms vs b → b ∉ G.tabs → H' b = some o
  tab : ∀ P ∈ G.tabs, TabH H' P ∧ Hv' P = none
  io : ∀ (i : Nat) (a : Addr), ms[i]? = some true → vs[i]? = some (.ref a) → Hv' a = none ∧ ∃ d, outs[i]? = some d ∧ Cell G H' Hv' a d
def RetR (rf : Bool) (G : SE) (H H' Hv' : Hp) (d : D) (v : V) : Prop :=
  if rf = true then ∃ p, v = .ref p ∧ H p = none ∧ Hv' p = none ∧ Cell G H' Hv' p d else Rep G Hv' d v
def PostC (G : SE) (ms : List Bool) (rf : Bool) (vs : List V) (H Hv : Hp) (r : Res (List D) D) (Q : VK) (E : XK) : Prop :=
  match r with
  | .ok d outs => ∀ v H' Hv', FinC G ms outs vs H Hv H' Hv' → RetR rf G H H' Hv' d v → Q v H'
  | .exc c fs outs => ∀ dd H' Hv', FinC G ms outs vs H Hv H' Hv' → ExcAt G H' Hv' c fs dd → E (.ref (G.ecls c)) (some dd) H'
  | .bad => False
def spOf (G : SE) (ms : List Bool) (rf : Bool) (F : Fn) : Sp := fun vs H Q E => ∃ ds Hv, Start G ms ds vs H Hv ∧ PostC G ms rf vs H Hv (F ds) Q E
def argC (fr : Fr) : List Bool → List D → Option (List D)
  | [], [] => some []
  | true :: ms, .var i :: ds => match fr[i]? with
    | some (some c) => if isCell c = true then (argC fr ms ds).map (c :: ·) else none
    | _ => none
  | false :: ms, d :: ds => if pers d = true then (argC fr ms ds).map (d :: ·) else none
  | _, _ => none
def ioV : List Bool → List D → List Nat
  | true :: ms, .var i :: ds => i :: ioV ms ds
  | _ :: ms, _ :: ds => ioV ms ds
  | _, _ => []
def ioP : List Bool → List D → List D → List (Nat × D)
  | true :: ms, .var i :: ds, o :: os => (i, o) :: ioP ms ds os
  | _ :: ms, _ :: ds, _ :: os => ioP ms ds os
  | _, _, _ => []
def setP (fr : Fr) : List (Nat × D) → Fr
  | [] => fr
  | (i, d) :: r => setP (fr.set i (some d)) r
def eCall (ms : List Bool) (F : Fn) (g : Av) : Ev := fun fr => (g fr).bind fun ds fr1 => match argC fr1 ms ds with
  | none => .bad
  | some cs => if (ioV ms ds).Nodup then (match F cs with
    | .ok d outs => if outs.length = ms.length then .ok d (setP fr1 (ioP ms ds outs)) else .bad
    | .exc c fs outs => if outs.length = ms.length then .exc c fs (setP fr1 (ioP ms ds outs)) else .bad
    | .bad => .bad) else .bad
theorem setP_length : ∀ {ps : List (Nat × D)} {fr : Fr}, (setP fr ps).length = fr.length
  | [], _ => rfl
  | (i, d) :: r, fr => by rw [setP, setP_length, List.length_set]
theorem setP_out : ∀ {ps : List (Nat × D)} {fr : Fr} {j : Nat}, j ∉ ps.map (·.1) → (setP fr ps)[j]? = fr[j]?
  | [], _, _, _ => rfl
  | (i, d) :: r, fr, j, h => by
    rw [List.map_cons, List.mem_cons, not_or] at h
    rw [setP, setP_out h.2, List.getElem?_set_ne (Ne.symm h.1)]
theorem setP_in : ∀ {ps : List (Nat × D)} {fr : Fr} {j : Nat} {d : D}, (ps.map (·.1)).Nodup → (j, d) ∈ ps → j < fr.length → (setP fr ps)[j]? = some (some d)
  | [], _, _, _, _, h, _ => by cases h
  | (i, e) :: r, fr, j, d, nd, h, hl => by
    rw [List.map_cons, List.nodup_cons] at nd
    rw [setP]
    rcases List.mem_cons.mp h with q | q
    · cases q
      rw [setP_out nd.1, List.getElem?_set_self hl]
    · exact setP_in nd.2 q (by rw [List.length_set]; exact hl)
theorem argC_length {fr : Fr} : ∀ {ms : List Bool} {ds cs : List D}, argC fr ms ds = some cs → ds.length = ms.length ∧ cs.length = ms.length
  | [], [], cs, h => by cases h; exact ⟨rfl, rfl⟩
  | [], d :: ds, cs, h => by simp [argC] at h
  | true :: ms, [], cs, h => by simp [argC] at h
  | false :: ms, [], cs, h => by simp [argC] at h
  | true :: ms, d :: ds, cs, h => by
    cases d with
    | var i =>
      simp only [argC] at h
      split at h
      · split at h
        · simp only [Option.map_eq_some_iff] at h
          obtain ⟨cs', e, rfl⟩ := h
          obtain ⟨a, b⟩ := argC_length e
          exact ⟨by rw [List.length_cons, List.length_cons, a], by rw [List.length_cons, List.length_cons, b]⟩
        · cases h
      · cases h
    | _ => simp [argC] at h
  | false :: ms, d :: ds, cs, h => by
    simp only [argC] at h
    split at h
    · simp only [Option.map_eq_some_iff] at h
      obtain ⟨cs', e, rfl⟩ := h
      obtain ⟨a, b⟩ := argC_length e
      exact ⟨by rw [List.length_cons, List.length_cons, a], by rw [List.length_cons, List.length_cons, b]⟩
    · cases h
theorem argC_get {fr : Fr} : ∀ {ms : List Bool} {ds cs : List D}, argC fr ms ds = some cs → ∀ {k : Nat} {d : D}, ds[k]? = some d →
    (ms[k]? = some true → ∃ i c, d = .var i ∧ (fr[i]? = some (some c) ∧ isCell c = true) ∧ cs[k]? = some c) ∧ (ms[k]? = some false → pers d = true ∧ cs[k]? = some d)
  | [], [], cs, h, k, d, e => by simp at e
  | [], d :: ds, cs, h, _, _, _ => by simp [argC] at h
  | true :: ms, [], cs, h, _, _, _ => by simp [argC] at h
  | false :: ms, [], cs, h, _, _, _ => by simp [argC] at h
  | true :: ms, d :: ds, cs, h, k, d', e => by
    cases d with
    | var i =>
      simp only [argC] at h
      split at h
      · next c hc =>
        split at h
        · next cc =>
          simp only [Option.map_eq_some_iff] at h
          obtain ⟨cs', e', rfl⟩ := h
          cases k with
          | zero =>
            have : D.var i = d' := by simpa using e
            subst this
            exact ⟨fun _ => ⟨i, c, rfl, ⟨hc, cc⟩, rfl⟩, fun z => by simp at z⟩
          | succ k => simpa using argC_get e' (k := k) (d := d') (by simpa using e)
        · cases h
      · cases h
    | _ => simp [argC] at h
  | false :: ms, d :: ds, cs, h, k, d', e => by
    simp only [argC] at h
    split at h
    · next c =>
      simp only [Option.map_eq_some_iff] at h
      obtain ⟨cs', e', rfl⟩ := h
      cases k with
      | zero =>
        have : d = d' := by simpa using e
        subst this
        exact ⟨fun z => by simp at z, fun _ => ⟨c, rfl⟩⟩
      | succ k => simpa using argC_get e' (k := k) (d := d') (by simpa using e)
    · cases h
theorem ioP_map : ∀ {ms : List Bool} {ds os : List D}, os.length = ms.length → (ioP ms ds os).map (·.1) = ioV ms ds
  | [], [], _, _ => by simp [ioP, ioV]
  | [], _ :: _, _, _ => by simp [ioP, ioV]
  | true :: ms, [], os, h => by cases os <;> simp [ioP, ioV]
  | false :: ms, [], os, h => by cases os <;> simp [ioP, ioV]
  | m :: ms, d :: ds, [], h => by simp at h
  | true :: ms, d :: ds, o :: os, h => by
    have ih := ioP_map (ms := ms) (ds := ds) (os := os) (by simpa using h)
    cases d <;> simp [ioP, ioV, ih]
  | false :: ms, d :: ds, o :: os, h => by
    have ih := ioP_map (ms := ms) (ds := ds) (os := os) (by simpa using h)
    cases d <;> simp [ioP, ioV, ih]
theorem ioP_mem : ∀ {ms : List Bool} {ds os : List D} {i : Nat} {o : D}, (i, o) ∈ ioP ms ds os → ∃ k : Nat, ms[k]? = some true ∧ ds[k]? = some (.var i) ∧ os[k]? = some o
  | [], _, _, _, _, h => by simp [ioP] at h
  | m :: ms, [], os, i, o, h => by
    cases m <;> cases os <;> simp [ioP] at h
  | m :: ms, d :: ds, [], i, o, h => by
    cases m <;> cases d <;> simp [ioP] at h
  | false :: ms, d :: ds, o' :: os, i, o, h => by
    have h' : (i, o) ∈ ioP ms ds os := by cases d <;> simpa [ioP] using h
    obtain ⟨k, a, b, c⟩ := ioP_mem h'
    exact ⟨k + 1, by simpa using a, by simpa using b, by simpa using c⟩
  | true :: ms, d :: ds, o' :: os, i, o, h => by
    have sub : (i, o) ∈ ioP ms ds os → ∃ k : Nat, (true :: ms)[k]? = some true ∧ (d :: ds)[k]? = some (.var i) ∧ (o' :: os)[k]? = some o := fun h' => by
      obtain ⟨k, a, b, c⟩ := ioP_mem h'
      exact ⟨k + 1, by simpa using a, by simpa using b, by simpa using c⟩
    cases d with
    | var j =>
      simp only [ioP, List.mem_cons] at h
      rcases h with q | q
      · cases q
        exact ⟨0, rfl, rfl, rfl⟩
      · exact sub q
    | _ => exact sub (by simpa [ioP] using h)
theorem ioV_mem : ∀ {ms : List Bool} {ds : List D} {i : Nat}, i ∈ ioV ms ds ↔ ∃ k : Nat, ms[k]? = some true ∧ ds[k]? = some (.var i)
  | [], ds, i => by simp [ioV]
  | m :: ms, [], i => by cases m <;> simp [ioV]
  | false :: ms, d :: ds, i => by
    have ih := ioV_mem (ms := ms) (ds := ds) (i := i)
    have e : ioV (false :: ms) (d :: ds) = ioV ms ds := by cases d <;> rfl
    rw [e, ih]
    constructor
    · rintro ⟨k, a, b⟩; exact ⟨k + 1, by simpa using a, by simpa using b⟩
    · rintro ⟨k, a, b⟩
      cases k with
      | zero => simp at a
      | succ k => exact ⟨k, by simpa using a, by simpa using b⟩
  | true :: ms, d :: ds, i => by
    have ih := ioV_mem (ms := ms) (ds := ds) (i := i)
    have up : (∃ k : Nat, (true :: ms)[k]? = some true ∧ (d :: ds)[k]? = some (.var i)) ↔ d = .var i ∨ ∃ k : Nat, ms[k]? = some true ∧ ds[k]? = some (.var i) := by
      constructor
      · rintro ⟨k, a, b⟩
        cases k with
        | zero => exact .inl (by simpa using b)
        | succ k => exact .inr ⟨k, by simpa using a, by simpa using b⟩
      · rintro (e | ⟨k, a, b⟩)
        · exact ⟨0, rfl, by simp [e]⟩
        · exact ⟨k + 1, by simpa using a, by simpa using b⟩
    rw [up, ← ih]
    cases d with
    | var j =>
      simp only [ioV, List.mem_cons, D.var.injEq]
      constructor
      · rintro (e | e)
        · exact .inl e.symm
        · exact .inr e
      · rintro (e | e)
        · exact .inl e.symm
        · exact .inr e
    | _ => simp [ioV]
theorem repWs_get {B : Bd} {σ : L2.St} {Hv : Hp} : ∀ {ds : List D} {vs : List V}, RepWs B σ Hv ds vs → ∀ {k : Nat} {d : D}, ds[k]? = some d → ∃ v, vs[k]? = some v ∧ RepW B σ Hv d v
  | [], _, _, k, d, e => by simp at e
  | d :: ds, _, ⟨v, r, e, h1, h2⟩, 0, d', e' => by
    have : d = d' := by simpa using e'
    subst this
    exact ⟨v, by rw [e]; rfl, h1⟩
  | d :: ds, _, ⟨v, r, e, h1, h2⟩, k + 1, d', e' => by
    obtain ⟨u, a, b⟩ := repWs_get h2 (k := k) (d := d') (by simpa using e')
    exact ⟨u, by rw [e]; simpa using a, b⟩
section
variable {B : Bd} {fr : Fr} {σ : L2.St} {H Hv H' Hv' : Hp} {ms : List Bool} {ds cs outs : List D} {vs : List V}
theorem start_of (R : Rel B fr σ H Hv) (r : RepWs B σ Hv ds vs) (ha : argC fr ms ds = some cs) (nd : (ioV ms ds).Nodup) : Start B.G ms cs vs H Hv where
  sub := R.sub
  tab := R.tab
  lend := (argC_length ha).2
  lenv := by rw [repWs_length r, (argC_length ha).1]
  val := fun k d hm hd => by
    have hk : k < ds.length := by
      rw [(argC_length ha).1]
      exact (List.getElem?_eq_some_iff.mp hm).1
    have e1 : ds[k]? = some ds[k] := List.getElem?_eq_getElem hk
    obtain ⟨p, q⟩ := (argC_get ha e1).2 hm
    rw [hd] at q
    cases q
    obtain ⟨v, a, b⟩ := repWs_get r e1
    exact ⟨v, a, b.rep fun i z => by rw [z] at p; cases p⟩
  own := fun k d hm hd => by
    have hk : k < ds.length := by
      rw [(argC_length ha).1]
      exact (List.getElem?_eq_some_iff.mp hm).1
    have e1 : ds[k]? = some ds[k] := List.getElem?_eq_getElem hk
    obtain ⟨i, c, ei, hc, q⟩ := (argC_get ha e1).1 hm
    rw [hd] at q
    cases q
    obtain ⟨v, a, b⟩ := repWs_get r e1
    rw [ei] at b
    obtain ⟨hi, hs⟩ := b
    obtain ⟨p, hs', hv, _, hcell⟩ := R.own i _ hc hi
    rw [hs] at hs'
    cases hs'
    exact ⟨p, a, hv, hcell⟩
  sep := fun k l p hkl hk hl e1 e2 => by
    have hk' : k < ds.length := by
      rw [(argC_length ha).1]
      exact (List.getElem?_eq_some_iff.mp hk).1
    have hl' : l < ds.length := by
      rw [(argC_length ha).1]
      exact (List.getElem?_eq_some_iff.mp hl).1
    have d1 : ds[k]? = some ds[k] := List.getElem?_eq_getElem hk'
    have d2 : ds[l]? = some ds[l] := List.getElem?_eq_getElem hl'
    obtain ⟨i, c, ei, hc, _⟩ := (argC_get ha d1).1 hk
    obtain ⟨j, c2, ej, hc2, _⟩ := (argC_get ha d2).1 hl
    obtain ⟨v, a, b⟩ := repWs_get r d1
    obtain ⟨v2, a2, b2⟩ := repWs_get r d2
    rw [e1] at a
    cases a
    rw [e2] at a2
    cases a2
    rw [ei] at b d1
    rw [ej] at b2 d2
    have hij : i ≠ j := fun z => by
      subst z
      -- the same slot twice
      have key : ∀ {ms : List Bool} {ds : List D} {k l : Nat}, (ioV ms ds).Nodup → k ≠ l → ms[k]? = some true → ms[l]? = some true → ds[k]? = some (.var i) → ds[l]? = some (.var i) → False := by
        intro ms
        induction ms with
        | nil => intro ds k l _ _ h; simp at h
        | cons m ms ih =>
          intro ds k l nd hne hk hl h1 h2
          cases ds with
          | nil => simp at h1
          | cons d ds =>
            have nd2 : (ioV ms ds).Nodup := by
              cases m with
              | false => cases d <;> exact nd
              | true =>
                cases d with
                | var q => exact (List.nodup_cons.mp nd).2
                | _ => exact nd
            cases k with
            | zero =>
              cases l with
              | zero => exact hne rfl
              | succ l =>
                have em : m = true := by simpa using hk
                have ed : d = .var i := by simpa using h1
                subst em ed
                exact (List.nodup_cons.mp nd).1 (ioV_mem.mpr ⟨l, by simpa using hl, by simpa using h2⟩)
            | succ k =>
              cases l with
              | zero =>
                have em : m = true := by simpa using hl
                have ed : d = .var i := by simpa using h2
                subst em ed
                exact (List.nodup_cons.mp nd).1 (ioV_mem.mpr ⟨k, by simpa using hk, by simpa using h1⟩)
              | succ l => exact ih nd2 (fun z => hne (congrArg Nat.succ z)) (by simpa using hk) (by simpa using hl) (by simpa using h1) (by simpa using h2)
      exact key nd hkl hk hl d1 d2
    exact R.sep i j p c c2 b.1 b2.1 hij hc hc2 b.2 b2.2
theorem ioA_own (R : Rel B fr σ H Hv) (r : RepWs B σ Hv ds vs) (ha : argC fr ms ds = some cs) {b : Addr} (h : ioA ms vs b) : ∃ (k i : Nat) (c : D), ms[k]? = some true ∧ ds[k]? = some (D.var i) ∧ vs[k]? = some (.ref b) ∧ i ∈ B.M ∧ (fr[i]? = some (some c) ∧ isCell c = true) ∧ σ[i]? = some (some (.ref b)) := by
  obtain ⟨k, hm, hv⟩ := h
  have hk : k < ds.length := by
    rw [(argC_length ha).1]
    exact (List.getElem?_eq_some_iff.mp hm).1
  have e1 : ds[k]? = some ds[k] := List.getElem?_eq_getElem hk
  obtain ⟨i, c, ei, hc, _⟩ := (argC_get ha e1).1 hm
  obtain ⟨v, a, b⟩ := repWs_get r e1
  rw [hv] at a
  cases a
  rw [ei] at b e1
  exact ⟨k, i, c, hm, e1, hv, b.1, hc, b.2⟩
theorem nxt_call (R : Rel B fr σ H Hv) (r : RepWs B σ Hv ds vs) (ha : argC fr ms ds = some cs) (nd : (ioV ms ds).Nodup) (hl : outs.length = ms.length) (f : FinC B.G ms outs vs H Hv H' Hv') :
    Nxt B fr σ H Hv (setP fr (ioP ms ds outs)) H' Hv' := by
  have hmap := ioP_map (ds := ds) hl
  have ndp : ((ioP ms ds outs).map (·.1)).Nodup := by rw [hmap]; exact nd
  have assigned : ∀ {i : Nat}, i ∈ ioV ms ds → i ∈ B.M ∧ ∃ c, fr[i]? = some (some c) ∧ isCell c = true := fun {i} hi => by
    obtain ⟨k, hm, hd⟩ := ioV_mem.mp hi
    obtain ⟨j, c, ej, hc, _⟩ := (argC_get ha hd).1 hm
    cases ej
    obtain ⟨v, _, b⟩ := repWs_get r hd
    exact ⟨b.1, c, hc⟩
  have get : ∀ {i : Nat} {d : D}, (setP fr (ioP ms ds outs))[i]? = some (some d) → (∃ k : Nat, ms[k]? = some true ∧ ds[k]? = some (D.var i) ∧ outs[k]? = some d) ∨ (i ∉ ioV ms ds ∧ fr[i]? = some (some d)) := fun {i d} e => by
    by_cases hi : i ∈ ioV ms ds
    · rw [← hmap] at hi
      obtain ⟨⟨i', o⟩, hp, rfl⟩ := List.mem_map.mp hi
      have hil : i' < fr.length := by
        obtain ⟨_, c, hc⟩ := assigned (by rw [← hmap]; exact hi)
        exact (List.getElem?_eq_some_iff.mp hc.1).1
      rw [setP_in ndp hp hil] at e
      cases e
      exact .inl (ioP_mem hp)
    · refine .inr ⟨hi, ?_⟩
      rw [setP_out (by rw [hmap]; exact hi)] at e
      exact e
  have shape : Shr B fr (setP fr (ioP ms ds outs)) := fun i d hi e => by
    rcases get e.1 with ⟨k, hk, hd, _⟩ | ⟨_, e'⟩
    · obtain ⟨_, c, hc⟩ := assigned (ioV_mem.mpr ⟨k, hk, hd⟩)
      exact ⟨c, hc⟩
    · exact ⟨d, e', e.2⟩
  have notTab : ∀ {b : Addr}, ioA ms vs b → b ∉ B.G.tabs := fun {b} h => by
    obtain ⟨k, i, c, _, _, _, hi, hc, hs⟩ := ioA_own R r ha h
    exact (R.own_some ⟨i, c, hi, hc, hs⟩).2.2
  have notTab' : ∀ {i : Nat} {d : D} {a : Addr}, i ∈ B.M → (fr[i]? = some (some d) ∧ isCell d = true) → σ[i]? = some (some (.ref a)) → a ∉ B.G.tabs := fun {i d a} hi hf hs => (R.own_some ⟨i, d, hi, hf, hs⟩).2.2
  have hvn : ∀ {i : Nat} {d : D} {a : Addr}, i ∈ B.M → (fr[i]? = some (some d) ∧ isCell d = true) → σ[i]? = some (some (.ref a)) → Hv' a = none := fun {i d a} hi hf hs => by
    obtain ⟨⟨u, hu⟩, hv, _⟩ := R.own_some ⟨i, d, hi, hf, hs⟩
    by_cases hio : ioA ms vs a
    · obtain ⟨k, hk, hvk⟩ := hio
      exact (f.io k a hk hvk).1
    have nt := notTab' hi hf hs
    cases e : Hv' a with
    | none => rfl
    | some o =>
      rcases f.new a o e with z | z | ⟨ws, z⟩
      · rw [hv] at z; cases z
      · rw [hu] at z; cases z
      · have h1 := f.sub a o e
        rw [f.keep a u hu hio nt] at h1
        cases h1
        obtain ⟨a', hs', _, _, hc⟩ := R.own i d hf hi
        rw [hs] at hs'
        cases hs'
        obtain ⟨o2, h2, _, h3, _⟩ := hc.ob
        rw [hu] at h2
        cases h2
        rw [z] at hu
        exact (hc.not_tup hu).elim
  refine ⟨?_, f.ext, fun b o h no nt => f.keep b o h (fun q => ?_) nt, shape, fun b o h => ?_, fun b o h => ?_⟩
  · refine ⟨f.sub, R.ext0.trans f.ext, fun b o h => ?_, fun b o h hi ht => ?_, by rw [setP_length]; exact R.len, fun i d e hm => ?_, fun i d e hc hm => ?_, fun i d e hm => ?_, fun i j a di dj hi hj hij e1 e2 s1 s2 => ?_, fun p hp => ?_, f.tab⟩
    · rcases f.new b o h with z | z
      · exact R.new b o z
      · exact .inr (z.imp R.h0_none id)
    · refine f.keep b o (R.keep b o h hi ht) (fun q => ?_) ht
      obtain ⟨k, i, c, _, _, _, hm, hc, hs⟩ := ioA_own R r ha q
      obtain ⟨a', hs', _, hn, _⟩ := R.own i c hc hm
      rw [hs] at hs'
      cases hs'
      rcases hn with ⟨p, hp, e⟩ | hn
      · exact hi p hp e
      · rw [h] at hn; cases hn
    · rcases get e with ⟨k, hk, hd, ho⟩ | ⟨_, e'⟩
      · exact absurd (assigned (ioV_mem.mpr ⟨k, hk, hd⟩)).1 hm
      · obtain ⟨v, hs, hr⟩ := R.val i d e' hm
        exact ⟨v, hs, Rep.mono f.ext _ _ hr⟩
    · rcases get e with ⟨k, hk, hd, ho⟩ | ⟨_, e'⟩
      · obtain ⟨_, c, hc'⟩ := assigned (ioV_mem.mpr ⟨k, hk, hd⟩)
        obtain ⟨a, hs, hv, hn, _⟩ := R.own i c hc' hm
        obtain ⟨v, hvk, b⟩ := repWs_get r hd
        obtain ⟨_, hs2⟩ := b
        rw [hs] at hs2
        cases hs2
        obtain ⟨h1, d', hd', hcell⟩ := f.io k a hk hvk
        rw [ho] at hd'
        cases hd'
        rw [hcell.isCell] at hc
        cases hc
      · obtain ⟨e2, v, z, hs, hr⟩ := R.box i d e' hc hm
        exact ⟨e2, v, z, hs, hr.imp (Rep.mono f.ext _ _) id⟩
    · rcases get e.1 with ⟨k, hk, hd, ho⟩ | ⟨hni, e'⟩
      · obtain ⟨_, c, hc⟩ := assigned (ioV_mem.mpr ⟨k, hk, hd⟩)
        obtain ⟨a, hs, hv, hn, _⟩ := R.own i c hc hm
        obtain ⟨v, hvk, b⟩ := repWs_get r hd
        obtain ⟨_, hs2⟩ := b
        rw [hs] at hs2
        cases hs2
        obtain ⟨h1, d', hd', hcell⟩ := f.io k a hk hvk
        rw [ho] at hd'
        cases hd'
        exact ⟨a, hs, h1, hn, hcell⟩
      · obtain ⟨a, hs, hv, hn, hc⟩ := R.own i d ⟨e', e.2⟩ hm
        obtain ⟨⟨u, hu⟩, _, ntab⟩ := R.own_some ⟨i, d, hm, ⟨e', e.2⟩, hs⟩
        have nio : ¬ ioA ms vs a := fun q => by
          obtain ⟨k, j, c, hk, hdk, _, hj, hcj, hsj⟩ := ioA_own R r ha q
          by_cases hij : i = j
          · subst hij
            exact hni (ioV_mem.mpr ⟨k, hk, hdk⟩)
          · exact R.sep i j a d c hm hj hij ⟨e', e.2⟩ hcj hs hsj
        exact ⟨a, hs, hvn hm ⟨e', e.2⟩ hs, hn, hc.mono f.ext ((f.keep a u hu nio ntab).trans hu.symm)⟩
    · obtain ⟨di', hdi⟩ := shape i di hi e1
      obtain ⟨dj', hdj⟩ := shape j dj hj e2
      exact R.sep i j a di' dj' hi hj hij hdi hdj s1 s2
    · obtain ⟨h1, ⟨d, h2, hcl⟩, h3⟩ := R.io p hp
      refine ⟨h1, ?_, h3⟩
      by_cases hi : p.1 ∈ ioV ms ds
      · obtain ⟨k, hk, hd⟩ := ioV_mem.mp hi
        obtain ⟨v, hvk, b⟩ := repWs_get r hd
        obtain ⟨_, hs2⟩ := b
        rw [h3] at hs2
        cases hs2
        obtain ⟨_, d', hd', hcell⟩ := f.io k p.2 hk hvk
        rw [← hmap] at hi
        obtain ⟨⟨i', o⟩, hp', e'⟩ := List.mem_map.mp hi
        dsimp only at e'
        subst e'
        obtain ⟨k2, hk2, hd2, ho2⟩ := ioP_mem hp'
        obtain ⟨v2, hvk2, b2⟩ := repWs_get r hd2
        obtain ⟨_, hs3⟩ := b2
        rw [h3] at hs3
        cases hs3
        obtain ⟨_, d2, hd2', hcell2⟩ := f.io k2 p.2 hk2 hvk2
        rw [ho2] at hd2'
        cases hd2'
        exact ⟨o, setP_in ndp hp' (List.getElem?_eq_some_iff.mp h2).1, hcell2.isCell⟩
      · exact ⟨d, by rw [setP_out (by rw [hmap]; exact hi)]; exact h2, hcl⟩
  · obtain ⟨k, i, c, _, _, _, hm, hc, hs⟩ := ioA_own R r ha q
    exact no ⟨i, c, hm, hc, hs⟩
  · by_cases hb : ioA ms vs b
    · obtain ⟨k, hk, hv⟩ := hb
      obtain ⟨_, d, _, hcell⟩ := f.io k b hk hv
      obtain ⟨o2, h2, _⟩ := hcell.ob
      exact ⟨o2, h2⟩
    · by_cases ht : b ∈ B.G.tabs
      · obtain ⟨⟨ps, e, _⟩, _⟩ := f.tab b ht
        exact ⟨_, e⟩
      · exact ⟨o, f.keep b o h hb ht⟩
  · rcases f.new b o h with z | z
    · exact .inl z
    · exact .inr (.inl z)
end
section
variable {X : Cx} {B : Bd} {W : WX} {e : Expr} {es : List Expr} {g : Av} {k : Nat} {f : Addr} {fd : FuncData} {ps : List Str} {ms : List Bool} {F : Fn} {x : Str} {p pos : Pos}
theorem entCall {rf : Bool} {σ : L2.St} {H : Hp} {Q : VK} {P : Fr → Hp → Hp → Res Fr D → Prop} {fr : Fr} {Hv : Hp} (R : Rel B fr σ H Hv)
    (hex : ∀ c fs fr', P fr H Hv (.exc c fs fr') → ∀ dd H' Hv', Nxt B fr σ H Hv fr' H' Hv' → ExcAt B.G H' Hv' c fs dd → W (.ref (B.G.ecls c)) (some dd) σ H') (hb : ¬ P fr H Hv .bad)
    (hok : ∀ d fr', P fr H Hv (.ok d fr') → ∀ v H1 Hv1 H' Hv' fr1, Nxt B fr σ H Hv fr1 H1 Hv1 → Nxt B fr1 σ H1 Hv1 fr' H' Hv' → RetR rf B.G H1 H' Hv' d v → Q v H')
    (h : P fr H Hv (eCall ms F g fr)) : (dTA B W g) σ H fun vs H1 => spOf B.G ms rf F (vs ++ []) H1 Q (WE W σ) := by
  refine ⟨fr, Hv, R, ?_⟩
  unfold eCall at h
  cases hg : g fr with
  | bad => rw [hg] at h; exact (hb h).elim
  | exc c fs fr1 => rw [hg] at h; exact hex _ _ _ h
  | ok ds fr1 =>
    rw [hg] at h
    dsimp only [Res.bind] at h
    intro vs H1 Hv1 n r
    rw [List.append_nil]
    split at h
    · exact (hb h).elim
    · next cs hcs =>
      split at h
      · next nd =>
        refine ⟨cs, Hv1, start_of n.rel r hcs nd, ?_⟩
        cases hF : F cs with
        | bad => rw [hF] at h; exact (hb h).elim
        | exc c fs outs =>
          rw [hF] at h
          dsimp only at h
          split at h
          · next hl => exact fun dd H' Hv' fin ex => hex _ _ _ h dd H' Hv' (n.trans (nxt_call n.rel r hcs nd hl fin)) ex
          · exact (hb h).elim
        | ok d outs =>
          rw [hF] at h
          dsimp only at h
          split at h
          · next hl => exact fun v H' Hv' fin ret => hok _ _ h v H1 Hv1 H' Hv' fr1 n (nxt_call n.rel r hcs nd hl fin) ret
          · exact (hb h).elim
      · exact (hb h).elim
theorem d_call (Fk : FnOk X.prog X.w X.K X.mg X.base (L2N.CX X.prog X.w) k f fd ps (spOf B.G ms false F)) (hr : Room k X.A) (hm : X.mg x = some (.ref f)) (hk : PySem.W.keepIn X.K (.ref f) = true) (hb : Binds X.K fd ps []) (tk : ∀ σ, PassesAt (L2N.CX X.prog X.w) X σ (WE W σ))
    (ha : DA X B W (e :: es) g) (hg : Gl X x := by rfl) (hdb : (x == ("__debug__" : Str)) = false := by decide) (he : starEach (e :: es) X.env = (false, eval e X.env) :: starEach es X.env := by rfl) (hpl : (backTo pos (starEach es X.env)).any (·.1) = false := by rfl) :
    DE X B W (.Call (.Name x p) (e :: es) [] pos) (eCall ms F g) := by
  refine pe_imp (pe_callSD Fk hr hg hm hk hb .nil tk ha hdb he hpl) fun σ H Q h => ?_
  obtain ⟨fr, Hv, R, h⟩ := h
  exact entCall (P := fun fr H Hv r => PostE B W fr σ H Hv r Q) R (fun c fs fr' h => h) (fun h => h) (fun d fr' h v H1 Hv1 H' Hv' fr1 n m ret => h v H' Hv' (n.trans m) (.of ret)) h
theorem d_callF (Fk : FnOk X.prog X.w X.K X.mg X.base (L2N.CX X.prog X.w) k f fd ps (spOf B.G ms true F)) (hr : Room k X.A) (hm : X.mg x = some (.ref f)) (hk : PySem.W.keepIn X.K (.ref f) = true) (hb : Binds X.K fd ps []) (tk : ∀ σ, PassesAt (L2N.CX X.prog X.w) X σ (WE W σ))
    (ha : DA X B W (e :: es) g) (hg : Gl X x := by rfl) (hdb : (x == ("__debug__" : Str)) = false := by decide) (he : starEach (e :: es) X.env = (false, eval e X.env) :: starEach es X.env := by rfl) (hpl : (backTo pos (starEach es X.env)).any (·.1) = false := by rfl) :
    DF X B W (.Call (.Name x p) (e :: es) [] pos) (eCall ms F g) := by
  refine pe_imp (pe_callSD Fk hr hg hm hk hb .nil tk ha hdb he hpl) fun σ H Q h => ?_
  obtain ⟨fr, Hv, R, h⟩ := h
  refine entCall (P := fun fr H Hv r => PostF B W fr σ H Hv r Q) R (fun c fs fr' h => h) (fun h => h) (fun d fr' h v H1 Hv1 H' Hv' fr1 n m ret => ?_) h
  obtain ⟨q, rfl, h1, h2, h3⟩ := ret
  exact h q H' Hv' (n.trans m) (n.none R h1) h2 h3
end
end KS
namespace KS
open PySem PySem.Spec L2
/-- the end of a body -/
structure FinB (B : Bd) (fr' : Fr) (H' Hv' : Hp) : Prop where
  sub : Sub Hv' H'
  ext0 : Sub B.Hv0 Hv'
  new : ∀ b o, Hv' b = some o → B.Hv0 b = some o ∨ NewOk B.H0 b o
  keep : ∀ b o, B.H0 b = some o → (∀ p ∈ B.io, p.2 ≠ b) → b ∉ B.G.tabs → H' b = some o
  tab : ∀ P ∈ B.G.tabs, TabH H' P ∧ Hv' P = none
  io : ∀ p ∈ B.io, Hv' p.2 = none ∧ ∃ d, fr'[p.1]? = some (some d) ∧ Cell B.G H' Hv' p.2 d
theorem Rel.fin {B : Bd} {fr : Fr} {σ : L2.St} {H Hv : Hp} (R : Rel B fr σ H Hv) : FinB B fr H Hv where
  sub := R.sub
  ext0 := R.ext0
  new := R.new
  keep := R.keep
  tab := R.tab
  io := fun p hp => by
    obtain ⟨h1, ⟨d, hd⟩, h3⟩ := R.io p hp
    obtain ⟨a, hs, hv, _, hc⟩ := R.own p.1 d hd h1
    rw [h3] at hs
    cases hs
    exact ⟨hv, d, hd.1, hc⟩
def PostS (B : Bd) (W : WX) (rf : Bool) (Hv : Hp) (r : Res Fr Fl) (D : Ends) : Prop :=
  match r with
  | .ok .nx fr' => ∀ σ' H' Hv', Rel B fr' σ' H' Hv' → Sub Hv Hv' → D.nx σ' H'
  | .ok .brk fr' => ∀ σ' H' Hv', Rel B fr' σ' H' Hv' → Sub Hv Hv' → D.bk σ' H'
  | .ok .cnt fr' => ∀ σ' H' Hv', Rel B fr' σ' H' Hv' → Sub Hv Hv' → D.ct σ' H'
  | .ok (.ret d) fr' => ∀ v H' Hv', FinB B fr' H' Hv' → RetR rf B.G B.H0 H' Hv' d v → D.rt v H'
  | .exc c fs fr' => ∀ dd σ' H' Hv', Rel B fr' σ' H' Hv' → Sub Hv Hv' → ExcAt B.G H' Hv' c fs dd → W (.ref (B.G.ecls c)) (some dd) σ' H'
  | .bad => False
def dTS (B : Bd) (W : WX) (rf : Bool) (g : Sv) : TS := fun D σ H => ∃ fr Hv, Rel B fr σ H Hv ∧ PostS B W rf Hv (g fr) D
def DS (X : Cx) (B : Bd) (W : WX) (rf : Bool) (st : Stmt) (g : Sv) : Prop := PS X st (dTS B W rf g)
def DSs (X : Cx) (B : Bd) (W : WX) (rf : Bool) (st : List Stmt) (g : Sv) : Prop := PSs X st (dTS B W rf g)
theorem PostS.step {B : Bd} {W : WX} {rf : Bool} {Hv Hv1 : Hp} {r : Res Fr Fl} {D : Ends} (s : Sub Hv Hv1) (h : PostS B W rf Hv r D) : PostS B W rf Hv1 r D := by
  cases r with
  | ok fl fr' =>
    cases fl with
    | nx => exact fun σ' H' Hv' R m => h σ' H' Hv' R (s.trans m)
    | brk => exact fun σ' H' Hv' R m => h σ' H' Hv' R (s.trans m)
    | cnt => exact fun σ' H' Hv' R m => h σ' H' Hv' R (s.trans m)
    | ret d => exact h
  | exc c fs fr' => exact fun dd σ' H' Hv' R m => h dd σ' H' Hv' R (s.trans m)
  | bad => exact h
def sNx : Sv := fun fr => .ok .nx fr
def sBrk : Sv := fun fr => .ok .brk fr
def sSeq (g h : Sv) : Sv := fun fr => (g fr).bind fun fl fr1 => match fl with
  | .nx => h fr1
  | fl => .ok fl fr1
def sX (f : Ev) : Sv := fun fr => (f fr).bind fun _ fr1 => .ok .nx fr1
def sRet (f : Ev) : Sv := fun fr => (f fr).bind fun d fr1 => if pers d = true then .ok (.ret d) fr1 else .bad
/-- return x, x an owned slot -/
def sRetV (i : Nat) : Sv := fun fr => match fr[i]? with
  | some (some d) => if isCell d = true then .ok (.ret d) fr else .bad
  | _ => .bad
def sIf (t : Bv) (g h : Sv) : Sv := fun fr => (t fr).bind fun b fr1 => if b then g fr1 else h fr1
def sSet (i : Nat) (f : Ev) : Sv := fun fr => (f fr).bind fun d fr1 => if pers d = true then .ok .nx (fr1.set i (some d)) else .bad
def sSetF (i : Nat) (f : Ev) : Sv := fun fr => (f fr).bind fun d fr1 => .ok .nx (fr1.set i (some d))
section
variable {X : Cx} {B : Bd} {W : WX} {rf : Bool} {st : Stmt} {rest : List Stmt} {g h : Sv} {e : Expr} {f : Ev} {t : Bv} {pos : Pos}
theorem ss_nil : DSs X B W rf [] sNx := pss_imp pss_nil fun D σ H ⟨fr, Hv, R, h⟩ => h σ H Hv R (.refl _)
theorem ss_cons (h1 : DS X B W rf st g) (h2 : DSs X B W rf rest h) : DSs X B W rf (st :: rest) (sSeq g h) := by
  refine pss_imp (pss_cons h1 h2) fun D σ H hh => ?_
  obtain ⟨fr, Hv, R, hh⟩ := hh
  refine ⟨fr, Hv, R, ?_⟩
  unfold sSeq at hh
  cases hg : g fr with
  | bad => rw [hg] at hh; exact hh.elim
  | exc c fs fr1 => rw [hg] at hh; exact hh
  | ok fl fr1 =>
    rw [hg] at hh
    dsimp only [Res.bind] at hh
    cases fl with
    | nx => exact fun σ' H' Hv' R' s => ⟨fr1, Hv', R', PostS.step s hh⟩
    | brk => exact hh
    | cnt => exact hh
    | ret d => exact hh
theorem s_break : DS X B W rf (.Break pos) sBrk := ps_imp ps_break fun D σ H ⟨fr, Hv, R, h⟩ => h σ H Hv R (.refl _)
theorem s_expr (he : DE X B W e f) (hs : swapsWith e none pos.line X.env = pure false := by rfl) : DS X B W rf (.Expr e pos) (sX f) := by
  refine ps_imp (ps_expr he hs) fun D σ H hh => ?_
  obtain ⟨fr, Hv, R, hh⟩ := hh
  refine ⟨fr, Hv, R, ?_⟩
  unfold sX at hh
  cases hg : f fr with
  | bad => rw [hg] at hh; exact hh.elim
  | exc c fs fr1 =>
    rw [hg] at hh
    exact fun dd H' Hv' n => hh dd σ H' Hv' n.rel n.ext
  | ok d fr1 =>
    rw [hg] at hh
    exact fun v H' Hv' n _ => hh σ H' Hv' n.rel n.ext
theorem s_ret (hrf : rf = false) (he : DE X B W e f) : DS X B W rf (.Return (some e) pos) (sRet f) := by
  subst hrf
  refine ps_imp (ps_ret he) fun D σ H hh => ?_
  obtain ⟨fr, Hv, R, hh⟩ := hh
  refine ⟨fr, Hv, R, ?_⟩
  unfold sRet at hh
  cases hg : f fr with
  | bad => rw [hg] at hh; exact hh.elim
  | exc c fs fr1 =>
    rw [hg] at hh
    exact fun dd H' Hv' n => hh dd σ H' Hv' n.rel n.ext
  | ok d fr1 =>
    rw [hg] at hh
    dsimp only [Res.bind] at hh
    split at hh
    · next c => exact fun v H' Hv' n r => hh v H' Hv' n.rel.fin (by
        show if false = true then _ else Rep B.G Hv' d v
        rw [if_neg Bool.false_ne_true]
        exact r.rep fun i z => by rw [z] at c; cases c)
    · exact hh.elim
theorem s_retV {i : Nat} {x : Str} {np : Pos} (hi : i ∈ B.M) (hio : ∀ p ∈ B.io, p.1 ≠ i) (hN : X.N[i]? = some x := by rfl) (hv : Vis X.env.scope x := by first | exact Or.inl rfl | exact Or.inr (Or.inl rfl) | exact Or.inr (Or.inr rfl)) (hd : (x == ("__debug__" : Str)) = false := by decide)
    (hcd : (x == ("__classdict__" : Str)) = false := by decide) : DS X B W rf (.Return (some (.Name x np)) pos) (sRetV i) := by
  refine ps_imp (ps_ret (pe_var hN hv hd hcd)) fun D σ H hh => ?_
  obtain ⟨fr, Hv, R, hh⟩ := hh
  unfold sRetV at hh
  split at hh
  · next d e0 =>
   split at hh
   · next cl =>
    have e := And.intro e0 cl
    obtain ⟨a, hs, hva, hn, hc⟩ := R.own i d e hi
    have nio : ∀ p ∈ B.io, p.2 ≠ a := fun p hp z => by
      obtain ⟨h1, ⟨d', hd'⟩, h3⟩ := R.io p hp
      rw [z] at h3
      exact R.sep p.1 i a d' d h1 hi (hio p hp) hd' e h3 hs
    have h0 : B.H0 a = none := by
      rcases hn with ⟨p, hp, z⟩ | z
      · exact absurd z (nio p hp)
      · exact z
    refine ⟨.ref a, hs, ?_⟩
    cases rf with
    | true =>
      refine hh (.ref a) H Hv R.fin ?_
      show if true = true then _ else _
      rw [if_pos rfl]
      exact ⟨a, rfl, h0, hva, hc⟩
    | false =>
      obtain ⟨o, ho, nt⟩ : ∃ o, H a = some o ∧ ∀ ps, o ≠ .tbl ps := by
        cases d with
        | lst ds => obtain ⟨vs, q, _⟩ := hc; exact ⟨_, q, fun ps z => by cases z⟩
        | obj c ns fs => obtain ⟨dx, vs, q, _⟩ := hc; exact ⟨_, q, fun ps z => by cases z⟩
        | dct ks ds =>
          obtain ⟨us, ⟨kvs, q, _⟩ | ⟨kvs, q, _⟩, _⟩ := hc
          · exact ⟨_, q, fun ps z => by cases z⟩
          · exact ⟨_, q, fun ps z => by cases z⟩
        | _ => exact hc.elim
      have s := sub_freeze R ho
      have upA : ∀ {b u}, upd Hv a o b = some u → (b = a ∧ u = o) ∨ (b ≠ a ∧ Hv b = some u) := fun {b u} q => by
        by_cases hb : b = a
        · subst hb
          rw [upd_same] at q
          exact .inl ⟨rfl, (Option.some.inj q).symm⟩
        · rw [upd_ne hb] at q
          exact .inr ⟨hb, q⟩
      refine hh (.ref a) H (upd Hv a o) ⟨fun b u q => ?_, R.ext0.trans s, fun b u q => ?_, R.keep, fun P hP => ?_, fun p hp => ?_⟩ ?_
      · rcases upA q with ⟨rfl, rfl⟩ | ⟨_, q⟩
        · exact ho
        · exact R.sub b u q
      · rcases upA q with ⟨rfl, rfl⟩ | ⟨_, q⟩
        · exact .inr (.inl h0)
        · exact R.new b u q
      · obtain ⟨⟨ps, q, t⟩, v⟩ := R.tab P hP
        refine ⟨⟨ps, q, t⟩, ?_⟩
        rw [upd_ne fun z => by rw [z, ho] at q; exact nt ps (Option.some.inj q)]
        exact v
      · obtain ⟨z1, d', z2, z3⟩ := R.fin.io p hp
        exact ⟨by rw [upd_ne (nio p hp)]; exact z1, d', z2, z3.mono s rfl⟩
      · show if false = true then _ else Rep B.G (upd Hv a o) d (.ref a)
        rw [if_neg Bool.false_ne_true]
        cases d with
        | lst ds =>
          obtain ⟨vs, q, r⟩ := hc
          rw [ho] at q
          cases q
          exact Rep.lst upd_same (RepL.mono s _ _ r)
        | obj c ns fs =>
          obtain ⟨dx, vs, q, l, r⟩ := hc
          rw [ho] at q
          cases q
          exact Rep.obj upd_same l (RepL.mono s _ _ r)
        | dct ks ds =>
          obtain ⟨us, q, r⟩ := hc
          exact Rep.dct (q.at fun u z => by rw [ho] at z; cases z; exact upd_same) (RepL.mono s _ _ r)
        | _ => exact hc.elim
   · exact hh.elim
  · exact hh.elim
theorem s_if {c : Expr} {a b : List Stmt} (hc : DT X B W c t) (ha : DSs X B W rf a g) (hb : DSs X B W rf b h) : DS X B W rf (.If c a b pos) (sIf t g h) := by
  refine ps_imp (ps_if hc ha hb) fun D σ H hh => ?_
  obtain ⟨fr, Hv, R, hh⟩ := hh
  refine ⟨fr, Hv, R, ?_⟩
  unfold sIf at hh
  cases hg : t fr with
  | bad => rw [hg] at hh; exact hh.elim
  | exc c fs fr1 =>
    rw [hg] at hh
    exact fun dd H' Hv' n => hh dd σ H' Hv' n.rel n.ext
  | ok k fr1 =>
    rw [hg] at hh
    dsimp only [Res.bind] at hh
    intro H' Hv' n
    cases k with
    | true =>
      rw [if_pos rfl]
      exact ⟨fr1, Hv', n.rel, PostS.step n.ext hh⟩
    | false =>
      rw [if_neg Bool.false_ne_true]
      exact ⟨fr1, Hv', n.rel, PostS.step n.ext hh⟩
/-- a slot that owns nothing gets a value -/
theorem Rel.setV {fr : Fr} {σ : L2.St} {H Hv : Hp} (R : Rel B fr σ H Hv) {i : Nat} {d : D} {v : V} (hi : i ∉ B.M) (r : Rep B.G Hv d v) : Rel B (fr.set i (some d)) (σ.set i (some v)) H Hv where
  sub := R.sub
  ext0 := R.ext0
  new := R.new
  keep := R.keep
  len := by rw [List.length_set, List.length_set]; exact R.len
  val := fun j e hf hm => by
    by_cases hj : j = i
    · subst hj
      have hl : j < fr.length := by
        have := (List.getElem?_eq_some_iff.mp hf).1
        rwa [List.length_set] at this
      rw [List.getElem?_set_self hl] at hf
      cases hf
      exact ⟨v, List.getElem?_set_self (by rw [← R.len]; exact hl), r⟩
    · rw [List.getElem?_set_ne (Ne.symm hj)] at hf
      obtain ⟨u, h1, h2⟩ := R.val j e hf hm
      exact ⟨u, by rw [List.getElem?_set_ne (Ne.symm hj)]; exact h1, h2⟩
  box := fun j e hf hc hm => by
    have hj : j ≠ i := fun z => hi (z ▸ hm)
    rw [List.getElem?_set_ne (Ne.symm hj)] at hf
    obtain ⟨e2, u, h0, h1, h2⟩ := R.box j e hf hc hm
    exact ⟨e2, u, h0, by rw [List.getElem?_set_ne (Ne.symm hj)]; exact h1, h2⟩
  own := fun j e hf hm => by
    have hj : j ≠ i := fun z => hi (z ▸ hm)
    rw [List.getElem?_set_ne (Ne.symm hj)] at hf
    obtain ⟨a, h1, h2⟩ := R.own j e hf hm
    exact ⟨a, by rw [List.getElem?_set_ne (Ne.symm hj)]; exact h1, h2⟩
  sep := fun j k a dj dk hj hk hjk e1 e2 s1 => by
    have hj' : j ≠ i := fun z => hi (z ▸ hj)
    have hk' : k ≠ i := fun z => hi (z ▸ hk)
    rw [List.getElem?_set_ne (Ne.symm hj')] at e1 s1
    rw [List.getElem?_set_ne (Ne.symm hk')] at e2 ⊢
    exact R.sep j k a dj dk hj hk hjk e1 e2 s1
  io := fun p hp => by
    obtain ⟨h1, h2, h3⟩ := R.io p hp
    have hj : p.1 ≠ i := fun z => hi (z ▸ h1)
    exact ⟨h1, by rw [List.getElem?_set_ne (Ne.symm hj)]; exact h2, by rw [List.getElem?_set_ne (Ne.symm hj)]; exact h3⟩
  tab := R.tab
/-- an owned slot gets a new object -/
theorem Rel.setF {fr : Fr} {σ : L2.St} {H Hv : Hp} (R : Rel B fr σ H Hv) {i : Nat} {d : D} {p : Addr} (hi : i ∈ B.M) (hio : ∀ q ∈ B.io, q.1 ≠ i) (no : ¬ Own B fr σ p) (h0 : B.H0 p = none) (hv : Hv p = none) (hc : Cell B.G H Hv p d) : Rel B (fr.set i (some d)) (σ.set i (some (.ref p))) H Hv where
  sub := R.sub
  ext0 := R.ext0
  new := R.new
  keep := R.keep
  len := by rw [List.length_set, List.length_set]; exact R.len
  val := fun j e hf hm => by
    have hj : j ≠ i := fun z => hm (z ▸ hi)
    rw [List.getElem?_set_ne (Ne.symm hj)] at hf
    obtain ⟨u, h1, h2⟩ := R.val j e hf hm
    exact ⟨u, by rw [List.getElem?_set_ne (Ne.symm hj)]; exact h1, h2⟩
  box := fun j e hf hcl hm => by
    by_cases hj : j = i
    · subst hj
      have hl : j < fr.length := by
        have := (List.getElem?_eq_some_iff.mp hf).1
        rwa [List.length_set] at this
      rw [List.getElem?_set_self hl] at hf
      cases hf
      rw [hc.isCell] at hcl
      cases hcl
    · rw [List.getElem?_set_ne (Ne.symm hj)] at hf
      obtain ⟨e2, u, h0, h1, h2⟩ := R.box j e hf hcl hm
      exact ⟨e2, u, h0, by rw [List.getElem?_set_ne (Ne.symm hj)]; exact h1, h2⟩
  own := fun j e hf hm => by
    by_cases hj : j = i
    · subst hj
      have hl : j < fr.length := by
        have := (List.getElem?_eq_some_iff.mp hf.1).1
        rwa [List.length_set] at this
      have hf := hf.1
      rw [List.getElem?_set_self hl] at hf
      cases hf
      exact ⟨p, List.getElem?_set_self (by rw [← R.len]; exact hl), hv, .inr h0, hc⟩
    · rw [List.getElem?_set_ne (Ne.symm hj)] at hf
      obtain ⟨a, h1, h2⟩ := R.own j e hf hm
      exact ⟨a, by rw [List.getElem?_set_ne (Ne.symm hj)]; exact h1, h2⟩
  sep := fun j k a dj dk hj hk hjk e1 e2 s1 => by
    by_cases hj' : j = i
    · subst hj'
      have hk' : k ≠ j := Ne.symm hjk
      have hl : j < σ.length := by
        have := (List.getElem?_eq_some_iff.mp s1).1
        rwa [List.length_set] at this
      rw [List.getElem?_set_self hl] at s1
      cases s1
      rw [List.getElem?_set_ne (Ne.symm hk')] at e2 ⊢
      exact fun z => no ⟨k, dk, hk, e2, z⟩
    · rw [List.getElem?_set_ne (Ne.symm hj')] at e1 s1
      by_cases hk' : k = i
      · subst hk'
        by_cases hl : k < σ.length
        · rw [List.getElem?_set_self hl]
          intro z
          cases z
          exact no ⟨j, dj, hj, e1, s1⟩
        · rw [List.getElem?_eq_none (by rw [List.length_set]; omega)]
          exact fun z => by cases z
      · rw [List.getElem?_set_ne (Ne.symm hk')] at e2 ⊢
        exact R.sep j k a dj dk hj hk hjk e1 e2 s1
  io := fun q hq => by
    obtain ⟨h1, h2, h3⟩ := R.io q hq
    have hj : q.1 ≠ i := hio q hq
    exact ⟨h1, by rw [List.getElem?_set_ne (Ne.symm hj)]; exact h2, by rw [List.getElem?_set_ne (Ne.symm hj)]; exact h3⟩
  tab := R.tab
theorem s_set {i : Nat} {x : Str} {pos' : Pos} (hi : i ∉ B.M) (nd : X.N.Nodup) (he : DE X B W e f) (hN : X.N[i]? = some x := by rfl) (hx : Loc X.env.scope x := by first | exact Or.inl rfl | exact Or.inr rfl) (hs : swapsWith e (some (.Name x pos')) pos.line X.env = pure false := by rfl)
    (hf : X.fn x = true ∨ X.env.scope.names.lookup x = some .local := by first | exact .inl rfl | exact .inr rfl | assumption) : DS X B W rf (.Assign [.Name x pos'] e pos) (sSet i f) := by
  refine ps_imp (ps_set nd hN hx he hs hf) fun D σ H hh => ?_
  obtain ⟨fr, Hv, R, hh⟩ := hh
  refine ⟨fr, Hv, R, ?_⟩
  unfold sSet at hh
  cases hg : f fr with
  | bad => rw [hg] at hh; exact hh.elim
  | exc c fs fr1 =>
    rw [hg] at hh
    exact fun dd H' Hv' n => hh dd σ H' Hv' n.rel n.ext
  | ok d fr1 =>
    rw [hg] at hh
    dsimp only [Res.bind] at hh
    split at hh
    · next c => exact fun v H' Hv' n r => hh _ H' Hv' (n.rel.setV hi (r.rep fun i z => by rw [z] at c; cases c)) n.ext
    · exact hh.elim
theorem not_own_of_none {fr fr1 : Fr} {σ : L2.St} {H Hv H1 Hv1 : Hp} (R : Rel B fr σ H Hv) (n : Nxt B fr σ H Hv fr1 H1 Hv1) {p : Addr} (hp : H p = none) : ¬ Own B fr1 σ p := fun o => by
  obtain ⟨⟨u, hu⟩, _⟩ := R.own_some (own_shp n.shp o)
  rw [hp] at hu
  cases hu
theorem s_setF {i : Nat} {x : Str} {pos' : Pos} (hi : i ∈ B.M) (hio : ∀ q ∈ B.io, q.1 ≠ i) (nd : X.N.Nodup) (he : DF X B W e f) (hN : X.N[i]? = some x := by rfl) (hx : Loc X.env.scope x := by first | exact Or.inl rfl | exact Or.inr rfl) (hs : swapsWith e (some (.Name x pos')) pos.line X.env = pure false := by rfl)
    (hf : X.fn x = true ∨ X.env.scope.names.lookup x = some .local := by first | exact .inl rfl | exact .inr rfl | assumption) : DS X B W rf (.Assign [.Name x pos'] e pos) (sSetF i f) := by
  refine ps_imp (ps_set nd hN hx he hs hf) fun D σ H hh => ?_
  obtain ⟨fr, Hv, R, hh⟩ := hh
  refine ⟨fr, Hv, R, ?_⟩
  unfold sSetF at hh
  cases hg : f fr with
  | bad => rw [hg] at hh; exact hh.elim
  | exc c fs fr1 =>
    rw [hg] at hh
    exact fun dd H' Hv' n => hh dd σ H' Hv' n.rel n.ext
  | ok d fr1 =>
    rw [hg] at hh
    dsimp only [Res.bind] at hh
    exact fun p H' Hv' n hp hv hc => hh _ H' Hv' (n.rel.setF hi hio (not_own_of_none R n hp) (R.h0_none hp) hv hc) n.ext
end
def startF (n : Nat) (ds : List D) : Fr := ds.map some ++ List.replicate (n - ds.length) none
def outsOf (k : Nat) (fr : Fr) : List D := (List.range k).map fun i => (fr[i]?.join).getD .non
def runFn (k n : Nat) (g : Sv) : Fn := fun ds => match g (startF n ds) with
  | .ok .nx fr => .ok .non (outsOf k fr)
  | .ok (.ret d) fr => .ok d (outsOf k fr)
  | .exc c fs fr => .exc c fs (outsOf k fr)
  | _ => .bad
/-- the slots that own: parameters that are handed in to be changed, and others -/
def ioSlots (ms : List Bool) : List Nat := (List.range ms.length).filter fun i => ms.getD i false
def ioOf (ms : List Bool) (vs : List V) : List (Nat × Addr) := (ioSlots ms).filterMap fun i => match vs[i]? with
  | some (V.ref a) => some (i, a)
  | _ => none
theorem mem_ioSlots {ms : List Bool} {i : Nat} : i ∈ ioSlots ms ↔ ms[i]? = some true := by
  unfold ioSlots
  rw [List.mem_filter, List.mem_range]
  constructor
  · rintro ⟨h1, h2⟩
    rw [List.getD_eq_getElem?_getD, List.getElem?_eq_getElem h1] at h2
    rw [List.getElem?_eq_getElem h1]
    exact congrArg some h2
  · intro h
    obtain ⟨h1, h2⟩ := List.getElem?_eq_some_iff.mp h
    exact ⟨h1, by rw [List.getD_eq_getElem?_getD, h]; rfl⟩
theorem mem_ioOf {ms : List Bool} {vs : List V} {i : Nat} {a : Addr} : (i, a) ∈ ioOf ms vs ↔ ms[i]? = some true ∧ vs[i]? = some (.ref a) := by
  unfold ioOf
  rw [List.mem_filterMap]
  constructor
  · rintro ⟨j, hj, e⟩
    split at e
    · next b hb =>
      cases e
      exact ⟨mem_ioSlots.mp hj, hb⟩
    · cases e
  · rintro ⟨h1, h2⟩
    exact ⟨i, mem_ioSlots.mpr h1, by rw [h2]⟩
section
variable {K : PySem.W.Frag} {G : SE} {ms : List Bool} {ds : List D} {vs : List V} {H Hv : Hp} {N : List Str} {M : List Nat}
theorem startF_get {n : Nat} (h : ds.length ≤ n) {i : Nat} {d : D} : (startF n ds)[i]? = some (some d) ↔ ds[i]? = some d := by
  unfold startF
  by_cases hi : i < ds.length
  · rw [List.getElem?_append_left (by simpa using hi), List.getElem?_map]
    cases ds[i]? <;> simp
  · rw [List.getElem?_append_right (by simpa using hi), List.getElem?_eq_none (by omega : ds.length ≤ i)]
    simp [List.getElem?_replicate]
theorem start_get (h : vs.length ≤ N.length) {i : Nat} {v : V} : (L2.start N vs)[i]? = some (some v) ↔ vs[i]? = some v := by
  unfold L2.start
  by_cases hi : i < vs.length
  · rw [List.getElem?_append_left (by simpa using hi), List.getElem?_map]
    cases vs[i]? <;> simp
  · rw [List.getElem?_append_right (by simpa using hi), List.getElem?_eq_none (by omega : vs.length ≤ i)]
    simp [List.getElem?_replicate]
theorem rel_start (S : Start G ms ds vs H Hv) (hN : ms.length ≤ N.length) (hM : ∀ i, i < ms.length → (i ∈ M ↔ ms[i]? = some true)) : Rel ⟨G, M, ioOf ms vs, H, Hv, none⟩ (startF N.length ds) (L2.start N vs) H Hv := by
  have ld : ds.length ≤ N.length := by rw [S.lend]; exact hN
  have lv : vs.length ≤ N.length := by rw [S.lenv]; exact hN
  have lt : ∀ {i : Nat} {d : D}, ds[i]? = some d → i < ms.length := fun {i d} h => by
    rw [← S.lend]
    exact (List.getElem?_eq_some_iff.mp h).1
  have mode : ∀ {i : Nat}, i < ms.length → ms[i]? = some true ∨ ms[i]? = some false := fun {i} h => by
    rw [List.getElem?_eq_getElem h]
    cases ms[i] <;> simp
  refine ⟨S.sub, .refl _, fun b o h => .inl h, fun b o h _ _ => h, ?_, fun i d e hm => ?_, fun i d e hc hm => ?_, fun i d e hm => ?_, fun i j a di dj hi hj hij e1 e2 s1 s2 => ?_, fun p hp => ?_, S.tab⟩
  · show (startF N.length ds).length = (L2.start N vs).length
    unfold startF L2.start
    simp only [List.length_append, List.length_map, List.length_replicate]
    rw [S.lend, S.lenv]
  · have e' := (startF_get ld).mp e
    have hl := lt e'
    rcases mode hl with h | h
    · exact absurd ((hM i hl).mpr h) hm
    · obtain ⟨v, h1, h2⟩ := S.val i d h e'
      exact ⟨v, (start_get lv).mpr h1, h2⟩
  · have e' := (startF_get ld).mp e
    have hl := lt e'
    have h := (hM i hl).mp hm
    obtain ⟨a, h1, h2, h3⟩ := S.own i d h e'
    rw [h3.isCell] at hc
    cases hc
  · have e' := (startF_get ld).mp e.1
    have hl := lt e'
    have h := (hM i hl).mp hm
    obtain ⟨a, h1, h2, h3⟩ := S.own i d h e'
    exact ⟨a, (start_get lv).mpr h1, h2, .inl ⟨(i, a), mem_ioOf.mpr ⟨h, h1⟩, rfl⟩, h3⟩
  · have e1' := (startF_get ld).mp e1.1
    have e2' := (startF_get ld).mp e2.1
    exact S.sep i j a hij ((hM i (lt e1')).mp hi) ((hM j (lt e2')).mp hj) ((start_get lv).mp s1) ((start_get lv).mp s2)
  · obtain ⟨i, a⟩ := p
    obtain ⟨h1, h2⟩ := mem_ioOf.mp hp
    have hl : i < ms.length := (List.getElem?_eq_some_iff.mp h1).1
    have hd : ds[i]? = some (ds[i]'(by rw [S.lend]; exact hl)) := List.getElem?_eq_getElem _
    obtain ⟨_, _, _, h3⟩ := S.own i _ h1 hd
    exact ⟨(hM i hl).mpr h1, ⟨_, (startF_get ld).mpr hd, h3.isCell⟩, (start_get lv).mpr h2⟩
theorem fin_of (hl : vs.length = ms.length) {fr : Fr} {H' Hv' : Hp} (f : FinB ⟨G, M, ioOf ms vs, H, Hv, none⟩ fr H' Hv') : FinC G ms (outsOf ms.length fr) vs H Hv H' Hv' where
  sub := f.sub
  ext := f.ext0
  new := f.new
  keep := fun b o h no nt => f.keep b o h (fun p hp z => no (by
    obtain ⟨i, a⟩ := p
    obtain ⟨h1, h2⟩ := (mem_ioOf (ms := ms) (vs := vs)).mp hp
    exact ⟨i, h1, by rw [← z]; exact h2⟩)) nt
  tab := f.tab
  io := fun i a h1 h2 => by
    obtain ⟨z1, d, z2, z3⟩ := f.io (i, a) (mem_ioOf.mpr ⟨h1, h2⟩)
    refine ⟨z1, d, ?_, z3⟩
    have hi : i < ms.length := (List.getElem?_eq_some_iff.mp h1).1
    unfold outsOf
    rw [List.getElem?_map, List.getElem?_range hi]
    show some ((fr[i]?.join).getD .non) = some d
    have z2' : fr[i]? = some (some d) := z2
    rw [z2']
    rfl
end
section
variable {P : Program} {w : World} {G : SE} {ms : List Bool} {M : List Nat} {rf : Bool} {g : Sv} {x qual : Str} {st : Stmt} {f : Addr} {fd : FuncData} {N ps : List Str} {k : Nat}
/-- THE RULE for a def: what its body's term of rules gives -/
theorem fnok_of (F : Fun G.K x qual st f fd) (S : FnScope N ps (defScope st)) (hlen : ms.length = ps.length) (hM : ∀ i, i < ms.length → (i ∈ M ↔ ms[i]? = some true)) (hret : rf = false ∨ ∀ ds fr, g (startF N.length ds) ≠ .ok .nx fr)
    (hbody : ∀ (cdv : Value) (A : Around) (outer : List Env) (s : Shared) (H : Hp) (E : XK) (io : List (Nat × Addr)) (Hv : Hp), (∀ p ∈ io, ms[p.1]? = some true) → Room k (A.deeper (PyProof.Rows.envOfC qual (defScope st) s.heap.objs.size f cdv)) →
      DSs (cxOf (L2N.CX G.P G.w) G.P G.w G.K G.mg G.base N qual (defScope st) f cdv A outer s H E) ⟨G, M, io, H, Hv, none⟩ (fun cls d _ H => E cls d H) rf (defBody st) g) :
    FnOk G.P G.w G.K G.mg G.base (L2N.CX G.P G.w) (k + 1) f fd ps (spOf G ms rf (runFn ms.length N.length g)) := by
  have hNl : ms.length ≤ N.length := by
    have := congrArg List.length S.pre
    rw [List.length_take] at this
    omega
  refine okXN F S (fun vs H Q E h => ?_) (fun cdv A outer s H vs Q E hr h => ?_)
  · obtain ⟨ds, Hv, S', _⟩ := h
    rw [S'.lenv, hlen]
  · obtain ⟨ds, Hv, S', h⟩ := h
    refine ⟨_, hbody cdv A outer s H E (ioOf ms vs) Hv (fun p hp => ((mem_ioOf (a := p.2)).mp hp).1) hr, startF N.length ds, Hv, rel_start S' hNl hM, ?_⟩
    unfold runFn at h
    cases hg : g (startF N.length ds) with
    | bad => rw [hg] at h; exact h.elim
    | exc c fs fr =>
      rw [hg] at h
      exact fun dd σ' H' Hv' R _ ex => h dd H' Hv' (fin_of S'.lenv R.fin) ex
    | ok fl fr =>
      rw [hg] at h
      cases fl with
      | nx =>
        rcases hret with hrf | hrf
        · subst hrf
          refine fun σ' H' Hv' R _ => h .non H' Hv' (fin_of S'.lenv R.fin) ?_
          show if false = true then _ else Rep G Hv' .non .non
          rw [if_neg Bool.false_ne_true]
          exact repN
        · exact absurd hg (hrf ds fr)
      | brk => exact h.elim
      | cnt => exact h.elim
      | ret d => exact fun v H' Hv' f' ret => h v H' Hv' (fin_of S'.lenv f') ret
end
end KS
namespace KS
open PySem PySem.Spec L2
abbrev Tv := D → Fr → Option Fr
def setL (fr : Fr) : List Nat → List D → Fr
  | i :: is, d :: ds => setL (fr.set i (some d)) is ds
  | _, _ => fr
def tgN (i : Nat) : Tv := fun d fr => some (fr.set i (some d))
def tgT (is : List Nat) : Tv := fun d fr => match d with
  | .tup ds => if ds.length = is.length then some (setL fr is ds) else none
  | _ => none
def dTG (B : Bd) (is : List Nat) (t : Tv) : TG := fun v σ H Q => ∃ fr Hv d fr', Rel B fr σ H Hv ∧ Rep B.G Hv d v ∧ t d fr = some fr' ∧
  ∀ σ', Rel B fr' σ' H Hv → σ'.length = σ.length → (∀ j, j ∉ is → σ'[j]? = σ[j]?) → Q σ' H
/-- a target touches its own slots alone -/
def TgOk (t : Tv) (is : List Nat) : Prop := ∀ d fr fr', t d fr = some fr' → ∀ j, j ∉ is → fr'[j]? = fr[j]?
theorem setL_out : ∀ {is : List Nat} {ds : List D} {fr : Fr} {j : Nat}, j ∉ is → (setL fr is ds)[j]? = fr[j]?
  | [], _, _, _, _ => rfl
  | i :: is, [], _, _, _ => rfl
  | i :: is, d :: ds, fr, j, h => by
    rw [List.mem_cons, not_or] at h
    rw [setL, setL_out h.2, List.getElem?_set_ne (Ne.symm h.1)]
theorem tgN_ok {i : Nat} : TgOk (tgN i) [i] := fun d fr fr' e j hj => by
  cases e
  exact List.getElem?_set_ne fun z => hj (by rw [z]; exact List.mem_singleton.mpr rfl)
theorem tgT_ok {is : List Nat} : TgOk (tgT is) is := fun d fr fr' e j hj => by
  unfold tgT at e
  split at e
  · split at e
    · cases e
      exact setL_out hj
    · cases e
  · cases e
structure DG (X : Cx) (B : Bd) (tg : Expr) (is : List Nat) (t : Tv) : Prop where
  pg : PG X tg (dTG B is t)
  ok : TgOk t is
def dTGs (B : Bd) (is js : List Nat) : TGs := fun vs σ H Q => ∃ fr Hv ds, Rel B fr σ H Hv ∧ RepL B.G Hv ds vs ∧ ds.length = is.length ∧
  ∀ σ', Rel B (setL fr is ds) σ' H Hv → σ'.length = σ.length → (∀ j, j ∉ js → σ'[j]? = σ[j]?) → Q σ' H
def DGs (X : Cx) (B : Bd) (tgs : List Expr) (is js : List Nat) : Prop := PGs X tgs (dTGs B is js)
theorem pg_imp {X : Cx} {tg : Expr} {t t' : TG} (h : PG X tg t) (i : ∀ v σ H Q, t' v σ H Q → t v σ H Q) : PG X tg t' := ⟨fun pins s σ H v u Q I r hw => h.run pins s σ H v u Q I r (i v σ H Q hw)⟩
theorem pgs_imp {X : Cx} {tg : List Expr} {t t' : TGs} (h : PGs X tg t) (i : ∀ v σ H Q, t' v σ H Q → t v σ H Q) : PGs X tg t' := ⟨fun pins s σ H v u Q I r hw => h.run pins s σ H v u Q I r (i v σ H Q hw)⟩
section
variable {X : Cx} {B : Bd} {pos : Pos}
theorem g_name {i : Nat} {x : Str} (hi : i ∉ B.M) (nd : X.N.Nodup) (hN : X.N[i]? = some x := by rfl) (hx : Loc X.env.scope x := by first | exact Or.inl rfl | exact Or.inr rfl)
    (hf : X.fn x = true ∨ X.env.scope.names.lookup x = some .local := by first | exact .inl rfl | exact .inr rfl | assumption) : DG X B (.Name x pos) [i] (tgN i) := by
  refine ⟨?_, tgN_ok⟩
  refine pg_imp (pg_name nd hN hx hf) fun v σ H Q h => ?_
  obtain ⟨fr, Hv, d, fr', R, r, ht, k⟩ := h
  cases ht
  exact k _ (R.setV hi r) (by rw [List.length_set]) fun j hj => List.getElem?_set_ne (fun z => hj (by rw [z]; exact List.mem_singleton.mpr rfl))
theorem gs_nil : DGs X B [] [] [] := by
  refine pgs_imp pgs_nil fun vs σ H Q h => ?_
  obtain ⟨fr, Hv, ds, R, r, hl, k⟩ := h
  have e : ds = [] := List.eq_nil_of_length_eq_zero hl
  subst e
  exact ⟨r.nil_inv, k σ R rfl fun _ _ => rfl⟩
theorem gs_cons {i : Nat} {x : Str} {es : List Expr} {is js : List Nat} (hi : i ∉ B.M) (nd : X.N.Nodup) (ht : DGs X B es is js) (hN : X.N[i]? = some x := by rfl) (hx : Loc X.env.scope x := by first | exact Or.inl rfl | exact Or.inr rfl)
    (hf : X.fn x = true ∨ X.env.scope.names.lookup x = some .local := by first | exact .inl rfl | exact .inr rfl | assumption)
    (hs : (assignEach (.Name x pos :: es) X.env).map (·.2) = assign (.Name x pos) X.env :: (assignEach es X.env).map (·.2) := by rfl) : DGs X B (.Name x pos :: es) (i :: is) (i :: js) := by
  refine pgs_imp (pgs_cons (pg_name nd hN hx hf) ht hs) fun vs σ H Q h => ?_
  obtain ⟨fr, Hv, ds, R, r, hl, k⟩ := h
  cases ds with
  | nil => cases hl
  | cons d ds =>
    obtain ⟨v, t, rfl, h1, h2⟩ := r.cons_inv
    refine ⟨v, t, rfl, fr.set i (some d), Hv, ds, R.setV hi h1, h2, by simpa using hl, fun σ' R' hl' ho => k σ' R' (by rw [hl', List.length_set]) fun j hj => ?_⟩
    rw [List.mem_cons, not_or] at hj
    rw [ho j hj.2, List.getElem?_set_ne (Ne.symm hj.1)]
theorem g_tup {es : List Expr} {k : Nat} {is : List Nat} (hc : X.calm = true) (h : DGs X B es is is) (hK : X.K = B.G.K := by rfl) (hn : (assignEach es X.env).length = is.length := by rfl) (hst : (assignEach es X.env).findIdx? (·.1) = none := by rfl) : DG X B (.Tuple es k pos) is (tgT is) := by
  refine ⟨?_, tgT_ok⟩
  refine pg_imp (pg_tup hc h hn hst) fun v σ H Q hh => ?_
  obtain ⟨fr, Hv, d, fr', R, r, ht, k⟩ := hh
  unfold tgT at ht
  split at ht
  · split at ht
    · next hl =>
      cases ht
      obtain ⟨a, vs, rfl, q, rl⟩ := Rep.tup_inv r
      exact ⟨a, vs, rfl, by rw [hK]; exact R.sub.sqt q, by rw [rl.length]; exact hl, fr, Hv, _, R, rl, hl, k⟩
    · cases ht
  · cases ht
end
abbrev Iv := Fr → Res Fr (List D)
structure DWalk (B : Bd) (J : It) (ds : List D) (Hv1 : Hp) : Prop where
  ex : ∃ (S : Hp → Prop) (Y : Nat → Hp → V → Hp → Prop), Walk J ds.length S Y ∧ (∀ H' Hv', Sub Hv1 Hv' → Sub Hv' H' → S H') ∧
    (∀ i H' Hv' x H'', i < ds.length → Sub Hv1 Hv' → Sub Hv' H' → Y i H' x H'' → ∃ d, ds[i]? = some d ∧ ((H'' = H' ∧ Rep B.G Hv' d x) ∨ (∃ T es vs, d = .tup es ∧ x = .ref T ∧ H' T = none ∧ H'' = upd H' T (.tup vs) ∧ RepL B.G Hv' es vs)))
def PostI (B : Bd) (W : WX) (fr : Fr) (σ : L2.St) (H Hv : Hp) (r : Res Fr (List D)) (R : It → Hp → Prop) : Prop :=
  match r with
  | .ok ds fr1 => ∀ J H1 Hv1, Nxt B fr σ H Hv fr1 H1 Hv1 → DWalk B J ds Hv1 → R J H1
  | .exc c fs fr' => ∀ dd H' Hv', Nxt B fr σ H Hv fr' H' Hv' → ExcAt B.G H' Hv' c fs dd → W (.ref (B.G.ecls c)) (some dd) σ H'
  | .bad => False
def dTI (B : Bd) (W : WX) (h : Iv) : TI := fun σ H R => ∃ fr Hv, Rel B fr σ H Hv ∧ PostI B W fr σ H Hv (h fr) R
def DI (X : Cx) (B : Bd) (W : WX) (tg iter : Expr) (h : Iv) : Prop := PI X tg iter (dTI B W h)
theorem pi_imp {X : Cx} {tg iter : Expr} {t t' : TI} (h : PI X tg iter t) (i : ∀ σ H R, t' σ H R → t σ H R) : PI X tg iter t' := ⟨fun pins s σ H R I hw => h.run pins s σ H R I (i σ H R hw)⟩
/-- a list, a tuple, a text -/
def iSeq (K : PySem.W.Frag) (tl : TE) : TI := fun σ H R => tl σ H fun x H1 => (∃ a, x = .ref a ∧ (∃ xs, SqL K H1 a xs) ∧ R (Itl K a) H1) ∨ (∃ a, x = .ref a ∧ (∃ xs, SqT K H1 a xs) ∧ R (Itt K a) H1) ∨ (∃ z, x = .str z ∧ R (Its z) H1)
theorem pi_seq {X : Cx} {tg l : Expr} {tl : TE} (hl : PE X l tl) : PI X tg l (iSeq X.K tl) := by
  refine ⟨fun pins s σ H R I h => ?_⟩
  refine thn (hl.run pins s σ H _ I h) fun v s1 ⟨x, H1, I1, r1, q1⟩ => ?_
  rcases q1 with ⟨a, e, ⟨xs, hq⟩, q⟩ | ⟨a, e, ⟨xs, hq⟩, q⟩ | ⟨z, e, q⟩
  · subst e
    cases r1
    obtain ⟨its, rv, p, hz⟩ := I1.list hq
    refine wpAny_pyIter_list p.isList ?_
    refine ⟨s1.heap.objs.size, [s1.heap.objs.size], _, _, H1, rfl, I1.kept (t' := s1.toks) fun b o e => Heap.get?_push_of_some _ e, turn_list a _, ⟨_, Heap.get?_push_size _ rfl, rfl, rfl⟩, fun b hb => ?_, q⟩
    have e : b = s1.heap.objs.size := by simpa using hb
    subst e
    exact I1.fpOk (Nat.le_refl _) (I1.hok.fresh (Nat.le_refl _))
  · subst e
    cases r1
    obtain ⟨its, rv, p, hz⟩ := I1.tuple hq
    refine wpAny_pyIter_tuple (show s1.heap.IsTuple a its.toArray from p) ?_
    refine ⟨s1.heap.objs.size, [s1.heap.objs.size], _, _, H1, rfl, I1.kept (t' := s1.toks) fun b o e => Heap.get?_push_of_some _ e, turn_tuple a _, ⟨_, Heap.get?_push_size _ rfl, rfl, rfl⟩, fun b hb => ?_, q⟩
    have e : b = s1.heap.objs.size := by simpa using hb
    subst e
    exact I1.fpOk (Nat.le_refl _) (I1.hok.fresh (Nat.le_refl _))
  · subst e
    obtain ⟨t, rfl⟩ := r1
    cases ha : z.cps.all (· < 128)
    · exact wpAny_pyIter_wide ha (pi_one (tk := s1.toks) I1 _ (turn_str _ z t "str_iterator" (.inr rfl)) ⟨_, Heap.get?_push_size _ rfl, rfl, rfl⟩ q)
    · exact wpAny_pyIter_ascii ha (pi_one (tk := s1.toks) I1 _ (turn_str _ z t "str_ascii_iterator" (.inl rfl)) ⟨_, Heap.get?_push_size _ rfl, rfl, rfl⟩ q)
def chars (z : Str) : List D := z.cps.toList.map fun c => .str ⟨#[c]⟩
def seqD : D → Option (List D)
  | .lst ds => some ds
  | .tup ds => some ds
  | .scr ns => some (ns.map D.int)
  | .str z => some (chars z)
  | _ => none
def iVal (f : Ev) : Iv := fun fr => (f fr).bind fun d fr1 => if pers d = true then (match seqD d with
  | some ds => .ok ds fr1
  | none => .bad) else .bad
section
variable {B : Bd} {Hv1 : Hp} {ds es : List D}
theorem repl_at (s : RepL B.G Hv1 ds vs) {i : Nat} (hi : i < ds.length) {x : V} (e : vs[i]? = some x) {Hv' : Hp} (h : Sub Hv1 Hv') : ∃ d, ds[i]? = some d ∧ Rep B.G Hv' d x := by
  obtain ⟨d, h1, h2⟩ := s.getV e
  exact ⟨d, h1, Rep.mono h _ _ h2⟩
theorem dwalk_list {a : Addr} {vs : List V} (q : Hv1 a = some (.lst vs)) (r : RepL B.G Hv1 ds vs) : DWalk B (Itl B.G.K a) ds Hv1 := by
  refine ⟨_, _, by rw [← r.length]; exact walk_list, fun H' Hv' s1 s2 => SqL.of (s2 _ _ (s1 _ _ q)), fun i H' Hv' x H'' hi s1 s2 y => ?_⟩
  obtain ⟨e, y⟩ := y
  obtain ⟨d, h1, h2⟩ := repl_at r hi y s1
  exact ⟨d, h1, .inl ⟨e, h2⟩⟩
theorem dwalk_tup {a : Addr} {vs : List V} (q : SqT B.G.K Hv1 a vs) (r : RepL B.G Hv1 ds vs) : DWalk B (Itt B.G.K a) ds Hv1 := by
  refine ⟨_, _, by rw [← r.length]; exact walk_tup, fun H' Hv' s1 s2 => s2.sqt (s1.sqt q), fun i H' Hv' x H'' hi s1 s2 y => ?_⟩
  obtain ⟨e, y⟩ := y
  obtain ⟨d, h1, h2⟩ := repl_at r hi y s1
  exact ⟨d, h1, .inl ⟨e, h2⟩⟩
theorem dwalk_scr {a : Addr} {ns : List Int} (q : SqL B.G.K Hv1 a (ns.map V.int)) : DWalk B (Itl B.G.K a) (ns.map D.int) Hv1 := by
  have w := walk_list (K := B.G.K) (a := a) (xs := ns.map V.int)
  rw [List.length_map] at w
  refine ⟨_, _, by rw [List.length_map]; exact w, fun H' Hv' s1 s2 => s2.sql (s1.sql q), fun i H' Hv' x H'' hi s1 s2 y => ?_⟩
  obtain ⟨e, y⟩ := y
  rw [List.getElem?_map] at y
  cases hn : ns[i]? with
  | none => rw [hn] at y; cases y
  | some n =>
    rw [hn] at y
    cases y
    exact ⟨.int n, by rw [List.getElem?_map, hn]; rfl, .inl ⟨e, Rep.int_iff.mpr rfl⟩⟩
theorem dwalk_str {z : Str} : DWalk B (Its z) (chars z) Hv1 := by
  refine ⟨_, _, by rw [show (chars z).length = z.cps.size by simp [chars]]; exact walk_str, fun _ _ _ _ => trivial, fun i H' Hv' x H'' hi s1 s2 y => ?_⟩
  obtain ⟨e, c, hc, rfl⟩ := y
  refine ⟨.str ⟨#[c]⟩, ?_, .inl ⟨e, Rep.str_iff.mpr rfl⟩⟩
  unfold chars
  rw [List.getElem?_map, Array.getElem?_toList, hc]
  rfl
end
section
variable {X : Cx} {B : Bd} {W : WX} {tg a b : Expr} {f g : Ev} {p pos : Pos}
theorem i_val (ha : DE X B W a f) (hK : X.K = B.G.K := by rfl) : DI X B W tg a (iVal f) := by
  refine pi_imp (pi_seq ha) fun σ H R h => ?_
  obtain ⟨fr, Hv, Rl, h⟩ := h
  refine ⟨fr, Hv, Rl, ?_⟩
  unfold iVal at h
  cases hf : f fr with
  | bad => rw [hf] at h; exact h.elim
  | exc c fs fr1 => rw [hf] at h; exact h
  | ok d fr1 =>
    rw [hf] at h
    dsimp only [Res.bind] at h
    intro v H1 Hv1 n rw1
    split at h
    · next hp =>
      have r := rw1.rep fun i z => by rw [z] at hp; cases hp
      cases d with
      | lst ds =>
        obtain ⟨x, vs, rfl, q, rl⟩ := Rep.lst_inv r
        exact .inl ⟨x, rfl, ⟨vs, SqL.of (n.rel.sub _ _ q)⟩, by rw [hK]; exact h _ H1 Hv1 n (dwalk_list q rl)⟩
      | tup ds =>
        obtain ⟨x, vs, rfl, q, rl⟩ := Rep.tup_inv r
        exact .inr (.inl ⟨x, rfl, ⟨vs, by rw [hK]; exact n.rel.sub.sqt q⟩, by rw [hK]; exact h _ H1 Hv1 n (dwalk_tup q rl)⟩)
      | scr ns =>
        obtain ⟨x, rfl, q⟩ := Rep.scr_inv r
        exact .inl ⟨x, rfl, ⟨_, by rw [hK]; exact n.rel.sub.sql q⟩, by rw [hK]; exact h _ H1 Hv1 n (dwalk_scr q)⟩
      | str z =>
        rw [Rep.str_iff.mp r]
        exact .inr (.inr ⟨z, rfl, h _ H1 Hv1 n dwalk_str⟩)
      | _ => exact h.elim
    · exact h.elim
end
end KS
namespace KS
open PySem PySem.Spec L2 PyProof.Rows
set_option maxHeartbeats 1000000 in
theorem meets_enumerate_new1 {v : Value} {o : Obj} {H : Heap → Prop} (B : Begins v o H) :
    Meets (Builtin.«enumerate.__new__» ⟨[.type "enumerate", v], []⟩) (fun _ R s => H s.heap ∧
      R (.ok (.ret (.ref (s.heap.push o).objs.size))) { s with heap := (s.heap.push o).push { cls := .type "enumerate", data := .fields #[.none, .bool false, .ref s.heap.objs.size, rawInt 0, .none, .none] } }) :=
  .of_wp fun prog w A R s h => by
    obtain ⟨hp, g, d, tk, os⟩ := s; obtain ⟨h1, h⟩ := h
    have hsub := sub_enumerate
    have q1 : ∀ {A' : Around} {E : Value → Shared → Prop} {Q : Value → Shared → Prop}, Q (.ref hp.objs.size) ⟨hp.push o, g, d, tk, os⟩ → wpAny (model prog w) A' (pyIter v) Q E ⟨hp, g, d, tk, os⟩ :=
      fun q => B.iter prog w _ _ ⟨hp, g, d, tk, os⟩ _ h1 q
    wp_walk using q1
    refine wpAny_stack_any fun st => wpAny_pure ?_
    split
    · rename_i c _ _ _ _ _
      cases (c == Value.type "enumerate")
      · wp_walk using q1
        exact ⟨_, rfl, h⟩
      · wp_walk using q1
        exact ⟨_, rfl, h⟩
    · wp_walk using q1
      exact ⟨_, rfl, h⟩
theorem enum_begins1 {prog : Program} {w : World} {A : Around} {E : Value → Shared → Prop} {s : Shared} {v : Value} {o : Obj} {H : Heap → Prop} {Q : Value → Shared → Prop} (B : Begins v o H) (h1 : H s.heap)
    (h : ∀ h', IsEnum h' (s.heap.objs.size + 1) s.heap.objs.size 0 .none → h'.get? s.heap.objs.size = some o → h'.objs.size = s.heap.objs.size + 2 →
      (∀ b o, s.heap.get? b = some o → h'.get? b = some o) → Q (.ref (s.heap.objs.size + 1)) { s with heap := h' }) :
    wpAny (model prog w) A (call (.type "enumerate") [v]) Q E s := by
  refine callType_new F.called_enumerate (by decide) (F.typeCall_enumerate_1 _) (F.newCall_enumerate_1 _) (fun obj => F.args_object_init_2 obj _) F.entry_enumerate_new
    (meets_enumerate_new1 B) ⟨h1, ?_⟩
  have hz : (s.heap.push o).objs.size = s.heap.objs.size + 1 := Heap.size_push ..
  show _ ∧ _
  rw [hz]
  have he : IsEnum ((s.heap.push o).push { cls := .type "enumerate", data := .fields #[.none, .bool false, .ref s.heap.objs.size, rawInt 0, .none, .none] }) (s.heap.objs.size + 1) s.heap.objs.size 0 .none := by
    have := Heap.get?_push_size (s.heap.push o) (o := { cls := .type "enumerate", data := .fields #[.none, .bool false, .ref s.heap.objs.size, rawInt 0, .none, .none] }) rfl
    rw [hz] at this; exact this
  refine ⟨⟨_, he, rfl⟩, h _ he (Heap.get?_push_of_some _ (Heap.get?_push_size _ B.free)) (by rw [Heap.size_push, hz]) fun b o x => Heap.get?_push_of_some _ (Heap.get?_push_of_some _ x)⟩
/-- the tuple at a, each item in a new pair -/
def IteT (K : PySem.W.Frag) (a : Addr) : It :=
  ⟨fun i H => ∃ (xs : List V) (x : V), SqT K H a xs ∧ xs[i]? = some x, fun i H v H' => ∃ T x, v = .ref T ∧ H T = none ∧ H' = upd H T (.tup [.int (i : Nat), x]) ∧ ∀ xs, SqT K H a xs → xs[i]? = some x, fun i H => ∃ xs : List V, SqT K H a xs ∧ xs.length ≤ i⟩
theorem walk_enumT {K : PySem.W.Frag} {a : Addr} {xs : List V} : Walk (IteT K a) xs.length (fun H => SqT K H a xs) (YPair (fun i => some (.int (i : Nat))) (fun i => xs[i]?)) := by
  refine ⟨fun i _ hi q => ⟨xs, xs[i], q, by simp [hi]⟩, fun _ q => ⟨xs, q, Nat.le_refl _⟩, fun i H v H' _ q y => ?_⟩
  obtain ⟨T, x, h1, h2, h3, h4⟩ := y
  exact ⟨T, .int (i : Nat), x, h1, h2, h3, rfl, h4 xs q⟩
theorem turn_enumT {P : Program} {w : World} {K : PySem.W.Frag} {elts : List Expr} {kk : Nat} {tpos : Pos} (a e it : Addr) :
    Turn P w K (.Tuple elts kk tpos) (IteT K a) [e, it] e (fun i h => (∃ old, IsEnum h e it ((i : Nat) : Int) old) ∧ h.IsTupleIter it a i ∧ e ≠ it ∧ a ≠ it ∧ e ≠ a) where
  mem := by simp
  obj := fun i h st b hb => by
    obtain ⟨⟨old, he⟩, ⟨o, ho, hc, hd⟩, _⟩ := st
    have e' : b = e ∨ b = it := by simpa using hb
    rcases e' with z | z
    · rw [z]; exact ⟨_, he, fun v q => nomatch q⟩
    · rw [z]; exact ⟨o, ho, fun v q => by rw [hd] at q; cases q⟩
  keep := fun i h h' st k => let ⟨⟨old, he⟩, hi, hne⟩ := st; ⟨⟨old, k e (by simp) _ he⟩, hi.at fun o q => k it (by simp) o q, hne⟩
  item := by
    intro X hP hw hK hc i pins s σ H E I hf st hg
    subst hP hw hK
    obtain ⟨⟨old, he⟩, hit, hne, hat, hea⟩ := st
    obtain ⟨xs, x, hq, hx⟩ := hg
    obtain ⟨its, rv, p, hz⟩ := I.tuple hq
    obtain ⟨u, hu, ru⟩ := rv.get hx
    have hel : e < s.heap.objs.size := Heap.lt_size he
    have hil : it < s.heap.objs.size := by obtain ⟨_, q, _⟩ := hit; exact Heap.lt_size q
    have hlen := rv.length
    have hi : i < its.toArray.size := by
      have := (List.getElem?_eq_some_iff.mp hu).1
      simpa using this
    refine wpAny_pyNext_enum_itemD (Draws.tuple (show X.A.in1.handled = none from (I.ok.hd hc)) it a hat its.toArray) he ⟨hit, show s.heap.IsTuple a its.toArray from p⟩ hi hne (by simp [hne, hea]) fun y h' tk hPy ho hit' hT hsz hk => ?_
    have ey : y = u := by
      have : its.toArray[i]? = some y := hPy
      rw [show its.toArray[i]? = its[i]? by simp, hu] at this
      exact (Option.some.inj this).symm
    subst ey
    refine ⟨_, rfl, wpAny_letOwnedTupleGo_enum (s := { s with heap := h', toks := tk + 1 }) ho fun h'' he' sb => ?_⟩
    have hT2 : h''.get? s.heap.objs.size = some { cls := .type "tuple", data := .seq #[.int i tk, y] } := (sb.2 _ (Nat.ne_of_gt hel)).trans hT
    have new : ObjOk X.prog X.w (upd H s.heap.objs.size (.tup [.int (i : Nat), x])) h'' s.heap.objs.size (.tup [.int (i : Nat), x]) :=
      ⟨by show 2 ≤ sizeLine; decide, [.int i tk, y], .cons ⟨_, rfl⟩ (.cons ru .nil), ⟨_, hT2, rfl, _, rfl⟩⟩
    have I1 : Inv X pins σ (upd H s.heap.objs.size (.tup [.int (i : Nat), x])) { s with heap := h'', toks := tk + 1 } :=
      I.turnedNew (ch := [e, it]) (fun b ob hb q => (sb.2 b (fun z => hb (by simp [z]))).trans (hk b ob (fun z => hb (by simp [z])) (fun z => hb (by simp [z])) q)) hf (Nat.le_refl _) new
    refine ⟨.ref s.heap.objs.size, _, I1, rfl, ⟨_, x, rfl, I.hok.fresh (Nat.le_refl _), rfl, fun ys hy => by rw [I.tuple_inj hy hq]; exact hx⟩, ⟨⟨y, ?_⟩, hit'.1.at fun o q => (sb.2 it (Ne.symm hne)).trans q, hne, hat, hea⟩, fun b hb => ?_⟩
    · have e1 : ((i + 1 : Nat) : Int) = (i : Int) + 1 := by omega
      rw [e1]; exact he'
    · have hb' : b < s.heap.objs.size := by
        have e' : b = e ∨ b = it := by simpa using hb
        rcases e' with z | z
        · rw [z]; exact hel
        · rw [z]; exact hil
      rw [upd_ne (Nat.ne_of_lt hb')]
      exact (hf b hb).1
  done := by
    intro X hP hw hK hc i pins s σ H E I hf st hg
    subst hP hw hK
    obtain ⟨⟨old, he⟩, hit, hne, hat, hea⟩ := st
    obtain ⟨xs, hq, hx⟩ := hg
    obtain ⟨its, rv, p, hz⟩ := I.tuple hq
    obtain ⟨f0, f1, f2, f3, f4, f5⟩ := hf it (by simp)
    have hl := rv.length
    have hT : s.TypeIs (.ref e) "enumerate" := ⟨_, he, rfl⟩
    unfold pyNext
    refine wpAny_bind (wpAny_attempt (wpAny_callSpecial?_slot (name := Str.ofString "__next__") hT F.slot_enumerate_next
      (wpAny_call_entry F.slot_enumerate_next hT F.entry_enumerate_next ?_ (F.args_enumerate_next_1 _))))
    show wpAny _ _ (field (.ref e) 2 >>= _) _ _ _
    refine wpAny_bind (wpAny_field he rfl (x := .ref it) rfl ?_)
    refine wpAny_bind (wpAny_nextOf_tuple_end (show X.A.in1.handled = none from I.ok.hd hc) hit (show s.heap.IsTuple a its.toArray from p) (by simp; omega) fun h' x he' hx' => ?_)
    obtain ⟨o, ho, hc'⟩ := hx'
    refine wpAny_bind (wpAny_isInstance (T := "StopIteration") (b := true) ⟨o, ho, hc'⟩ isSubtype_stop ?_)
    exact wpAny_pure ⟨rfl, I.turned (t' := s.toks) (fun b o hb q => he' b o hb q) f0 f1 f3 f4 f5⟩
  self := fun A i s Q E st h => let ⟨⟨_, he⟩, _⟩ := st; wpAny_pyIter_enum he h
def iEnumA (K : PySem.W.Frag) (ta : TA) : TI := fun σ H R => ta σ H fun vs H1 => ∃ a xs, vs = [.ref a] ∧ ((SqL K H1 a xs ∧ R (Ite K a) H1) ∨ (SqT K H1 a xs ∧ R (IteT K a) H1))
theorem pi_enumA {X : Cx} {e : Expr} {ta : TA} {p pos tpos : Pos} {elts : List Expr} {kk : Nat} (hg : Gl X "enumerate") (hm : X.mg "enumerate" = none) (ha : PA X [e] ta) (hs : starEach [e] X.env = [(false, eval e X.env)] := by rfl) :
    PI X (.Tuple elts kk tpos) (.Call (.Name "enumerate" p) [e] [] pos) (iEnumA X.K ta) := by
  refine ⟨fun pins s σ H R I h => ?_⟩
  refine Call_ (ld_blt I hg hm boot_enumerate (PyProof.Rows.callWith_type1 (thn (ha.run pos pins s σ H _ I h) fun us s1 ⟨vs, H1, I1, r1, q1⟩ => ?_) hs rfl))
  obtain ⟨a, xs, ex, q1⟩ := q1
  subst ex
  cases r1 with
  | cons r rr =>
    cases rr
    cases r
    have fp : ∀ b ∈ [s1.heap.objs.size + 1, s1.heap.objs.size], FpOk X pins H1 b := fun b hb => by
      have e' : b = s1.heap.objs.size + 1 ∨ b = s1.heap.objs.size := by simpa using hb
      have hle : s1.heap.objs.size ≤ b := by
        rcases e' with z | z
        · rw [z]; exact Nat.le_add_right _ _
        · rw [z]; exact Nat.le_refl _
      exact I1.fpOk hle (I1.hok.fresh hle)
    rcases q1 with ⟨hq, q⟩ | ⟨hq, q⟩
    · obtain ⟨its, rv, p', hz⟩ := I1.list hq
      refine call_enumerate_list p'.isList fun h' he hit hsz hk => wpAny_pyIter_enum he ?_
      have I2 : Inv X pins σ H1 { s1 with heap := h' } := I1.kept (t' := s1.toks) hk
      exact ⟨s1.heap.objs.size + 1, [s1.heap.objs.size + 1, s1.heap.objs.size], _, _, H1, rfl, I2, turn_enum a (s1.heap.objs.size + 1) s1.heap.objs.size, ⟨⟨.none, he⟩, hit, Nat.succ_ne_self _⟩, fp, q⟩
    · obtain ⟨its, rv, p', hz⟩ := I1.tuple hq
      have pt : s1.heap.IsTuple a its.toArray := p'
      have al : a < s1.heap.objs.size := by obtain ⟨_, z, _⟩ := pt; exact Heap.lt_size z
      refine enum_begins1 (begins_tuple a its.toArray) pt fun h' he hit hsz hk => wpAny_pyIter_enum he ?_
      have I2 : Inv X pins σ H1 { s1 with heap := h' } := I1.kept (t' := s1.toks) hk
      exact ⟨s1.heap.objs.size + 1, [s1.heap.objs.size + 1, s1.heap.objs.size], _, _, H1, rfl, I2, turn_enumT a (s1.heap.objs.size + 1) s1.heap.objs.size, ⟨⟨.none, he⟩, ⟨_, hit, rfl, rfl⟩, Nat.succ_ne_self _, Nat.ne_of_lt al, Nat.ne_of_gt (Nat.lt_succ_of_lt al)⟩, fp, q⟩
end KS
namespace KS
open PySem PySem.Spec L2
def okI (j : Int) : Bool := decide (-(2 ^ 62) ≤ j ∧ j < 2 ^ 62)
def rangeD (i : Int) (n : Nat) : List D := (List.range n).map fun k => .int (i + (k : Nat))
def iRg1 (f : Ev) : Iv := fun fr => (f fr).bind fun d fr1 => match look fr1 d with
  | some (.int j) => if okI j = true then .ok (rangeD 0 j.toNat) fr1 else .bad
  | _ => .bad
def iotaD (ds : List D) : List D := ds.zipIdx.map fun p => .tup [.int (p.2 : Nat), p.1]
def iEn (f : Ev) : Iv := fun fr => (f fr).bind fun d fr1 => if pers d = true then (match d with
  | .lst ds => .ok (iotaD ds) fr1
  | .tup ds => .ok (iotaD ds) fr1
  | _ => .bad) else .bad
def zipD (xs ys : List D) : List D := (xs.zip ys).map fun p => .tup [p.1, p.2]
def iZp (f g : Ev) : Iv := fun fr => (f fr).bind fun d fr1 => if pers d = true then ((g fr1).bind fun e fr2 => if pers e = true then (match d, e with
  | .lst xs, .lst ys => .ok (zipD xs ys) fr2
  | .tup xs, .tup ys => .ok (zipD xs ys) fr2
  | _, _ => .bad) else .bad) else .bad
section
variable {B : Bd} {Hv1 : Hp}
theorem dwalk_range {lo : Int} {n : Nat} : DWalk B (Itr lo n) (rangeD lo n) Hv1 := by
  refine ⟨_, _, by rw [show (rangeD lo n).length = n by simp [rangeD]]; exact walk_range, fun _ _ _ _ => trivial, fun i H' Hv' x H'' hi s1 s2 y => ?_⟩
  obtain ⟨e, rfl⟩ := y
  have hi' : i < n := by simpa [rangeD] using hi
  refine ⟨.int (lo + i), ?_, .inl ⟨e, Rep.int_iff.mpr rfl⟩⟩
  unfold rangeD
  rw [List.getElem?_map, List.getElem?_range hi']
  rfl
theorem iota_len {ds : List D} : (iotaD ds).length = ds.length := by simp [iotaD]
theorem iota_get {ds : List D} {i : Nat} {d : D} (h : ds[i]? = some d) : (iotaD ds)[i]? = some (.tup [.int (i : Nat), d]) := by
  unfold iotaD
  rw [List.getElem?_map, List.getElem?_zipIdx, h]
  simp
theorem dwalk_enum {a : Addr} {ds : List D} {vs : List V} {J : It} {S : Hp → Prop} (w : Walk J vs.length S (YPair (fun i => some (.int (i : Nat))) (fun i => vs[i]?))) (hS : ∀ H' Hv', Sub Hv1 Hv' → Sub Hv' H' → S H') (r : RepL B.G Hv1 ds vs) : DWalk B J (iotaD ds) Hv1 := by
  refine ⟨S, _, by rw [iota_len, ← r.length]; exact w, hS, fun i H' Hv' x H'' hi s1 s2 y => ?_⟩
  obtain ⟨T, u, v, rfl, hT, rfl, e1, e2⟩ := y
  have e1 : some (V.int ((i : Nat) : Int)) = some u := e1
  cases e1
  obtain ⟨d, h1, h2⟩ := r.getV e2
  exact ⟨_, iota_get h1, .inr ⟨T, _, _, rfl, rfl, hT, rfl, .cons (Rep.int_iff.mpr rfl) (.cons (Rep.mono s1 _ _ h2) .nil)⟩⟩
theorem zip_len {xs ys : List D} : (zipD xs ys).length = min xs.length ys.length := by simp [zipD]
theorem zip_get {xs ys : List D} {i : Nat} {d e : D} (h : xs[i]? = some d) (k : ys[i]? = some e) : (zipD xs ys)[i]? = some (.tup [d, e]) := by
  unfold zipD
  have z : (xs.zip ys)[i]? = some (d, e) := List.getElem?_zip_eq_some.mpr ⟨h, k⟩
  rw [List.getElem?_map, z]
  rfl
theorem dwalk_zip {xs ys : List D} {vs us : List V} {J : It} {S : Hp → Prop} (w : Walk J (min vs.length us.length) S (YPair (fun i => vs[i]?) (fun i => us[i]?))) (hS : ∀ H' Hv', Sub Hv1 Hv' → Sub Hv' H' → S H') (r : RepL B.G Hv1 xs vs) (q : RepL B.G Hv1 ys us) : DWalk B J (zipD xs ys) Hv1 := by
  refine ⟨S, _, by rw [zip_len, ← r.length, ← q.length]; exact w, hS, fun i H' Hv' x H'' hi s1 s2 y => ?_⟩
  obtain ⟨T, u, v, rfl, hT, rfl, e1, e2⟩ := y
  obtain ⟨d, h1, h2⟩ := r.getV e1
  obtain ⟨e, h3, h4⟩ := q.getV e2
  exact ⟨_, zip_get h1 h3, .inr ⟨T, _, _, rfl, rfl, hT, rfl, .cons (Rep.mono s1 _ _ h2) (.cons (Rep.mono s1 _ _ h4) .nil)⟩⟩
end
theorem okI_spec {j : Int} (h : okI j = true) : -(2 ^ 62) ≤ j ∧ j < 2 ^ 62 := by simpa [okI] using h
section
variable {X : Cx} {B : Bd} {W : WX} {tg a b : Expr} {f g : Ev} {p pos : Pos}
theorem i_range1 (ha : DE X B W a f) (hm : X.mg "range" = none) (hg : Gl X "range" := by rfl) (he : starEach [a] X.env = (false, eval a X.env) :: starEach [] X.env := by rfl) (hs : starEach [a] X.env = [(false, eval a X.env)] := by rfl) : DI X B W tg (.Call (.Name "range" p) [a] [] pos) (iRg1 f) := by
  refine pi_imp (pi_range1 hg hm (pa_cons ha pa_nil he) hs) fun σ H R h => ?_
  obtain ⟨fr, Hv, Rl, h⟩ := h
  refine ⟨fr, Hv, Rl, ?_⟩
  unfold iRg1 at h
  cases hf : f fr with
  | bad => rw [hf] at h; exact h.elim
  | exc c fs fr1 => rw [hf] at h; exact h
  | ok d fr1 =>
    rw [hf] at h
    dsimp only [Res.bind] at h
    intro v H1 Hv1 n rw1
    split at h
    · next j hl =>
      split at h
      · next c =>
        obtain ⟨c1, c2⟩ := okI_spec c
        rw [n.rel.int_of rw1 hl]
        exact ⟨j, rfl, c1, c2, h _ H1 Hv1 n dwalk_range⟩
      · exact h.elim
    · exact h.elim
theorem i_enum {elts : List Expr} {kk : Nat} {tpos : Pos} (ha : DE X B W a f) (hm : X.mg "enumerate" = none) (hK : X.K = B.G.K := by rfl) (hg : Gl X "enumerate" := by rfl) (he : starEach [a] X.env = (false, eval a X.env) :: starEach [] X.env := by rfl) (hs : starEach [a] X.env = [(false, eval a X.env)] := by rfl) :
    DI X B W (.Tuple elts kk tpos) (.Call (.Name "enumerate" p) [a] [] pos) (iEn f) := by
  refine pi_imp (pi_enumA hg hm (pa_cons ha pa_nil he) hs) fun σ H R h => ?_
  obtain ⟨fr, Hv, Rl, h⟩ := h
  refine ⟨fr, Hv, Rl, ?_⟩
  unfold iEn at h
  cases hf : f fr with
  | bad => rw [hf] at h; exact h.elim
  | exc c fs fr1 => rw [hf] at h; exact h
  | ok d fr1 =>
    rw [hf] at h
    dsimp only [Res.bind] at h
    intro v H1 Hv1 n rw1
    split at h
    · next hp =>
      have r := rw1.rep fun i z => by rw [z] at hp; cases hp
      cases d with
      | lst ds =>
        obtain ⟨x, vs, rfl, q, rl⟩ := Rep.lst_inv r
        exact ⟨x, vs, rfl, .inl ⟨SqL.of (n.rel.sub _ _ q), by rw [hK]; exact h _ H1 Hv1 n (dwalk_enum (a := x) walk_enum (fun H' Hv' s1 s2 => SqL.of (s2 _ _ (s1 _ _ q))) rl)⟩⟩
      | tup ds =>
        obtain ⟨x, vs, rfl, q, rl⟩ := Rep.tup_inv r
        exact ⟨x, vs, rfl, .inr ⟨by rw [hK]; exact n.rel.sub.sqt q, by rw [hK]; exact h _ H1 Hv1 n (dwalk_enum (a := x) walk_enumT (fun H' Hv' s1 s2 => s2.sqt (s1.sqt q)) rl)⟩⟩
      | _ => exact h.elim
    · exact h.elim
theorem walk_zipT {K : PySem.W.Frag} {a b : Addr} {xs ys : List V} {n : Nat} (hn : n = min xs.length ys.length) : Walk (RZ.ItzT K a b) n (fun H => SqT K H a xs ∧ SqT K H b ys) (YPair (fun i => xs[i]?) (fun i => ys[i]?)) := by
  subst hn
  refine ⟨fun i _ hi q => ?_, fun _ q => ⟨xs, ys, q.1, q.2, by omega⟩, fun i H v H' _ q y => ?_⟩
  · have h1 : i < xs.length := by omega
    have h2 : i < ys.length := by omega
    exact ⟨xs, ys, xs[i], ys[i], q.1, q.2, by simp [h1], by simp [h2]⟩
  · obtain ⟨T, x, z, h1, h2, h3, h4, h5⟩ := y
    exact ⟨T, x, z, h1, h2, h3, h4 xs q.1, h5 ys q.2⟩
theorem i_zip {elts : List Expr} {kk : Nat} {tpos : Pos} (ha : DE X B W a f) (hb : DE X B W b g) (hm : X.mg "zip" = none) (hK : X.K = B.G.K := by rfl) (hg : Gl X "zip" := by rfl) (he2 : starEach [b] X.env = (false, eval b X.env) :: starEach [] X.env := by rfl) (he : starEach [a, b] X.env = (false, eval a X.env) :: starEach [b] X.env := by rfl)
    (hpl : (backTo pos (starEach [b] X.env)).any (·.1) = false := by rfl) : DI X B W (.Tuple elts kk tpos) (.Call (.Name "zip" p) [a, b] [] pos) (iZp f g) := by
  refine pi_imp (RZ.pi_zipA hg hm (pa_cons ha (pa_cons hb pa_nil he2) he) he hpl) fun σ H R h => ?_
  obtain ⟨fr, Hv, Rl, h⟩ := h
  refine ⟨fr, Hv, Rl, ?_⟩
  unfold iZp at h
  cases hf : f fr with
  | bad => rw [hf] at h; exact h.elim
  | exc c fs fr1 => rw [hf] at h; exact h
  | ok d fr1 =>
    rw [hf] at h
    dsimp only [Res.bind] at h
    intro v H1 Hv1 n rw1
    refine ⟨fr1, Hv1, n.rel, ?_⟩
    split at h
    · next hp =>
      cases hf2 : g fr1 with
      | bad => rw [hf2] at h; exact h.elim
      | exc c fs fr2 =>
        rw [hf2] at h
        exact fun dd H' Hv' m => h dd H' Hv' (n.trans m)
      | ok e fr2 =>
        rw [hf2] at h
        dsimp only [Res.bind] at h
        intro v2 H2 Hv2 n2 rw2
        split at h
        · next hp2 =>
          have r := (rw1.mono n2.ext).rep fun i z => by rw [z] at hp; cases hp
          have r2 := rw2.rep fun i z => by rw [z] at hp2; cases hp2
          split at h
          · next xs ys =>
            obtain ⟨x, vs, rfl, q, rl⟩ := Rep.lst_inv r
            obtain ⟨y, us, rfl, q2, rl2⟩ := Rep.lst_inv r2
            exact ⟨x, y, vs, us, rfl, .inl ⟨SqL.of (n2.rel.sub _ _ q), SqL.of (n2.rel.sub _ _ q2), by rw [hK]; exact h _ H2 Hv2 (n.trans n2) (dwalk_zip (walk_zip rfl) (fun H' Hv' s1 s2 => ⟨SqL.of (s2 _ _ (s1 _ _ q)), SqL.of (s2 _ _ (s1 _ _ q2))⟩) rl rl2)⟩⟩
          · next xs ys =>
            obtain ⟨x, vs, rfl, q, qv, rl⟩ := n2.rel.tup_of (fr := fr2) (d := .tup xs) (.of r) rfl
            obtain ⟨y, us, rfl, q2, qv2, rl2⟩ := n2.rel.tup_of (fr := fr2) (d := .tup ys) (.of r2) rfl
            exact ⟨x, y, vs, us, rfl, .inr ⟨by rw [hK]; exact q, by rw [hK]; exact q2, by rw [hK]; exact h _ H2 Hv2 (n.trans n2) (dwalk_zip (walk_zipT rfl) (fun H' Hv' s1 s2 => ⟨s2.sqt (s1.sqt (.inl (.inl qv))), s2.sqt (s1.sqt (.inl (.inl qv2)))⟩) rl rl2)⟩⟩
          · exact h.elim
        · exact h.elim
    · exact (h : False).elim
end
def loopF (t : Tv) (g : Sv) : List D → Sv
  | [], fr => .ok .nx fr
  | d :: ds, fr => match t d fr with
    | none => .bad
    | some fr1 => (g fr1).bind fun fl fr2 => match fl with
      | .nx => loopF t g ds fr2
      | .cnt => loopF t g ds fr2
      | .brk => .ok .nx fr2
      | .ret d => .ok (.ret d) fr2
def sFor (h : Iv) (t : Tv) (g : Sv) : Sv := fun fr => (h fr).bind fun ds fr1 => loopF t g ds fr1
section
variable {X : Cx} {B : Bd} {W : WX} {rf : Bool} {tg iter : Expr} {body : List Stmt} {is : List Nat} {t : Tv} {h : Iv} {g : Sv} {pos : Pos}
theorem s_for (hp : PassesOwn (model X.prog X.w) X.A X.env X.xe) (hc : X.calm = true) (hi : DI X B W tg iter h) (hg : DG X B tg is t) (hb : DSs X B W rf body g) (hs : ∀ x, foldedSetIterable iter X.env x = pure x := by intro _; rfl) :
    DS X B W rf (.For tg iter body [] pos) (sFor h t g) := by
  refine ps_imp (ps_for hp hc hi hg.pg hb hs) fun D σ H hh => ?_
  obtain ⟨fr, Hv, R, hh⟩ := hh
  refine ⟨fr, Hv, R, ?_⟩
  unfold sFor at hh
  cases hI : h fr with
  | bad => rw [hI] at hh; exact hh.elim
  | exc c fs fr1 =>
    rw [hI] at hh
    exact fun dd H' Hv' n e => hh dd σ H' Hv' n.rel n.ext e
  | ok ds fr1 =>
    rw [hI] at hh
    dsimp only [Res.bind] at hh
    intro J H1 Hv1 n w
    obtain ⟨S, Y, wk, hS, hY⟩ := w.ex
    refine for_it wk (fun i σ' H' => ∃ fr' Hv', Rel B fr' σ' H' Hv' ∧ Sub Hv1 Hv' ∧ PostS B W rf Hv' (loopF t g (ds.drop i) fr') D) ⟨fr1, Hv1, n.rel, .refl _, PostS.step n.ext hh⟩ (fun i σ' H' _ ⟨fr', Hv', R', s, _⟩ => hS H' Hv' s R'.sub) (fun i x σ' H' H'' hlt p y => ?_) (fun σ' H' p => ?_)
    · obtain ⟨fr', Hv', R', s, P⟩ := p
      obtain ⟨d, hd, hr⟩ := hY i H' Hv' x H'' hlt s R'.sub y
      have hdrop : ds.drop i = d :: ds.drop (i + 1) := by
        obtain ⟨hl, e⟩ := List.getElem?_eq_some_iff.mp hd
        rw [List.drop_eq_getElem_cons hl, e]
      rw [hdrop] at P
      obtain ⟨Hv2, s2, R2, r2⟩ : ∃ Hv2, Sub Hv' Hv2 ∧ Rel B fr' σ' H'' Hv2 ∧ Rep B.G Hv2 d x := by
        rcases hr with ⟨e, r⟩ | ⟨T, es, vs, rfl, rfl, hT, rfl, r⟩
        · rw [e]; exact ⟨Hv', .refl _, R', r⟩
        · have sT : Sub Hv' (upd Hv' T (.tup vs)) := (Sub.refl Hv').put (R'.hv_none hT)
          exact ⟨_, sT, R'.layV hT (fun ps z => by cases z), Rep.tup upd_same (RepL.mono sT _ _ r)⟩
      unfold loopF at P
      cases ht : t d fr' with
      | none => rw [ht] at P; exact P.elim
      | some fr2 =>
        rw [ht] at P
        dsimp only at P
        refine ⟨fr', Hv2, d, fr2, R2, r2, ht, fun σ2 R3 _ _ => ⟨fr2, Hv2, R3, ?_⟩⟩
        cases hgf : g fr2 with
        | bad => rw [hgf] at P; exact P.elim
        | exc c fs fr3 =>
          rw [hgf] at P
          exact fun dd σ' H' Hv' a b => P dd σ' H' Hv' a (s2.trans b)
        | ok fl fr3 =>
          rw [hgf] at P
          cases fl with
          | nx => exact fun σ' H' Hv' a b => ⟨fr3, Hv', a, s.trans (s2.trans b), PostS.step (s2.trans b) P⟩
          | cnt => exact fun σ' H' Hv' a b => ⟨fr3, Hv', a, s.trans (s2.trans b), PostS.step (s2.trans b) P⟩
          | brk => exact fun σ' H' Hv' a b => P σ' H' Hv' a (s2.trans b)
          | ret d => exact P
    · obtain ⟨fr', Hv', R', s, P⟩ := p
      rw [List.drop_length] at P
      exact P σ' H' Hv' R' (.refl _)
end
end KS
namespace KS
open PySem PySem.Spec L2
def wipeF (fr : Fr) : List Nat → Fr
  | [] => fr
  | v :: vs => (wipeF fr vs).set v none
def restF (fr1 fr2 : Fr) : List Nat → Fr
  | [] => fr2
  | v :: vs => (restF fr1 fr2 vs).set v (fr1[v]?).join
def compL (vs : List Nat) (t : Tv) (c : Bv) (e : Ev) : List D → Fr → Res Fr (List D)
  | [], fr => .ok [] fr
  | d :: ds, fr => match t d (wipeF fr vs) with
    | none => .bad
    | some fr1 => (c fr1).bind fun b fr2 => if b = true then ((e fr2).bind fun y fr3 => if pers y = true then ((compL vs t c e ds fr3).bind fun r fr4 => .ok (y :: r) fr4) else .bad) else compL vs t c e ds fr2
def eComp (vs : List Nat) (h : Iv) (t : Tv) (c : Bv) (e : Ev) : Ev := fun fr => (h fr).bind fun ds fr1 => if ds.length ≤ sizeLine then (match compL vs t c e ds fr1 with
  | .ok r fr2 => .ok (.lst r) (restF fr1 fr2 vs)
  | _ => .bad) else .bad
def bYes : Bv := fun fr => .ok true fr
theorem wipeF_length {fr : Fr} : ∀ {vs : List Nat}, (wipeF fr vs).length = fr.length
  | [] => rfl
  | v :: vs => by rw [wipeF, List.length_set, wipeF_length]
theorem restF_length {fr1 fr2 : Fr} : ∀ {vs : List Nat}, (restF fr1 fr2 vs).length = fr2.length
  | [] => rfl
  | v :: vs => by rw [restF, List.length_set, restF_length]
theorem wipeF_out {fr : Fr} {j : Nat} : ∀ {vs : List Nat}, j ∉ vs → (wipeF fr vs)[j]? = fr[j]?
  | [], _ => rfl
  | v :: vs, h => by
    rw [List.mem_cons, not_or] at h
    rw [wipeF, List.getElem?_set_ne (Ne.symm h.1), wipeF_out h.2]
theorem wipeF_in {fr : Fr} {j : Nat} {d : D} : ∀ {vs : List Nat}, (wipeF fr vs)[j]? = some (some d) → j ∉ vs ∧ fr[j]? = some (some d)
  | [], h => ⟨by simp, h⟩
  | v :: vs, h => by
    rw [wipeF] at h
    rcases get_set h with ⟨_, z⟩ | ⟨n, z⟩
    · cases z
    · obtain ⟨a, b⟩ := wipeF_in z
      exact ⟨by simp only [List.mem_cons, not_or]; exact ⟨n, a⟩, b⟩
theorem restF_get {fr1 fr2 : Fr} {j : Nat} {d : D} : ∀ {vs : List Nat}, (restF fr1 fr2 vs)[j]? = some (some d) → (j ∈ vs ∧ fr1[j]? = some (some d)) ∨ (j ∉ vs ∧ fr2[j]? = some (some d))
  | [], h => .inr ⟨by simp, h⟩
  | v :: vs, h => by
    rw [restF] at h
    rcases get_set h with ⟨e, z⟩ | ⟨n, z⟩
    · subst e
      refine .inl ⟨List.mem_cons_self .., ?_⟩
      cases q : fr1[j]? with
      | none => rw [q] at z; cases z
      | some o =>
        rw [q] at z
        have z : some d = o := z
        rw [z]
    · rcases restF_get z with ⟨a, b⟩ | ⟨a, b⟩
      · exact .inl ⟨List.mem_cons_of_mem _ a, b⟩
      · exact .inr ⟨by simp only [List.mem_cons, not_or]; exact ⟨n, a⟩, b⟩
theorem restF_out {fr1 fr2 : Fr} {j : Nat} : ∀ {vs : List Nat}, j ∉ vs → (restF fr1 fr2 vs)[j]? = fr2[j]?
  | [], _ => rfl
  | v :: vs, h => by
    rw [List.mem_cons, not_or] at h
    rw [restF, List.getElem?_set_ne (Ne.symm h.1), restF_out h.2]
theorem wipe_none {σ : L2.St} {j : Nat} : ∀ {vs : List Nat}, j ∈ vs → j < σ.length → (wipe σ vs)[j]? = some none
  | [], h, _ => by simp at h
  | v :: vs, h, hl => by
    rw [wipe]
    by_cases e : j = v
    · subst e
      rw [List.getElem?_set_self (by rw [wipe_length]; exact hl)]
    · rw [List.getElem?_set_ne (Ne.symm e)]
      exact wipe_none ((List.mem_cons.mp h).resolve_left e) hl
theorem wipe_eq {σ σ2 : L2.St} {vs is : List Nat} (hl : σ2.length = (wipe σ vs).length) (ho : ∀ j, j ∉ is → σ2[j]? = (wipe σ vs)[j]?) (hi : ∀ j ∈ is, j ∈ vs) : wipe σ2 vs = wipe σ vs := by
  rw [wipe_length] at hl
  refine List.ext_getElem? fun j => ?_
  by_cases hv : j ∈ vs
  · by_cases hj : j < σ.length
    · rw [wipe_none hv (by rw [hl]; exact hj), wipe_none hv hj]
    · rw [List.getElem?_eq_none (by rw [wipe_length]; omega), List.getElem?_eq_none (by rw [wipe_length]; omega)]
  · rw [wipe_out hv, ho j (fun z => hv (hi j z))]
section
variable {B : Bd} {fr fr1 fr2 : Fr} {σ : L2.St} {H H1 Hv Hv1 : Hp}
theorem Rel.wipes (R : Rel B fr σ H Hv) {vs : List Nat} (hM : ∀ v ∈ vs, v ∉ B.M) : Rel B (wipeF fr vs) (wipe σ vs) H Hv where
  sub := R.sub
  ext0 := R.ext0
  new := R.new
  keep := R.keep
  len := by rw [wipeF_length, wipe_length]; exact R.len
  val := fun j d h hm => by
    obtain ⟨a, b⟩ := wipeF_in h
    rw [wipe_out a]
    exact R.val j d b hm
  box := fun j d h hc hm => by
    obtain ⟨a, b⟩ := wipeF_in h
    rw [wipe_out a]
    exact R.box j d b hc hm
  own := fun j d h hm => by
    obtain ⟨a, b⟩ := wipeF_in h.1
    rw [wipe_out a]
    exact R.own j d ⟨b, h.2⟩ hm
  sep := fun j k a dj dk hj hk hjk e1 e2 => by
    obtain ⟨a1, b1⟩ := wipeF_in e1.1
    obtain ⟨a2, b2⟩ := wipeF_in e2.1
    rw [wipe_out a1, wipe_out a2]
    exact R.sep j k a dj dk hj hk hjk ⟨b1, e1.2⟩ ⟨b2, e2.2⟩
  io := fun p hp => by
    obtain ⟨h1, ⟨d, h2, h3⟩, h4⟩ := R.io p hp
    have n : p.1 ∉ vs := fun z => hM _ z h1
    exact ⟨h1, ⟨d, by rw [wipeF_out n]; exact h2, h3⟩, by rw [wipe_out n]; exact h4⟩
  tab := R.tab
theorem Rel.rests (R1 : Rel B fr1 σ H1 Hv1) {vs : List Nat} (R : Rel B (wipeF fr2 vs) (wipe σ vs) H Hv) (s : Sub Hv1 Hv) (hM : ∀ v ∈ vs, v ∉ B.M) : Rel B (restF fr1 fr2 vs) σ H Hv where
  sub := R.sub
  ext0 := R.ext0
  new := R.new
  keep := R.keep
  len := by
    have := R.len
    rw [wipeF_length, wipe_length] at this
    rw [restF_length]; exact this
  val := fun j d h hm => by
    rcases restF_get h with ⟨a, b⟩ | ⟨a, b⟩
    · obtain ⟨v, h1, h2⟩ := R1.val j d b hm
      exact ⟨v, h1, Rep.mono s _ _ h2⟩
    · have := R.val j d (by rw [wipeF_out a]; exact b) hm
      rwa [wipe_out a] at this
  box := fun j d h hc hm => by
    rcases restF_get h with ⟨a, b⟩ | ⟨a, b⟩
    · exact absurd hm (hM _ a)
    · have := R.box j d (by rw [wipeF_out a]; exact b) hc hm
      rwa [wipe_out a] at this
  own := fun j d h hm => by
    rcases restF_get h.1 with ⟨a, b⟩ | ⟨a, b⟩
    · exact absurd hm (hM _ a)
    · have := R.own j d ⟨by rw [wipeF_out a]; exact b, h.2⟩ hm
      rwa [wipe_out a] at this
  sep := fun j k a dj dk hj hk hjk e1 e2 => by
    rcases restF_get e1.1 with ⟨a1, b1⟩ | ⟨a1, b1⟩
    · exact absurd hj (hM _ a1)
    rcases restF_get e2.1 with ⟨a2, b2⟩ | ⟨a2, b2⟩
    · exact absurd hk (hM _ a2)
    have := R.sep j k a dj dk hj hk hjk ⟨by rw [wipeF_out a1]; exact b1, e1.2⟩ ⟨by rw [wipeF_out a2]; exact b2, e2.2⟩
    rwa [wipe_out a1, wipe_out a2] at this
  io := fun p hp => by
    obtain ⟨h1, ⟨d, h2, h3⟩, h4⟩ := R.io p hp
    have n : p.1 ∉ vs := fun z => hM _ z h1
    rw [wipeF_out n] at h2
    rw [wipe_out n] at h4
    exact ⟨h1, ⟨d, by rw [restF_out n]; exact h2, h3⟩, h4⟩
  tab := R.tab
theorem Rel.upd_free (R : Rel B fr σ H Hv) {p : Addr} {o : HO} (no : ¬ Own B fr σ p) (h0 : B.H0 p = none) (hv : Hv p = none) (ht : p ∉ B.G.tabs) : Rel B fr σ (upd H p o) Hv where
  sub := fun b u h => by
    rw [upd_ne (fun z => by rw [z, hv] at h; cases h)]
    exact R.sub b u h
  ext0 := R.ext0
  new := R.new
  keep := fun b u h hi ht => by
    rw [upd_ne (ne_of_none h h0)]
    exact R.keep b u h hi ht
  len := R.len
  val := R.val
  box := R.box
  own := fun i d hf hm => by
    obtain ⟨a, hs, hva, hn, hc⟩ := R.own i d hf hm
    have ne : a ≠ p := fun e => no (by rw [← e]; exact ⟨i, d, hm, hf, hs⟩)
    exact ⟨a, hs, hva, hn, hc.mono (.refl _) (upd_ne ne)⟩
  sep := R.sep
  io := R.io
  tab := fun P hP => by
    obtain ⟨⟨ps, e, t⟩, v⟩ := R.tab P hP
    exact ⟨⟨ps, by rw [upd_ne (fun z : P = p => ht (by rw [← z]; exact hP))]; exact e, t⟩, v⟩
end
/-- what stands at the start of a turn -/
structure CInv (B : Bd) (vs : List Nat) (σ : L2.St) (fr1 : Fr) (H1 Hv1 : Hp) (D0 : Addr) (rem : Nat) (fr' : Fr) (H Hv' : Hp) (acc : List V) (ad : List D) : Prop where
  rel : Rel B (wipeF fr' vs) (wipe σ vs) H Hv'
  sub : Sub Hv1 Hv'
  at_ : H D0 = some (.lst acc)
  rep : RepL B.G Hv' ad acc
  hv : Hv' D0 = none
  no : ∀ j d, j ∈ B.M → (fr'[j]? = some (some d) ∧ isCell d = true) → σ[j]? ≠ some (some (.ref D0))
  keep : ∀ b o, H1 b = some o → ¬ Own B fr1 σ b → b ∉ B.G.tabs → H b = some o
  shr : Shr B fr1 fr'
  alive : ∀ b o, H1 b = some o → ∃ o', H b = some o'
  newv : ∀ b o, Hv' b = some o → Hv1 b = some o ∨ NewOk H1 b o ∨ Own B fr1 σ b
  sz : ad.length + rem ≤ sizeLine
section
variable {B : Bd} {vs is : List Nat} {σ : L2.St} {fr1 : Fr} {H1 Hv1 : Hp} {t : Tv} {c : Bv} {e : Ev}
theorem lc_step {J : It} {ds : List D} {Q : VK} {r0 : List D} {fr20 : Fr} (hM : ∀ v ∈ vs, v ∉ B.M) (hi : ∀ j ∈ is, j ∈ vs) (ok : TgOk t is) (R1 : Rel B fr1 σ H1 Hv1) (w : DWalk B J ds Hv1) (hsz : ds.length ≤ sizeLine) (hc : compL vs t c e ds fr1 = .ok r0 fr20)
    (hQ : ∀ p H' Hv', Nxt B fr1 σ H1 Hv1 (restF fr1 fr20 vs) H' Hv' → H1 p = none → Hv' p = none → Cell B.G H' Hv' p (.lst r0) → Q (.ref p) H') :
    ∀ D0, H1 D0 = none → ∃ W : Nat → Nat → Hp → Prop, (∃ m, W 0 m (upd H1 D0 (.lst []))) ∧ ∀ i m H, W i m H →
      (J.stop i H ∧ Q (.ref D0) H) ∨ (J.go i H ∧ ∃ Nx : Hp → Prop, (∀ H', Nx H' → ∃ m', m' < m ∧ W (i + 1) m' H') ∧ ∀ x H', J.yld i H x H' → dTG B is t x (wipe σ vs) H' fun σ2 H2 => wipe σ2 vs = wipe σ vs ∧ dTT B (fun _ _ _ _ => False) c σ2 H2 fun b H3 =>
        if b = true then dTE B (fun _ _ _ _ => False) e σ2 H3 fun y H4 => ∃ acc, H4 D0 = some (.lst acc) ∧ acc.length < sizeLine ∧ Nx (upd H4 D0 (.lst (acc ++ [y]))) else Nx H3) := by
  intro D0 hD
  obtain ⟨S, Y, wk, hS, hY⟩ := w.ex
  have hDt : D0 ∉ B.G.tabs := fun z => by
    obtain ⟨⟨ps, q, _⟩, _⟩ := R1.tab D0 z
    rw [hD] at q; cases q
  have hD0 := R1.h0_none hD
  refine lc_it wk (fun i H => ∃ fr' Hv' acc ad r, CInv B vs σ fr1 H1 Hv1 D0 (ds.length - i) fr' H Hv' acc ad ∧ compL vs t c e (ds.drop i) fr' = .ok r fr20 ∧ ad ++ r = r0) ?_ (fun i H _ ⟨fr', Hv', acc, ad, r, I, _⟩ => hS H Hv' I.sub I.rel.sub) (fun i x H H' hlt p y => ?_) (fun H p => ?_)
  · refine ⟨fr1, Hv1, [], [], r0, ⟨(R1.lay hD).wipes hM, .refl _, upd_same, .nil, R1.hv_none hD, fun j d hj hf hs => ?_, fun b o h _ _ => by rw [upd_ne (ne_of_none h hD)]; exact h, .refl _ _, fun b o h => ⟨o, by rw [upd_ne (ne_of_none h hD)]; exact h⟩, fun b o h => .inl h, by simpa using hsz⟩, hc, rfl⟩
    obtain ⟨⟨u, hu⟩, _⟩ := R1.own_some ⟨j, d, hj, hf, hs⟩
    rw [hD] at hu; cases hu
  · obtain ⟨fr', Hv', acc, ad, r, I, hcl, har⟩ := p
    obtain ⟨d, hd, hr⟩ := hY i H Hv' x H' hlt I.sub I.rel.sub y
    have hdrop : ds.drop i = d :: ds.drop (i + 1) := by
      obtain ⟨hl, e⟩ := List.getElem?_eq_some_iff.mp hd
      rw [List.drop_eq_getElem_cons hl, e]
    rw [hdrop] at hcl
    obtain ⟨Hv2, s2, R2, r2, at2, keep2, alive2, hv2, newv2⟩ : ∃ Hv2, Sub Hv' Hv2 ∧ Rel B (wipeF fr' vs) (wipe σ vs) H' Hv2 ∧ Rep B.G Hv2 d x ∧ H' D0 = some (.lst acc) ∧ (∀ b o, H b = some o → H' b = some o) ∧ (∀ b o, H1 b = some o → ∃ o', H' b = some o') ∧ Hv2 D0 = none ∧ (∀ b o, Hv2 b = some o → Hv' b = some o ∨ H b = none) := by
      rcases hr with ⟨e, r⟩ | ⟨T, es, us, rfl, rfl, hT, rfl, r⟩
      · rw [e]; exact ⟨Hv', .refl _, I.rel, r, I.at_, fun _ _ h => h, I.alive, I.hv, fun _ _ h => .inl h⟩
      · have sT : Sub Hv' (upd Hv' T (.tup us)) := (Sub.refl Hv').put (I.rel.hv_none hT)
        have neT : D0 ≠ T := ne_of_none I.at_ hT
        refine ⟨_, sT, I.rel.layV hT (fun ps z => by cases z), Rep.tup upd_same (RepL.mono sT _ _ r), by rw [upd_ne neT]; exact I.at_, fun b o h => by rw [upd_ne (ne_of_none h hT)]; exact h, fun b o h => ?_, by rw [upd_ne neT]; exact I.hv, fun b o h => ?_⟩
        · obtain ⟨o', h'⟩ := I.alive b o h
          exact ⟨o', by rw [upd_ne (ne_of_none h' hT)]; exact h'⟩
        · by_cases eb : b = T
          · exact .inr (eb ▸ hT)
          · rw [upd_ne eb] at h; exact .inl h
    unfold compL at hcl
    cases ht : t d (wipeF fr' vs) with
    | none => rw [ht] at hcl; cases hcl
    | some fr2 =>
      rw [ht] at hcl
      dsimp only at hcl
      refine ⟨wipeF fr' vs, Hv2, d, fr2, R2, r2, ht, fun σ2 R3 hl ho => ?_⟩
      have hw := wipe_eq hl ho hi
      refine ⟨hw, fr2, Hv2, R3, ?_⟩
      -- owned slots of a later frame are those of fr'
      have back : ∀ {frx : Fr}, Shr B fr2 frx → ∀ j dd, j ∈ B.M → (frx[j]? = some (some dd) ∧ isCell dd = true) → (∃ d0, fr'[j]? = some (some d0) ∧ isCell d0 = true) ∧ σ2[j]? = σ[j]? := fun {frx} sh j dd hj hf => by
        have njv : j ∉ vs := fun z => hM j z hj
        have nji : j ∉ is := fun z => njv (hi j z)
        obtain ⟨d0, h0, h1⟩ := sh j dd hj hf
        rw [ok d _ _ ht j nji, wipeF_out njv] at h0
        exact ⟨⟨d0, h0, h1⟩, by rw [ho j nji, wipe_out njv]⟩
      have noD : ∀ {frx : Fr}, Shr B fr2 frx → ¬ Own B frx σ2 D0 := fun {frx} sh ⟨j, dd, hj, hf, hs⟩ => by
        obtain ⟨⟨d0, hd0⟩, e1⟩ := back sh j dd hj hf
        rw [e1] at hs
        exact I.no j d0 hj hd0 hs
      -- an address not owned at the start is not owned in a later frame
      have noB : ∀ {frx : Fr} {b : Addr}, Shr B fr2 frx → ¬ Own B fr1 σ b → ¬ Own B frx σ2 b := fun {frx b} sh no ⟨j, dd, hj, hf, hs⟩ => by
        obtain ⟨⟨d0, hd0⟩, e1⟩ := back sh j dd hj hf
        rw [e1] at hs
        obtain ⟨d1, hd1⟩ := I.shr j d0 hj hd0
        exact no ⟨j, d1, hj, hd1, hs⟩
      have shr' : ∀ {frx : Fr}, Shr B fr2 frx → Shr B fr1 frx := fun {frx} sh j dd hj hf => by
        obtain ⟨⟨d0, hd0⟩, _⟩ := back sh j dd hj hf
        exact I.shr j d0 hj hd0
      have nos : ∀ {frx : Fr}, Shr B fr2 frx → ∀ j dd, j ∈ B.M → (frx[j]? = some (some dd) ∧ isCell dd = true) → σ[j]? ≠ some (some (.ref D0)) := fun {frx} sh j dd hj hf hs => by
        obtain ⟨⟨d0, hd0⟩, _⟩ := back sh j dd hj hf
        exact I.no j d0 hj hd0 hs
      have nvD : ∀ {frx : Fr} {Hx Hvx : Hp}, Nxt B fr2 σ2 H' Hv2 frx Hx Hvx → Hx D0 = some (.lst acc) := fun n => n.keep D0 _ at2 (noD (.refl _ _)) hDt
      cases hcc : c fr2 with
      | bad => rw [hcc] at hcl; cases hcl
      | exc k fs fr3 => rw [hcc] at hcl; cases hcl
      | ok b fr3 =>
        rw [hcc] at hcl
        dsimp only [Res.bind] at hcl
        intro H3 Hv3 n3
        have fin : ∀ {frx : Fr} {Hx Hvx : Hp} (n : Nxt B fr2 σ2 H' Hv2 frx Hx Hvx), Hvx D0 = none ∧ Rel B (wipeF frx vs) (wipe σ vs) Hx Hvx ∧ (∀ b o, H1 b = some o → ¬ Own B fr1 σ b → b ∉ B.G.tabs → Hx b = some o) ∧ (∀ b o, H1 b = some o → ∃ o', Hx b = some o') ∧ (∀ b o, Hvx b = some o → Hv1 b = some o ∨ NewOk H1 b o ∨ Own B fr1 σ b) := fun {frx Hx Hvx} n => by
          refine ⟨?_, ?_, fun b o h no nt => n.keep b o (keep2 b o (I.keep b o h no nt)) (noB (.refl _ _) no) nt, fun b o h => ?_, fun b o h => ?_⟩
          · cases z : Hvx D0 with
            | none => rfl
            | some u =>
              rcases n.newv D0 u z with q | (q | ⟨ws, q⟩) | q
              · rw [hv2] at q; cases q
              · rw [at2] at q; cases q
              · have h1 := n.rel.sub D0 u z
                rw [nvD n, q] at h1
                cases h1
              · exact absurd q (noD (.refl _ _))
          · have := n.rel.wipes hM
            rwa [hw] at this
          · obtain ⟨o', h'⟩ := alive2 b o h
            exact n.alive b o' h'
          · rcases n.newv b o h with q | (q | q) | q
            · rcases newv2 b o q with z | z
              · exact I.newv b o z
              · refine .inr (.inl (.inl ?_))
                cases e : H1 b with
                | none => rfl
                | some u =>
                  obtain ⟨u', h'⟩ := I.alive b u e
                  rw [z] at h'; cases h'
            · refine .inr (.inl (.inl ?_))
              cases e : H1 b with
              | none => rfl
              | some u =>
                obtain ⟨u', h'⟩ := alive2 b u e
                rw [q] at h'; cases h'
            · exact .inr (.inl (.inr q))
            · by_cases ho1 : Own B fr1 σ b
              · exact .inr (.inr ho1)
              · exact absurd q (noB (.refl _ _) ho1)
        cases b with
        | false =>
          rw [if_neg Bool.false_ne_true] at hcl ⊢
          obtain ⟨f1, f2, f3, f4, f5⟩ := fin n3
          refine ⟨fr3, Hv3, acc, ad, r, ⟨f2, I.sub.trans (s2.trans n3.ext), nvD n3, RepL.mono (s2.trans n3.ext) _ _ I.rep, f1, nos n3.shp, f3, shr' n3.shp, f4, f5, ?_⟩, hcl, har⟩
          have := I.sz
          omega
        | true =>
          rw [if_pos rfl] at hcl ⊢
          refine ⟨fr3, Hv3, n3.rel, ?_⟩
          cases hee : e fr3 with
          | bad => rw [hee] at hcl; cases hcl
          | exc k fs fr4 => rw [hee] at hcl; cases hcl
          | ok dy fr4 =>
            rw [hee] at hcl
            dsimp only [Res.bind] at hcl
            intro y H4 Hv4 n4 ry
            split at hcl
            · next hp =>
              have ry := ry.rep fun i z => by rw [z] at hp; cases hp
              have n := n3.trans n4
              obtain ⟨f1, f2, f3, f4, f5⟩ := fin n
              cases hrec : compL vs t c e (ds.drop (i + 1)) fr4 with
              | bad => rw [hrec] at hcl; cases hcl
              | exc k fs fr5 => rw [hrec] at hcl; cases hcl
              | ok r1 fr5 =>
                rw [hrec] at hcl
                dsimp only at hcl
                have hcl' : dy :: r1 = r ∧ fr5 = fr20 := by
                  cases hcl
                  exact ⟨rfl, rfl⟩
                obtain ⟨h1, h2⟩ := hcl'
                subst h1 h2
                have hsz := I.sz
                have la := I.rep.length
                refine ⟨acc, nvD n, by omega, fr4, Hv4, acc ++ [y], ad ++ [dy], r1, ⟨f2.upd_free ?_ hD0 f1 hDt, I.sub.trans (s2.trans n.ext), upd_same, (RepL.mono (s2.trans n.ext) _ _ I.rep).append (.cons ry .nil), f1, nos n.shp, fun b o h no nt => ?_, shr' n.shp, fun b o h => ?_, f5, ?_⟩, hrec, by rw [← har]; simp⟩
                · rintro ⟨j, dd, hj, hf, hs⟩
                  obtain ⟨a1, a2⟩ := wipeF_in hf.1
                  rw [wipe_out a1] at hs
                  exact nos n.shp j dd hj ⟨a2, hf.2⟩ hs
                · rw [upd_ne (ne_of_none h hD)]
                  exact f3 b o h no nt
                · by_cases eb : b = D0
                  · exact ⟨_, by rw [eb]; exact upd_same⟩
                  · rw [upd_ne eb]
                    exact f4 b o h
                · rw [List.length_append, List.length_singleton]
                  omega
            · cases hcl
  · obtain ⟨fr', Hv', acc, ad, r, I, hcl, har⟩ := p
    rw [List.drop_length] at hcl
    cases hcl
    rw [List.append_nil] at har
    subst har
    refine hQ D0 H Hv' ⟨R1.rests I.rel I.sub hM, I.sub, I.keep, fun j d hj hf => ?_, I.alive, I.newv⟩ hD I.hv ⟨acc, I.at_, I.rep⟩
    rcases restF_get hf.1 with ⟨a, b⟩ | ⟨a, b⟩
    · exact ⟨d, b, hf.2⟩
    · exact I.shr j d hj ⟨b, hf.2⟩
theorem lc_enter {W : WX} {h : Iv} {K : PySem.W.Frag} {σ0 : L2.St} {H0 : Hp} {Q : VK} (hM : ∀ v ∈ vs, v ∉ B.M) (hi : ∀ j ∈ is, j ∈ vs) (ok : TgOk t is) (hh : dTF B W (eComp vs h t c e) σ0 H0 Q) :
    tLc (dTI B W h) (dTG B is t) (dTT B (fun _ _ _ _ => False) c) (dTE B (fun _ _ _ _ => False) e) vs σ0 H0 Q := by
  obtain ⟨fr, Hv, R, hh⟩ := hh
  refine ⟨fr, Hv, R, ?_⟩
  unfold eComp at hh
  cases hI : h fr with
  | bad => rw [hI] at hh; exact hh.elim
  | exc k fs fr1 =>
    rw [hI] at hh
    exact hh
  | ok ds fr1 =>
    rw [hI] at hh
    dsimp only [Res.bind] at hh
    intro J H1 Hv1 n w
    split at hh
    · next hsz =>
      split at hh
      · next r fr2 hc =>
        exact lc_step hM hi ok n.rel w hsz hc fun p H' Hv' m hp hv hcell => hh p H' Hv' (n.trans m) (n.none R hp) hv hcell
      · exact (hh : False).elim
    · exact hh.elim
end
section
variable {X : Cx} {B : Bd} {W : WX} {rf : Bool} {elt tg iter : Expr} {ifs : List Expr} {scope : Scope} {own : List (Str × Nat)} {pos spos py : Pos} {is : List Nat} {h : Iv} {t : Tv} {c : Bv} {e : Ev}
abbrev W0 : WX := fun _ _ _ _ => False
abbrev BX (X : Cx) (scope : Scope) (s : Shared) (H : Hp) (C : Addr) (cl : List (Str × Addr)) (fp : List Addr) : Cx := X.blk s H scope (compEnvC scope cl C X.env) fp
theorem d_yes {X : Cx} : PTs X [] (dTT B W0 bYes) := ⟨fun pins s σ H Q I h => by
  obtain ⟨fr, Hv, R, h⟩ := h
  exact pts_nil.run pins s σ H Q I (h H Hv (.refl R))⟩
theorem d_lc (hM : ∀ v ∈ own.map (·.2), v ∉ B.M) (his : ∀ j ∈ is, j ∈ own.map (·.2)) (hc : X.calm = true) (hN : X.N.Nodup) (hi : DI X B W tg iter h) (ok : BlkOk X.N X.env.scope scope own)
    (hg : ∀ s H C cl fp, DG (BX X scope s H C cl fp) B tg is t) (ht : ∀ s H C cl fp, PTs (BX X scope s H C cl fp) ifs (dTT B W0 c)) (he : ∀ s H C cl fp, DE (BX X scope s H C cl fp) B W0 elt e)
    (hs : ∀ x, foldedSetIterable iter X.env x = pure x := by intro _; rfl) : DF X B W (.ListComp elt [⟨tg, iter, ifs, 0⟩] scope pos) (eComp (own.map (·.2)) h t c e) :=
  pe_imp (pe_lc hc hN hi ok (fun s H C cl fp => (hg s H C cl fp).pg) ht he hs) fun σ H Q hh => lc_enter (K := X.K) hM his (hg X.s_0 X.H_0 0 [] []).ok hh
end
end KS
namespace KS
open PySem PySem.Spec L2
/-- what a method does to the object c, its argument b: the value it gives, the object behind it; pz: the argument is kept -/
abbrev Mu := D → List D → Option (D × D)
def pick (fr : Fr) : List D → Option (List D)
  | [] => some []
  | d :: ds => match look fr d, pick fr ds with
    | some a, some as => some (a :: as)
    | _, _ => none
def eMut (i : Nat) (kd : D → Bool) (pz : Bool) (F : Mu) (g : Av) : Ev := fun fr => match fr[i]? with
  | some (some c0) => if kd c0 = true then ((g fr).bind fun ys fr1 => match fr1[i]? with
    | some (some c) => if isCell c = true then (if (pz = true → ys.all pers = true) then (match pick fr1 ys with
      | some bs => match F c bs with
        | some (r, c') => .ok r (fr1.set i (some c'))
        | none => .bad
      | none => .bad) else .bad) else .bad
    | _ => .bad) else .bad
  | _ => .bad
def isLstD : D → Bool
  | .lst _ => true
  | _ => false
def isDctD : D → Bool
  | .dct _ _ => true
  | _ => false
section
variable {B : Bd} {fr : Fr} {σ : L2.St} {H Hv : Hp}
theorem Rel.mut (R : Rel B fr σ H Hv) {i : Nat} {d d' : D} {a : Addr} {o : HO} (hi : i ∈ B.M) (e : fr[i]? = some (some d) ∧ isCell d = true) (hs : σ[i]? = some (some (.ref a))) (hc : Cell B.G (upd H a o) Hv a d') : Nxt B fr σ H Hv (fr.set i (some d')) (upd H a o) Hv := by
  obtain ⟨⟨u, hu⟩, hva, nta⟩ := R.own_some ⟨i, d, hi, e, hs⟩
  obtain ⟨a', hs', _, hn, _⟩ := R.own i d e hi
  rw [hs] at hs'
  cases hs'
  refine ⟨⟨fun b u h => ?_, R.ext0, R.new, fun b u h hio ht => ?_, by rw [List.length_set]; exact R.len, fun j dj h hm => ?_, fun j dj h hcl hm => ?_, fun j dj h hm => ?_, fun j k b dj dk hj hk hjk e1 e2 s1 => ?_, fun p hp => ?_, fun P hP => ?_⟩, .refl _, fun b u h no nt => ?_, fun j dj hj h => ?_, fun b u h => ?_, fun b u h => .inl h⟩
  · rw [upd_ne (fun z => by rw [z, hva] at h; cases h)]
    exact R.sub b u h
  · have ne : b ≠ a := fun z => by
      rcases hn with ⟨p, hp, q⟩ | q
      · exact hio p hp (by rw [q, z])
      · rw [← z, h] at q; cases q
    rw [upd_ne ne]
    exact R.keep b u h hio ht
  · rcases get_set h with ⟨z, _⟩ | ⟨n, z⟩
    · exact absurd hi (z ▸ hm)
    · exact R.val j dj z hm
  · rcases get_set h with ⟨z, q⟩ | ⟨n, z⟩
    · cases q
      rw [hc.isCell] at hcl; cases hcl
    · exact R.box j dj z hcl hm
  · rcases get_set h.1 with ⟨z, q⟩ | ⟨n, z⟩
    · subst z
      cases q
      exact ⟨a, hs, hva, hn, hc⟩
    · obtain ⟨b, h1, h2, h3, h4⟩ := R.own j dj ⟨z, h.2⟩ hm
      have ne : b ≠ a := fun q => R.sep j i b dj d hm hi n ⟨z, h.2⟩ e h1 (by rw [hs, q])
      exact ⟨b, h1, h2, h3, h4.mono (.refl _) (upd_ne ne)⟩
  · have back : ∀ {j dj}, (fr.set i (some d'))[j]? = some (some dj) ∧ isCell dj = true → ∃ d0, fr[j]? = some (some d0) ∧ isCell d0 = true := fun {j dj} h => by
      rcases get_set h.1 with ⟨z, _⟩ | ⟨_, z⟩
      · subst z; exact ⟨d, e⟩
      · exact ⟨dj, z, h.2⟩
    obtain ⟨d1, h1⟩ := back e1
    obtain ⟨d2, h2⟩ := back e2
    exact R.sep j k b d1 d2 hj hk hjk h1 h2 s1
  · obtain ⟨h1, ⟨dj, h2, h3⟩, h4⟩ := R.io p hp
    refine ⟨h1, ?_, h4⟩
    by_cases z : p.1 = i
    · have hl : i < fr.length := (List.getElem?_eq_some_iff.mp e.1).1
      exact ⟨d', by rw [z, List.getElem?_set_self hl], hc.isCell⟩
    · exact ⟨dj, by rw [List.getElem?_set_ne (Ne.symm z)]; exact h2, h3⟩
  · obtain ⟨⟨ps, q, t⟩, v⟩ := R.tab P hP
    exact ⟨⟨ps, by rw [upd_ne (fun z : P = a => nta (by rw [← z]; exact hP))]; exact q, t⟩, v⟩
  · rw [upd_ne (fun z => no ⟨i, d, hi, e, by rw [hs, z]⟩)]
    exact h
  · rcases get_set h.1 with ⟨z, _⟩ | ⟨_, z⟩
    · subst z; exact ⟨d, e⟩
    · exact ⟨dj, z, h.2⟩
  · by_cases z : b = a
    · exact ⟨o, by rw [z]; exact upd_same⟩
    · exact ⟨u, by rw [upd_ne z]; exact h⟩
/-- what a change is to give -/
def MuS (B : Bd) (r : V → List V → Hp → VK → Prop) (pz : Bool) (F : Mu) : Prop := ∀ fr σ H Hv a c ys bs vs res c' (Q : VK), Rel B fr σ H Hv → Cell B.G H Hv a c → Hv a = none → RepWs B σ Hv ys vs → pick fr ys = some bs → (pz = true → RepL B.G Hv ys vs ∧ bs = ys) → F c bs = some (res, c') →
  (∀ v o, Cell B.G (upd H a o) Hv a c' → Rep B.G Hv res v → Q v (upd H a o)) → r (.ref a) vs H Q
theorem pers_repL {ds : List D} {vs : List V} (r : RepWs B σ Hv ds vs) (h : ds.all pers = true) : RepL B.G Hv ds vs := by
  induction ds generalizing vs with
  | nil => rw [r]; exact .nil
  | cons d ds ih =>
    obtain ⟨v, t, rfl, h1, h2⟩ := r
    rw [List.all_cons, Bool.and_eq_true] at h
    exact .cons (h1.rep fun i z => by rw [z] at h; cases h.1) (ih h2 h.2)
theorem pers_pick {ds bs : List D} (h : ds.all pers = true) (e : pick fr ds = some bs) : bs = ds := by
  induction ds generalizing bs with
  | nil => cases e; rfl
  | cons d ds ih =>
    rw [List.all_cons, Bool.and_eq_true] at h
    unfold pick at e
    split at e
    · next a as ha has =>
      cases e
      rw [ih h.2 has]
      cases d <;> first | (cases ha; rfl) | exact absurd h.1 (by simp [pers])
    · cases e
variable {X : Cx} {W : WX} {e o : Expr} {es : List Expr} {g : Av} {i : Nat} {r : V → List V → Hp → VK → Prop} {pz : Bool} {F : Mu}
theorem kd_lst {d : D} (h : isLstD d = true) : isCell d = true := by cases d <;> first | rfl | cases h
theorem kd_dct {d : D} (h : isDctD d = true) : isCell d = true := by cases d <;> first | rfl | cases h
theorem mut_in {kd : D → Bool} {σ : L2.St} {H : Hp} {Q : VK} (hk : ∀ {d}, kd d = true → isCell d = true) (hi : i ∈ B.M) (hS : MuS B r pz F) (h : dTE B W (eMut i kd pz F g) σ H Q) :
    ∃ a c0 Hv, σ[i]? = some (some (V.ref a)) ∧ Cell B.G H Hv a c0 ∧ kd c0 = true ∧ dTA B W g σ H fun vs H2 => r (.ref a) vs H2 Q := by
  obtain ⟨fr, Hv, R, h⟩ := h
  unfold eMut at h
  split at h
  · next c0 e0 =>
    split at h
    · next cl0 =>
      obtain ⟨a, hs, hva, _, hcell⟩ := R.own i c0 ⟨e0, hk cl0⟩ hi
      refine ⟨a, c0, Hv, hs, hcell, cl0, fr, Hv, R, ?_⟩
      cases hg : g fr with
      | bad => rw [hg] at h; exact h.elim
      | exc c fs fr1 => rw [hg] at h; exact h
      | ok ys fr1 =>
        rw [hg] at h
        dsimp only [Res.bind] at h
        intro vs H2 Hv2 n rws
        split at h
        · next c e1 =>
          split at h
          · next cl1 =>
            split at h
            · next hp =>
              split at h
              · next bs hb =>
                split at h
                · next res c' hF =>
                  obtain ⟨a', hs', hva2, _, hcell2⟩ := n.rel.own i c ⟨e1, cl1⟩ hi
                  rw [hs] at hs'
                  cases hs'
                  exact hS fr1 σ H2 Hv2 a c ys bs vs res c' Q n.rel hcell2 hva2 rws hb (fun z => ⟨pers_repL rws (hp z), pers_pick (hp z) hb⟩) hF fun v o hc' hr => h v _ Hv2 (n.trans (n.rel.mut hi ⟨e1, cl1⟩ hs hc')) (.of hr)
                · exact (h : False).elim
              · exact (h : False).elim
            · exact (h : False).elim
          · exact (h : False).elim
        · exact (h : False).elim
    · exact (h : False).elim
  · exact (h : False).elim
theorem tyV_lst {K : PySem.W.Frag} {c0 : D} {a : Addr} (hc : Cell B.G H Hv a c0) (k : isLstD c0 = true) : tyV K "list" (.ref a) H := by
  cases c0 <;> first | cases k | skip
  obtain ⟨vs, e, _⟩ := hc
  exact .inl ⟨rfl, vs, SqL.of e⟩
theorem tyV_dct {K : PySem.W.Frag} {c0 : D} {a : Addr} (hc : Cell B.G H Hv a c0) (k : isDctD c0 = true) : tyV K "dict" (.ref a) H := by
  cases c0 <;> first | cases k | skip
  obtain ⟨us, ⟨kvs, e, _⟩ | ⟨kvs, e, _⟩, _⟩ := hc
  · exact .inr (.inr (.inl ⟨rfl, .inr ⟨kvs, e⟩⟩))
  · exact .inr (.inr (.inl ⟨rfl, .inl ⟨kvs, e⟩⟩))
variable {x name : Str} {id T : String} {np apos cpos : Pos}
theorem d_mut0 {kd : D → Bool} (hk : ∀ {d}, kd d = true → isCell d = true) (ht : ∀ {H Hv a c0}, Cell B.G H Hv a c0 → kd c0 = true → tyV X.K T (.ref a) H) (hS : MuS B r pz F) (hm : MtR X id r) (pa : PlainAttrs T) (slot : Slot T name id) (hty : typeOf (.builtin id) = pure (.type "method_descriptor"))
    (hi : i ∈ B.M) (hN : X.N[i]? = some x := by rfl) (hv : Vis X.env.scope x := by first | exact Or.inl rfl | exact Or.inr (Or.inl rfl) | exact Or.inr (Or.inr rfl)) (hd : (x == ("__debug__" : Str)) = false := by decide) (hcd : (x == ("__classdict__" : Str)) = false := by decide)
    (hbase : attributeBase (.Name x np) name X.env (eval (.Name x np) X.env) = eval (.Name x np) X.env := by rfl) (hline : (apos.endLine == cpos.line) = true := by rfl) :
    DE X B W (.Call (.Attribute (.Name x np) name apos) [] [] cpos) (eMut i kd pz F (fun fr => .ok [] fr)) := by
  refine pe_imp (pe_bm0 pa slot hty hm (pe_var hN hv hd hcd) hbase hline) fun σ H Q h => ?_
  obtain ⟨a, c0, Hv, hs, hc, hkc, fr, Hv', R, h⟩ := mut_in hk hi hS h
  exact ⟨_, hs, ht hc hkc, h [] H Hv' (.refl R) rfl⟩
theorem d_mut {kd : D → Bool} (hk : ∀ {d}, kd d = true → isCell d = true) (ht : ∀ {H Hv a c0}, Cell B.G H Hv a c0 → kd c0 = true → tyV X.K T (.ref a) H) (hS : MuS B r pz F) (hm : MtR X id r) (pa : PlainAttrs T) (slot : Slot T name id) (hty : typeOf (.builtin id) = pure (.type "method_descriptor"))
    (hi : i ∈ B.M) (ha : DA X B W (e :: es) g) (hN : X.N[i]? = some x := by rfl) (hv : Vis X.env.scope x := by first | exact Or.inl rfl | exact Or.inr (Or.inl rfl) | exact Or.inr (Or.inr rfl)) (hd : (x == ("__debug__" : Str)) = false := by decide) (hcd : (x == ("__classdict__" : Str)) = false := by decide)
    (hbase : attributeBase (.Name x np) name X.env (eval (.Name x np) X.env) = eval (.Name x np) X.env := by rfl)
    (hfew : ((backTo cpos (starEach (e :: es) X.env)).all (fun x => !x.1) && (backToKw cpos (keywordEach [] X.env)).all (fun x => x.1.isSome)
      && decide ((e :: es).length + ([] : List Keyword).length + (if ([] : List Keyword).isEmpty then 0 else 1) < 30)) = true := by rfl)
    (hline : (apos.endLine == cpos.line) = true := by rfl) (hs : starEach (e :: es) X.env = (false, eval e X.env) :: starEach es X.env := by rfl) (hplain : (backTo cpos (starEach es X.env)).any (·.1) = false := by rfl) :
    DE X B W (.Call (.Attribute (.Name x np) name apos) (e :: es) [] cpos) (eMut i kd pz F g) := by
  refine pe_imp (pe_bm pa slot hty hm (pe_var hN hv hd hcd) ha hbase hfew hline hs hplain) fun σ H Q h => ?_
  obtain ⟨a, c0, Hv, hs, hc, hkc, h⟩ := mut_in hk hi hS h
  exact ⟨_, hs, ht hc hkc, h⟩
def appM : Mu := fun c bs => match c, bs with
  | .lst ds, [b] => if ds.length < sizeLine then some (.non, .lst (ds ++ [b])) else none
  | _, _ => none
def popM : Mu := fun c bs => match c, bs with
  | .lst ds, [] => match ds[ds.length - 1]? with
    | some d => some (d, .lst ds.dropLast)
    | none => none
  | _, _ => none
def revM : Mu := fun c bs => match c, bs with
  | .lst ds, [] => some (.non, .lst ds.reverse)
  | _, _ => none
theorem mus_append : MuS B rAppend true appM := by
  intro fr σ H Hv a c ys bs vs res c' Q R hc hva rws hb hp hF k
  obtain ⟨rl, rfl⟩ := hp rfl
  unfold appM at hF
  split at hF
  · next ds b =>
    split at hF
    · next hz =>
      cases hF
      obtain ⟨us, e, r⟩ := hc
      obtain ⟨v, t, rfl, h1, h2⟩ := rl.cons_inv
      rw [h2.nil_inv]
      exact ⟨a, us, v, rfl, rfl, e, by rw [r.length]; exact hz, k .non _ ⟨us ++ [v], upd_same, r.append (.cons h1 .nil)⟩ repN⟩
    · cases hF
  · cases hF
theorem rws_nil {ys bs : List D} {vs : List V} (rws : RepWs B σ Hv ys vs) (hb : pick fr ys = some bs) (h : bs = []) : vs = [] := by
  cases ys with
  | nil => exact rws
  | cons y ys =>
    unfold pick at hb
    split at hb
    · cases hb; cases h
    · cases hb
theorem mus_pop : MuS B rPop false popM := by
  intro fr σ H Hv a c ys bs vs res c' Q R hc hva rws hb hp hF k
  unfold popM at hF
  split at hF
  · next ds =>
    split at hF
    · next d hd =>
      cases hF
      obtain ⟨us, e, r⟩ := hc
      rw [rws_nil rws hb rfl]
      obtain ⟨v, h1, h2⟩ := r.get hd
      exact ⟨a, us, v, rfl, rfl, e, by rw [r.length]; exact h1, k v _ ⟨_, upd_same, r.dropLast⟩ h2⟩
    · cases hF
  · cases hF
theorem mus_reverse : MuS B rReverse false revM := by
  intro fr σ H Hv a c ys bs vs res c' Q R hc hva rws hb hp hF k
  unfold revM at hF
  split at hF
  · next ds =>
    cases hF
    obtain ⟨us, e, r⟩ := hc
    rw [rws_nil rws hb rfl]
    exact ⟨a, us, rfl, rfl, e, k .non _ ⟨_, upd_same, r.reverse⟩ repN⟩
  · cases hF
end
end KS
namespace KS
open PySem PySem.Spec L2
inductive Tn where
  | non | bl | int | str | tup | lst | dct
def Tn.nm : Tn → String
  | .non => "NoneType" | .bl => "bool" | .int => "int" | .str => "str" | .tup => "tuple" | .lst => "list" | .dct => "dict"
def isT : Tn → Tn → Bool
  | .non, .non => true | .bl, .bl => true | .bl, .int => true | .int, .int => true | .str, .str => true | .tup, .tup => true | .lst, .lst => true | .dct, .dct => true
  | _, _ => false
def tyI : D → Option Tn
  | .non => some .non
  | .bl _ => some .bl
  | .int _ => some .int
  | .str _ => some .str
  | .tup _ => some .tup
  | .lst _ => some .lst
  | .scr _ => some .lst
  | .dct _ _ => some .dct
  | _ => none
theorem kit_all (K : PySem.W.Frag) (t : Tn) : PySem.W.kitOne K (.type t.nm) (.type "NoneType") = some (isT t .non) ∧ PySem.W.kitOne K (.type t.nm) (.type "bool") = some (isT t .bl) ∧ PySem.W.kitOne K (.type t.nm) (.type "int") = some (isT t .int) ∧
    PySem.W.kitOne K (.type t.nm) (.type "str") = some (isT t .str) ∧ PySem.W.kitOne K (.type t.nm) (.type "tuple") = some (isT t .tup) ∧ PySem.W.kitOne K (.type t.nm) (.type "list") = some (isT t .lst) ∧ PySem.W.kitOne K (.type t.nm) (.type "dict") = some (isT t .dct) := by
  cases t <;> exact ⟨kit_ty (by decide +kernel), kit_ty (by decide +kernel), kit_ty (by decide +kernel), kit_ty (by decide +kernel), kit_ty (by decide +kernel), kit_ty (by decide +kernel), kit_ty (by decide +kernel)⟩
theorem kit_tn (K : PySem.W.Frag) (t u : Tn) : PySem.W.kitOne K (.type t.nm) (.type u.nm) = some (isT t u) := by
  obtain ⟨a, b, c, d, e, f, g⟩ := kit_all K t
  cases u <;> assumption
def isAny (t : Tn) : List Tn → Bool
  | [] => false
  | u :: us => isT t u || isAny t us
theorem kit_any (K : PySem.W.Frag) (t : Tn) : ∀ us : List Tn, PySem.W.kitAny K (.type t.nm) (us.map fun u => .type u.nm) = some (isAny t us)
  | [] => kitAny_nil
  | u :: us => by
    rw [List.map_cons]
    refine kitAny_cons (kit_tn K t u) (fun h => ?_) (fun h => ?_)
    · rw [isAny, h, Bool.false_or]
      exact kit_any K t us
    · rw [isAny, h, Bool.true_or]
def isiF (u : Tn) : D → Option D := fun d => (tyI d).map fun t => .bl (isT t u)
def isiTF (us : List Tn) : D → Option D := fun d => (tyI d).map fun t => .bl (isAny t us)
section
variable {X : Cx} {B : Bd} {W : WX} {a : Expr} {f : Ev} {p q pos tpos : Pos} {x : Str}
theorem tyx_of (hK : X.K = B.G.K) {fr : Fr} {σ : L2.St} {H Hv : Hp} (R : Rel B fr σ H Hv) {d e : D} {v : V} {t : Tn} (h : RepW B σ Hv d v) (hl : look fr d = some e) (ht : tyI e = some t) : TyX X.K H v (.type t.nm) := by
  cases e with
  | non => cases ht; rw [R.non_of h hl]; exact .base .non
  | bl b => cases ht; rw [R.bl_of h hl]; exact .base (.bl b)
  | int i => cases ht; rw [R.int_of h hl]; exact .base (.int i)
  | str z => cases ht; rw [R.str_of h hl]; exact .base (.str z)
  | tup ds =>
    cases ht
    obtain ⟨b, vs, rfl, s, _, _⟩ := R.tup_of h hl
    rcases s with (s | ⟨o, s⟩) | ⟨o, its, n, hk, hc, _⟩
    · exact .base (.tup s)
    · exact .fTuple s
    · exact .kTuple (by rw [hK]; exact hk) hc
  | lst ds =>
    cases ht
    obtain ⟨b, vs, rfl, s, _⟩ := R.list_of h hl
    exact .base (.lst s)
  | scr ns =>
    cases ht
    obtain ⟨b, rfl, s⟩ := Rep.scr_inv (look_scalar R h hl rfl)
    rcases R.sub.sql s with (s | ⟨o, s⟩) | ⟨o, its, n, hk, hc, _⟩
    · exact .base (.lst s)
    · exact .base (.frz s)
    · exact .kList (by rw [hK]; exact hk) hc
  | dct ks ds =>
    cases ht
    have key : ∃ b us, v = .ref b ∧ DctAt H b ks us := by
      cases d with
      | var i =>
        obtain ⟨hm, hs⟩ := h
        obtain ⟨b, hs', _, _, us, q, _⟩ := R.own i _ (look_var hl) hm
        rw [hs] at hs'
        cases hs'
        exact ⟨b, us, rfl, q⟩
      | dct ks' ds' =>
        have e : D.dct ks' ds' = .dct ks ds := Option.some.inj hl
        cases e
        obtain ⟨b, us, rfl, q, _⟩ := Rep.dct_inv h
        exact ⟨b, us, rfl, q.at fun o => R.sub b o⟩
      | _ => cases hl
    obtain ⟨b, us, rfl, ⟨kvs, e, _⟩ | ⟨kvs, e, _⟩⟩ := key
    · exact .base (.dT e)
    · exact .base (.dK e)
  | _ => cases ht
theorem d_isi (u : Tn) (ha : DE X B W a f) (hm : X.mg "isinstance" = none) (hmx : X.mg x = none) (hx : bootBuiltins x = some (.type u.nm)) (hK : X.K = B.G.K := by rfl) (hg : Gl X "isinstance" := by rfl) (hgx : Gl X x := by rfl) (hv : bootBuiltins "isinstance" = some (.builtin "isinstance") := by decide +kernel) (hn : (("isinstance" : String) : Str) ≠ "__name__" := by decide) (hdb : ((("isinstance" : String) : Str) == ("__debug__" : Str)) = false := by decide)
    (hnx : x ≠ "__name__" := by decide) (hdx : (x == ("__debug__" : Str)) = false := by decide)
    (he2 : starEach [.Name x q] X.env = (false, eval (.Name x q) X.env) :: starEach [] X.env := by rfl) (he : starEach [a, .Name x q] X.env = (false, eval a X.env) :: starEach [.Name x q] X.env := by rfl) (hpl : (backTo pos (starEach [.Name x q] X.env)).any (·.1) = false := by rfl) :
    DE X B W (.Call (.Name "isinstance" p) [a, .Name x q] [] pos) (eOp1 (isiF u) f) := by
  refine pe_imp (pe_callB call_isi hg hm hv (pa_cons ha (pa_cons (pe_bltn hgx hmx hx (show RelV (.ty u.nm) (.type u.nm) from rfl) hnx hdx) pa_nil he2) he) hn hdb he hpl) fun σ H Q h => ?_
  have e := ent1 (r := fun x1 H1 Q => rIsi X.K [x1, .ty u.nm] H1 Q) ?_ h
  · exact e
  · intro fr σ H Hv y dy b z Q R ry hy hz k
    unfold isiF at hz
    simp only [Option.map_eq_some_iff] at hz
    obtain ⟨t, ht, rfl⟩ := hz
    exact ⟨y, .ty u.nm, .type t.nm, .type u.nm, isT t u, rfl, .ty _, tyx_of hK R ry hy ht, kit_tn _ _ _, k _ H Hv (.refl R) repB⟩
theorem d_isi2 (u1 u2 : Tn) {x2 : Str} {q2 : Pos} {k1 : Nat} (ha : DE X B W a f) (hm : X.mg "isinstance" = none) (hmx : X.mg x = none) (hx : bootBuiltins x = some (.type u1.nm)) (hmx2 : X.mg x2 = none) (hx2 : bootBuiltins x2 = some (.type u2.nm)) (hK : X.K = B.G.K := by rfl) (hg : Gl X "isinstance" := by rfl) (hgx : Gl X x := by rfl) (hgx2 : Gl X x2 := by rfl)
    (hv : bootBuiltins "isinstance" = some (.builtin "isinstance") := by decide +kernel) (hn : (("isinstance" : String) : Str) ≠ "__name__" := by decide) (hdb : ((("isinstance" : String) : Str) == ("__debug__" : Str)) = false := by decide)
    (hnx : x ≠ "__name__" := by decide) (hdx : (x == ("__debug__" : Str)) = false := by decide) (hnx2 : x2 ≠ "__name__" := by decide) (hdx2 : (x2 == ("__debug__" : Str)) = false := by decide)
    (hs2 : starEach [.Name x2 q2] X.env = (false, eval (.Name x2 q2) X.env) :: starEach [] X.env := by rfl) (hs1 : starEach [.Name x q, .Name x2 q2] X.env = (false, eval (.Name x q) X.env) :: starEach [.Name x2 q2] X.env := by rfl)
    (he2 : starEach [.Tuple [.Name x q, .Name x2 q2] k1 tpos] X.env = (false, eval (.Tuple [.Name x q, .Name x2 q2] k1 tpos) X.env) :: starEach [] X.env := by rfl) (he : starEach [a, .Tuple [.Name x q, .Name x2 q2] k1 tpos] X.env = (false, eval a X.env) :: starEach [.Tuple [.Name x q, .Name x2 q2] k1 tpos] X.env := by rfl) (hpl : (backTo pos (starEach [.Tuple [.Name x q, .Name x2 q2] k1 tpos] X.env)).any (·.1) = false := by rfl) :
    DE X B W (.Call (.Name "isinstance" p) [a, .Tuple [.Name x q, .Name x2 q2] k1 tpos] [] pos) (eOp1 (isiTF [u1, u2]) f) := by
  refine pe_imp (pe_callB call_isiT hg hm hv (pa_cons ha (pa_cons (pe_tup (pa_cons (pe_bltn hgx hmx hx (show RelV (.ty u1.nm) (.type u1.nm) from rfl) hnx hdx) (pa_cons (pe_bltn hgx2 hmx2 hx2 (show RelV (.ty u2.nm) (.type u2.nm) from rfl) hnx2 hdx2) pa_nil hs2) hs1)) pa_nil he2) he) hn hdb he hpl) fun σ H Q h => ?_
  have e := ent1 (r := fun x1 H1 Q => 2 ≤ sizeLine ∧ ∀ T, H1 T = none → rIsiT X.K [x1, .ref T] (upd H1 T (.tup [.ty u1.nm, .ty u2.nm])) Q) ?_ h
  · exact e
  · intro fr σ H Hv y dy b z Q R ry hy hz k
    unfold isiTF at hz
    simp only [Option.map_eq_some_iff] at hz
    obtain ⟨t, ht, rfl⟩ := hz
    refine ⟨by decide, fun T hT => ?_⟩
    have n : Nxt B fr σ H Hv fr (upd H T (.tup [.ty u1.nm, .ty u2.nm])) Hv := ⟨R.lay hT, .refl _, fun b u h _ _ => by rw [upd_ne (ne_of_none h hT)]; exact h, .refl _ _, fun b u h => ⟨u, by rw [upd_ne (ne_of_none h hT)]; exact h⟩, fun b u h => .inl h⟩
    exact ⟨y, T, _, .type t.nm, [.type u1.nm, .type u2.nm], isAny t [u1, u2], rfl, upd_same, .cons (.ty _) (.cons (.ty _) .nil), tyx_of hK n.rel ry hy ht, kit_any _ t [u1, u2], k _ _ Hv n repB⟩
end
end KS
namespace KS
open PySem PySem.Spec L2
def tMakeS (C : Addr) (sp : Sp) (E : L2.St → XK) (t : TA) : TE := fun σ H Q => t σ H fun vs H1 => ∀ x dx, H1 x = none → H1 dx = none → dx ≠ x →
  sp (.ref x :: (vs ++ [])) (upd (upd H1 dx (.own x)) x (.ins C dx [])) (fun v H2 => v = .non ∧ Q (.ref x) H2) (E σ)
section
variable {X : Cx} {CX : CXT} {k : Nat} {f C : Addr} {fd : FuncData} {ps : List Str} {sp : Sp} {E : L2.St → XK} {x : Str} {p pos : Pos} {e : Expr} {es : List Expr} {t : TA}
theorem run_makeS {pins : List (Addr × Obj)} {σ : L2.St} {H : Hp} {s : Shared} {Q : VK} {us ds : List Value} {vs dvs : List V} (M : Mk X.K C f) (F : FnOk X.prog X.w X.K X.mg X.base CX k f fd ps sp) (hr : Room (k + 1) X.A) (hb : Binds X.K fd ps ds) (hd : Vals dvs ds)
    (hx : PassesAt CX X σ (E σ)) (I : Inv X pins σ H s) (r : Vals vs us)
    (h : ∀ x dx, H x = none → H dx = none → dx ≠ x → sp (.ref x :: (vs ++ dvs)) (upd (upd H dx (.own x)) x (.ins C dx [])) (fun v H2 => v = .non ∧ Q (.ref x) H2) (E σ)) :
    wpAny (model X.prog X.w) X.A (call (.ref C) us) (EP X pins σ Q) X.xe s := by
  have hq := h (s.heap.objs.size + 1) s.heap.objs.size (I.hok.fresh (Nat.le_succ _)) (I.hok.fresh (Nat.le_refl _)) (Nat.ne_of_lt (Nat.lt_succ_self _))
  have I2 := Inv.made (C := C) I
  have r2 : Vals (V.ref (s.heap.objs.size + 1) :: (vs ++ dvs)) (Value.ref (s.heap.objs.size + 1) :: (us ++ ds)) := .cons rfl (r.append hd)
  have hl : (Value.ref (s.heap.objs.size + 1) :: us ++ ds).length = ps.length := by
    have e := r2.length
    rw [F.len _ _ _ _ hq] at e
    exact e.symm
  refine wpAny_call (make_map (f := f) I.kIn M.makes M.init (beq_iff_eq.mp M.fn) (codeAny_mono (F.run _ X.stack _ _ ⟨Value.ref (s.heap.objs.size + 1) :: us, []⟩ (Value.ref (s.heap.objs.size + 1) :: (us ++ ds)) _ _ (E σ) (hr.make C us [])
    (I2.env0.make C us []) (hb _ (Value.ref (s.heap.objs.size + 1) :: us) I2.kIn hl) r2 hq) fun r s' hq' => ?_))
  cases r with
  | error e => exact hx pins _ _ e s' I2 hq'
  | ok fl =>
    cases fl with
    | ret u =>
      obtain ⟨v, H', I3, rv, ev, q3⟩ := I2.after hq'
      subst ev
      exact ⟨rv, ⟨V.ref (s.heap.objs.size + 1), H', I3, rfl, q3⟩⟩
    | next => exact False.elim hq'
    | brk => exact False.elim hq'
    | cont => exact False.elim hq'
theorem pe_makeS (M : Mk X.K C f) (F : FnOk X.prog X.w X.K X.mg X.base CX k f fd ps sp) (hr : Room (k + 1) X.A) (hg : Gl X x) (hm : X.mg x = some (.ref C)) (hb : Binds X.K fd ps []) (hx : ∀ σ, PassesAt CX X σ (E σ))
    (ha : PA X (e :: es) t) (hdb : (x == ("__debug__" : Str)) = false := by decide) (he : starEach (e :: es) X.env = (false, eval e X.env) :: starEach es X.env := by rfl) (hpl : (backTo pos (starEach es X.env)).any (·.1) = false := by rfl) :
    PE X (.Call (.Name x p) (e :: es) [] pos) (tMakeS C sp E t) := by
  refine ⟨fun pins s σ H Q I h => ?_⟩
  refine wpAny_Call_Name_kw (ld_glob I hg hm ?_ hdb)
  refine PySem.W.callWith_K (h₀ := X.base) I.ok.mod.kin M.kp (thn (ha.run pos pins s σ H _ I h) fun us s1 ⟨vs, H1, I1, r, q⟩ => ⟨I1.kIn, ?_⟩) he hpl
  exact run_makeS (dvs := []) M F hr hb .nil (hx σ) I1 r q
end
def eMake (c : Nat) (F : Fn) (g : Av) : Ev := fun fr => (g fr).bind fun ds fr1 => if ds.all pers = true then (match F (.obj c [] [] :: ds) with
  | .ok .non (o :: _) => .ok o fr1
  | .exc k fs _ => .exc k fs fr1
  | _ => .bad) else .bad
section
variable {B : Bd} {fr : Fr} {σ : L2.St} {H Hv H' Hv' : Hp} {ds outs : List D} {vs : List V}
/-- after C's __init__ at x -/
theorem nxt_make (R : Rel B fr σ H Hv) {x dx C : Addr} (hx : H x = none) (hdx : H dx = none) {n : Nat} (f : FinC B.G (true :: List.replicate n false) outs (.ref x :: vs) (upd (upd H dx (.own x)) x (.ins C dx [])) Hv H' Hv') : Nxt B fr σ H Hv fr H' Hv' := by
  have io : ∀ {b}, ioA (true :: List.replicate n false) (.ref x :: vs) b → b = x := fun {b} ⟨i, h1, h2⟩ => by
    cases i with
    | zero => cases h2; rfl
    | succ i =>
      rw [List.getElem?_cons_succ, List.getElem?_replicate] at h1
      split at h1 <;> cases h1
  have up : ∀ {b o}, H b = some o → upd (upd H dx (.own x)) x (.ins C dx []) b = some o ∧ b ≠ x := fun {b o} h => by
    rw [upd_ne (ne_of_none h hx), upd_ne (ne_of_none h hdx)]
    exact ⟨h, ne_of_none h hx⟩
  have kp : ∀ b o, H b = some o → b ∉ B.G.tabs → H' b = some o := fun b o h ht => f.keep b o (up h).1 (fun q => (up h).2 (io q)) ht
  have none_of : ∀ {b}, upd (upd H dx (.own x)) x (.ins C dx []) b = none → H b = none := fun {b} z => by
    cases e : H b with
    | none => rfl
    | some u => rw [(up e).1] at z; cases z
  refine ⟨⟨f.sub, R.ext0.trans f.ext, fun b o h => ?_, fun b o h hi ht => kp b o (R.keep b o h hi ht) ht, R.len, fun i d e hm => ?_, fun i d e hc hm => ?_, fun i d e hm => ?_, R.sep, R.io, f.tab⟩, f.ext, fun b o h _ nt => kp b o h nt, .refl _ _, fun b o h => ?_, fun b o h => ?_⟩
  · rcases f.new b o h with z | z
    · exact R.new b o z
    · exact .inr (z.imp (fun z => R.h0_none (none_of z)) id)
  · obtain ⟨v, hs, hr⟩ := R.val i d e hm
    exact ⟨v, hs, Rep.mono f.ext _ _ hr⟩
  · obtain ⟨e2, v, z, hs, hr⟩ := R.box i d e hc hm
    exact ⟨e2, v, z, hs, hr.imp (Rep.mono f.ext _ _) id⟩
  · obtain ⟨a, hs, hva, hn, hc⟩ := R.own i d e hm
    obtain ⟨⟨u, hu⟩, _, nt⟩ := R.own_some ⟨i, d, hm, e, hs⟩
    refine ⟨a, hs, ?_, hn, hc.mono f.ext ((kp a u hu nt).trans hu.symm)⟩
    cases q : Hv' a with
    | none => rfl
    | some o =>
      rcases f.new a o q with z | z | ⟨ws, z⟩
      · rw [hva] at z; cases z
      · rw [(up hu).1] at z; cases z
      · have h1 := f.sub a o q
        rw [kp a u hu nt, z] at h1
        cases h1
        exact (hc.not_tup hu).elim
  · by_cases ht : b ∈ B.G.tabs
    · obtain ⟨⟨ps, e, _⟩, _⟩ := f.tab b ht
      exact ⟨_, e⟩
    · exact ⟨o, kp b o h ht⟩
  · rcases f.new b o h with z | z
    · exact .inl z
    · exact .inr (.inl (z.imp none_of id))
theorem start_make (R : Rel B fr σ H Hv) {x dx : Addr} {c : Nat} (hx : H x = none) (hdx : H dx = none) (ne : dx ≠ x) (r : RepL B.G Hv ds vs) : Start B.G (true :: List.replicate ds.length false) (.obj c [] [] :: ds) (.ref x :: vs) (upd (upd H dx (.own x)) x (.ins (B.G.cls c) dx [])) Hv where
  sub := fun b u h => by
    have := R.sub b u h
    rw [upd_ne (ne_of_none this hx), upd_ne (ne_of_none this hdx)]
    exact this
  tab := fun P hP => by
    obtain ⟨⟨ps, e, t⟩, v⟩ := R.tab P hP
    exact ⟨⟨ps, by rw [upd_ne (ne_of_none e hx), upd_ne (ne_of_none e hdx)]; exact e, t⟩, v⟩
  lend := by simp
  lenv := by simp [r.length]
  val := fun i d hm hd => by
    cases i with
    | zero => cases hm
    | succ i => exact r.get hd
  own := fun i d hm hd => by
    cases i with
    | zero =>
      have e : D.obj c [] [] = d := Option.some.inj hd
      subst e
      exact ⟨x, rfl, R.hv_none hx, dx, [], upd_same, rfl, .nil⟩
    | succ i =>
      rw [List.getElem?_cons_succ, List.getElem?_replicate] at hm
      split at hm <;> cases hm
  sep := fun i j a hij hi hj => by
    have z : ∀ {i : Nat}, (true :: List.replicate ds.length false)[i]? = some true → i = 0 := fun {i} h => by
      cases i with
      | zero => rfl
      | succ i =>
        rw [List.getElem?_cons_succ, List.getElem?_replicate] at h
        split at h <;> cases h
    exact absurd ((z hi).trans (z hj).symm) hij
variable {X : Cx} {W : WX} {e : Expr} {es : List Expr} {g : Av} {k : Nat} {f : Addr} {fd : FuncData} {ps : List Str} {F : Fn} {x : Str} {p pos : Pos} {c : Nat}
theorem d_make (n : Nat) (M : Mk X.K (B.G.cls c) f) (Fk : FnOk X.prog X.w X.K X.mg X.base (L2N.CX X.prog X.w) k f fd ps (spOf B.G (true :: List.replicate n false) false F)) (hn : ∀ fr ds fr1, g fr = .ok ds fr1 → ds.length = n) (hr : Room (k + 1) X.A) (hm : X.mg x = some (.ref (B.G.cls c))) (hb : Binds X.K fd ps []) (tk : ∀ σ, PassesAt (L2N.CX X.prog X.w) X σ (WE W σ))
    (ha : DA X B W (e :: es) g) (hg : Gl X x := by rfl) (hdb : (x == ("__debug__" : Str)) = false := by decide) (he : starEach (e :: es) X.env = (false, eval e X.env) :: starEach es X.env := by rfl) (hpl : (backTo pos (starEach es X.env)).any (·.1) = false := by rfl) :
    DF X B W (.Call (.Name x p) (e :: es) [] pos) (eMake c F g) := by
  refine pe_imp (pe_makeS M Fk hr hg hm hb tk ha hdb he hpl) fun σ H Q h => ?_
  obtain ⟨fr, Hv, R, h⟩ := h
  refine ⟨fr, Hv, R, ?_⟩
  unfold eMake at h
  cases hgf : g fr with
  | bad => rw [hgf] at h; exact h.elim
  | exc c fs fr1 => rw [hgf] at h; exact h
  | ok ds fr1 =>
    have hlen := hn _ _ _ hgf
    rw [hgf] at h
    dsimp only [Res.bind] at h
    intro vs H1 Hv1 n1 rws x dx hx hdx ne
    split at h
    · next hp =>
      have rl := pers_repL rws hp
      rw [List.append_nil]
      refine ⟨.obj c [] [] :: ds, Hv1, by rw [← hlen]; exact start_make n1.rel hx hdx ne rl, ?_⟩
      split at h
      · next o outs hF =>
        rw [hF]
        intro v H' Hv' fin ret
        have ret : Rep B.G Hv' .non v := by
          unfold RetR at ret
          rwa [if_neg Bool.false_ne_true] at ret
        refine ⟨Rep.non_iff.mp ret, ?_⟩
        obtain ⟨h1, d, hd, hcell⟩ := fin.io 0 x rfl rfl
        cases hd
        exact h x H' Hv' (n1.trans (nxt_make n1.rel hx hdx fin)) (n1.none R hx) h1 hcell
      · next k fs outs hF =>
        rw [hF]
        intro dd H' Hv' fin ex
        exact h dd H' Hv' (n1.trans (nxt_make n1.rel hx hdx fin)) ex
      · exact (h : False).elim
    · exact (h : False).elim
end
def putN (n : Nat) (d : D) : List Nat → List D → List Nat × List D
  | [], _ => ([n], [d])
  | m :: ns, e :: fs => if m = n then (m :: ns, d :: fs) else (m :: (putN n d ns fs).1, e :: (putN n d ns fs).2)
  | m :: ns, [] => (m :: ns, [])
def sFldS (i n : Nat) (cs : List Nat) (f : Ev) : Sv := fun fr => (f fr).bind fun d fr1 => if pers d = true then (match fr1[i]? with
  | some (some (.obj c ns fs)) => if c ∈ cs then (if ns.length < 1000 then .ok .nx (fr1.set i (some (.obj c (putN n d ns fs).1 (putN n d ns fs).2))) else .bad) else .bad
  | _ => .bad) else .bad
theorem putN_ok {G : SE} {Hv : Hp} {n : Nat} {d : D} {v : V} (inj : ∀ m, G.fld m = G.fld n → m = n) (hr : Rep G Hv d v) : ∀ {ns : List Nat} {fs : List D} {vs : List V}, ns.length = vs.length → RepL G Hv fs vs →
    ∃ vs', putF (G.fld n) v ((ns.map G.fld).zip vs) = (((putN n d ns fs).1.map G.fld).zip vs') ∧ (putN n d ns fs).1.length = vs'.length ∧ RepL G Hv (putN n d ns fs).2 vs'
  | [], fs, vs, hl, r => by
    have e : vs = [] := List.eq_nil_of_length_eq_zero hl.symm
    subst e
    exact ⟨[v], rfl, rfl, .cons hr .nil⟩
  | m :: ns, [], vs, hl, r => by
    rw [r.nil_inv] at hl
    cases hl
  | m :: ns, e :: fs, vs, hl, r => by
    obtain ⟨u, t, rfl, h1, h2⟩ := r.cons_inv
    by_cases q : m = n
    · subst q
      refine ⟨v :: t, ?_, ?_, ?_⟩
      · rw [List.map_cons, List.zip_cons_cons, putF, if_pos rfl, putN, if_pos rfl]
        rfl
      · rw [putN, if_pos rfl]
        simpa using hl
      · rw [putN, if_pos rfl]
        exact .cons hr h2
    · obtain ⟨vs', e1, e2, e3⟩ := putN_ok inj hr (by simpa using hl) h2
      refine ⟨u :: vs', ?_, ?_, ?_⟩
      · rw [List.map_cons, List.zip_cons_cons, putF, if_neg (fun z => q (inj m z)), putN, if_neg q, e1]
        rfl
      · rw [putN, if_neg q]
        simpa using e2
      · rw [putN, if_neg q]
        exact .cons h1 e3
section
variable {X : Cx} {B : Bd} {W : WX} {rf : Bool} {e : Expr} {f : Ev} {pos pos' np : Pos} {i n : Nat} {x y : Str} {cs : List Nat}
theorem s_fldS (hi : i ∈ B.M) (he : DE X B W e f) (hx : x = B.G.fld n) (inj : ∀ m, B.G.fld m = B.G.fld n → m = n) (hc : ∀ c ∈ cs, Cls X.K (B.G.cls c) ∧ NoAttr X.K (B.G.cls c) x) (hN : X.N[i]? = some y := by rfl) (hv : Vis X.env.scope y := by first | exact Or.inl rfl | exact Or.inr (Or.inl rfl) | exact Or.inr (Or.inr rfl)) (hd : (y == ("__debug__" : Str)) = false := by decide) (hcd : (y == ("__classdict__" : Str)) = false := by decide)
    (hs : swapsWith e (some (.Attribute (.Name y np) x pos')) pos.line X.env = pure false := by rfl) : DS X B W rf (.Assign [.Attribute (.Name y np) x pos'] e pos) (sFldS i n cs f) := by
  refine ps_imp (ps_fld (pe_var hN hv hd hcd) he hs) fun D σ H hh => ?_
  obtain ⟨fr, Hv, R, hh⟩ := hh
  refine ⟨fr, Hv, R, ?_⟩
  unfold sFldS at hh
  cases hg : f fr with
  | bad => rw [hg] at hh; exact hh.elim
  | exc c fs fr1 =>
    rw [hg] at hh
    exact fun dd H' Hv' m => hh dd σ H' Hv' m.rel m.ext
  | ok d fr1 =>
    rw [hg] at hh
    dsimp only [Res.bind] at hh
    intro v H1 Hv1 n1 r
    split at hh
    · next hp =>
      have r := r.rep fun i z => by rw [z] at hp; cases hp
      split at hh
      · next c ns fs ei =>
        split at hh
        · next hcc =>
          split at hh
          · next hlen =>
            obtain ⟨a, hsl, hva, hn, dx, vs, ea, hl, rl⟩ := n1.rel.own i _ ⟨ei, rfl⟩ hi
            obtain ⟨c1, c2⟩ := hc c hcc
            obtain ⟨vs', e1, e2, e3⟩ := putN_ok inj r hl rl
            refine ⟨_, hsl, a, _, dx, _, rfl, ea, c1, c2, ?_, ?_⟩
            · rw [List.length_zip, List.length_map]
              omega
            · have hcell : Cell B.G (upd H1 a (.ins (B.G.cls c) dx (putF x v ((ns.map B.G.fld).zip vs)))) Hv1 a (.obj c (putN n d ns fs).1 (putN n d ns fs).2) := ⟨dx, vs', by rw [upd_same, hx, e1], e2, e3⟩
              have m := n1.rel.mut hi ⟨ei, rfl⟩ hsl hcell
              exact hh σ _ Hv1 m.rel (n1.ext.trans m.ext)
          · exact (hh : False).elim
        · exact (hh : False).elim
      · exact (hh : False).elim
    · exact (hh : False).elim
end
theorem passLN {X : Cx} : Passes (L2N.CX X.prog X.w) X (fun _ _ _ => False) := fun _ _ _ _ _ _ _ h => by
  obtain ⟨_, _, _, _, _, _, _, _, _, _, _, _, z⟩ := h
  exact z.elim
theorem takes0N {X : Cx} : L2N.Takes X (fun _ _ _ _ => False) := fun u s' x => by
  obtain ⟨_, _, _, _, _, _, _, _, _, _, _, _, _, _, _, _, w⟩ := x
  exact False.elim w
section
variable {X : Cx} {e : Expr} {es : List Expr} {ta : TA} {p pos : Pos}
/-- an own exception made: its context is None -/
theorem pmk_oexN {CX : CXT} {x : Str} {C fI : Addr} {k : Nat} {fd : FuncData} {ps : List Str} {sp : Sp} {ds : List Value} {dvs : List V} (T : OexC X.K C) (iC : PySem.W.findIn X.K (.ref C) "__init__" = some (some (.ref fI))) (tI : PySem.W.typeIn X.K (.ref fI) = some (.type "function"))
    (F1 : FnOk X.prog X.w X.K X.mg X.base CX k fI fd ps sp) (hr : Room (k + 1) X.A) (hb : Binds X.K fd ps ds) (hd : Vals dvs ds) (hx : Passes CX X (fun _ _ _ => False)) (hg : Gl X x) (hm : X.mg x = some (.ref C)) (ha : PA X (e :: es) ta)
    (hdb : (x == ("__debug__" : Str)) = false := by decide) (he : starEach (e :: es) X.env = (false, eval e X.env) :: starEach es X.env := by rfl) (hpl : (backTo pos (starEach es X.env)).any (·.1) = false := by rfl) :
    L2N.PMk X (.Call (.Name x p) (e :: es) [] pos) (tMkO C sp dvs ta) := by
  intro pins s σ H Q I h
  obtain ⟨nm, q, N, bs, bm, sn, sub, ab, col, dd, k0, k1, k2, k3, k5, hC, hbm⟩ := T.cls
  refine wpAny_Call_Name_kw (ld_glob I hg hm ?_ hdb)
  refine PySem.W.callWith_K (h₀ := X.base) I.ok.mod.kin T.kC (thn (ha.run pos pins s σ H _ I h) fun us s1 ⟨vs, H1, I1, r1, hz, q1⟩ => ⟨I1.kIn, ?_⟩) he hpl
  show wpAny _ _ (call (.ref C) us) _ _ _
  obtain ⟨hp, g, dr, tk, os⟩ := s1
  have hsz : hp.objs.size ≤ hp.objs.size + 1 := Nat.le_succ _
  have hn : H1 (hp.objs.size + 1) = none := I1.hok.fresh hsz
  have hq := q1 (hp.objs.size + 1) hn
  have kk : ∀ b o, hp.get? b = some o → ((hp.push (PySem.W.kdv_tup us)).push (PySem.HandSPX.excO C hp.objs.size)).get? b = some o := fun b o e => Heap.get?_push_of_some _ (Heap.get?_push_of_some _ e)
  have hget : ((hp.push (PySem.W.kdv_tup us)).push (PySem.HandSPX.excO C hp.objs.size)).get? (hp.objs.size + 1) = some (PySem.HandSPX.excO C hp.objs.size) := by heap_get
  have I2 : Inv X pins σ (upd H1 (hp.objs.size + 1) (exo (hp.objs.size + 1) C none)) ⟨(hp.push (PySem.W.kdv_tup us)).push (PySem.HandSPX.excO C hp.objs.size), g, dr, tk, os⟩ :=
    I1.laid (t' := tk) (a := hp.objs.size + 1) (o := exo (hp.objs.size + 1) C none) (h' := (hp.push (PySem.W.kdv_tup us)).push (PySem.HandSPX.excO C hp.objs.size)) kk hsz (exo_ok hget)
  have r2 : Vals (V.ref (hp.objs.size + 1) :: (vs ++ dvs)) (Value.ref (hp.objs.size + 1) :: (us ++ ds)) := .cons rfl (r1.append hd)
  have hl : (Value.ref (hp.objs.size + 1) :: us ++ ds).length = ps.length := by
    have e := r2.length
    rw [F1.len _ _ _ _ hq] at e
    exact e.symm
  have hus : us.length ≤ sizeLine := by
    rw [← Paired.length r1, sizeLine_eq]
    omega
  refine wpAny_call (PySem.HandSPX.call_own PySem.F.excBase_ValueError (fun Y => PySem.HandSPX.refsVE_contains Y bm hbm) (I1.kIn _ _ hC) (PySem.W.looks_findIn I1.kIn iC) (fun self => PySem.W.bind_fn I1.kIn self tI) hus
    (codeAny_mono (F1.run _ X.stack _ _ ⟨Value.ref (hp.objs.size + 1) :: us, []⟩ (Value.ref (hp.objs.size + 1) :: (us ++ ds)) _ _ (fun _ _ _ => False) (hr.make C us []) (I2.env0.make C us []) (hb _ (Value.ref (hp.objs.size + 1) :: us) I2.kIn hl) r2 hq) fun r s' hq' => ?_))
  cases r with
  | error er => exact hx pins σ _ _ er s' I2 hq'
  | ok fl =>
    cases fl with
    | ret u =>
      obtain ⟨v, H2, os2, bare2, un2, hok2, rv, ev, d, fs, ea, ed, hd1, q2⟩ := hq'
      subst ev
      obtain ⟨h2, g2, d2, t2, os'⟩ := s'
      obtain ⟨t0, G, J, kG, ge, hoe, na⟩ := mk_end0 (d2 := d2) (t2 := t2) I1 hsz kk un2 hok2 os2 bare2 ea ed hd1
      exact ⟨rv, ⟨_, _, _, ⟨G, g2, d2, t2, os'⟩, _, .ref C, some d, rfl, J, kG, ge, hoe, ⟨rfl, rfl, fun vs e => by cases e; rfl⟩, rfl, rfl, na, rfl, bare2, raises_own T.exC T.tyC, q2⟩⟩
    | next => exact False.elim hq'
    | brk => exact False.elim hq'
    | cont => exact False.elim hq'
end
/-- what the __init__ of an exception's class gives: its fields in its dict -/
def oexSp (C : Addr) (nms : List Str) : Sp := fun vs H Q E => ∃ a ws, vs = .ref a :: ws ∧ ws.length = nms.length ∧ H a = some (exo a C none) ∧
  ∀ d l, H d = none → d ≠ a → (∀ (k : Nat) (n : Str) (v : V), nms[k]? = some n → ws[k]? = some v → l.lookup n = some v) → Q .non (upd (upd H d (exd d l)) a (exo a C (some d)))
def sRaise (c n : Nat) (g : Av) : Sv := fun fr => (g fr).bind fun ds fr1 => if ds.all pers = true ∧ ds.length = n then .exc c ds fr1 else .bad
section
variable {X : Cx} {B : Bd} {W : WX} {rf : Bool} {e : Expr} {es : List Expr} {g : Av} {k : Nat} {f : Addr} {fd : FuncData} {ps : List Str} {x : Str} {p pos cpos : Pos} {c n : Nat}
theorem s_raise (T : OexC X.K (B.G.ecls c)) (iC : PySem.W.findIn X.K (.ref (B.G.ecls c)) "__init__" = some (some (.ref f))) (tI : PySem.W.typeIn X.K (.ref f) = some (.type "function")) (Fk : FnOk X.prog X.w X.K X.mg X.base (L2N.CX X.prog X.w) k f fd ps (oexSp (B.G.ecls c) (B.G.efld c))) (hr : Room (k + 1) X.A) (hb : Binds X.K fd ps []) (hm : X.mg x = some (.ref (B.G.ecls c)))
    (hn : (B.G.efld c).length = n) (hn9 : n ≤ 900) (hc : X.calm = true) (tk : L2N.Takes X W) (ha : DA X B W (e :: es) g) (hg : Gl X x := by rfl) (hdb : (x == ("__debug__" : Str)) = false := by decide) (he : starEach (e :: es) X.env = (false, eval e X.env) :: starEach es X.env := by rfl) (hpl : (backTo cpos (starEach es X.env)).any (·.1) = false := by rfl) :
    DS X B W rf (.Raise (some (.Call (.Name x p) (e :: es) [] cpos)) none pos) (sRaise c n g) := by
  refine ps_imp (L2N.ps_raise hc tk (pmk_oexN T iC tI Fk hr hb .nil passLN hg hm ha hdb he hpl)) fun D σ H hh => ?_
  obtain ⟨fr, Hv, R, hh⟩ := hh
  refine ⟨fr, Hv, R, ?_⟩
  unfold sRaise at hh
  cases hgf : g fr with
  | bad => rw [hgf] at hh; exact hh.elim
  | exc c fs fr1 =>
    rw [hgf] at hh
    exact fun dd H' Hv' m => hh dd σ H' Hv' m.rel m.ext
  | ok ds fr1 =>
    rw [hgf] at hh
    dsimp only [Res.bind] at hh
    intro vs H1 Hv1 n1 rws
    split at hh
    · next hp =>
      have rl := pers_repL rws hp.1
      have hvl := rl.length
      refine ⟨by omega, fun a hna => ⟨a, vs, by rw [List.append_nil], by omega, upd_same, fun d l hd hda hl => ⟨rfl, d, l, upd_same, ?_, ?_, ?_⟩⟩⟩
      · rw [upd_ne hda, upd_same]
      · rw [upd_ne hda] at hd
        exact hd
      · have hdn : H1 d = none := by rw [upd_ne hda] at hd; exact hd
        have key : upd (del (upd (upd (upd H1 a (exo a (B.G.ecls c) none)) d (exd d l)) a (exo a (B.G.ecls c) (some d))) a) d (.xd l) = upd H1 d (.xd l) := by
          funext b
          by_cases hbd : b = d
          · rw [hbd, upd_same, upd_same]
          · rw [upd_ne hbd, upd_ne hbd]
            by_cases hba : b = a
            · rw [hba, del_same, hna]
            · rw [del_ne hba, upd_ne hba, upd_ne hbd, upd_ne hba]
        rw [key]
        refine hh d σ _ Hv1 (n1.rel.lay hdn) n1.ext ⟨l, upd_same, by omega, fun k nm dk e1 e2 => ?_⟩
        obtain ⟨v, h1, h2⟩ := rl.get e2
        exact ⟨v, hl k nm v e1 h1, h2⟩
    · exact (hh : False).elim
end
end KS
namespace KS
open PySem PySem.Spec PyProof.Rows L2
open PySem.W (EachIs AllAlike Sortable list_sort_data dataLe dataLe_ii alike alikeAll)
section
variable {prog : Program} {w : World}
def RawD (d : Addr) (es : Array DictEntry) (ep : Nat) (h : Heap) : Prop := ∃ o, h.get? d = some o ∧ o.ExactDict ∧ o.data = .dict es ep
theorem kdl_raw {d : Addr} {es : Array DictEntry} {ep : Nat} (lo : (d == sysModules) = false) : PySem.W.KdlSrc prog w "dict" d d es.size (fun i v => ∃ en, es[i]? = some en ∧ v = en.key) (RawD d es ep) where
  type := fun _ ⟨o, ho, hx, _⟩ => ⟨o, ho, hx.1⟩
  there := fun _ ⟨o, ho, _⟩ => ⟨Heap.lt_size ho, Heap.lt_size ho⟩
  keep := fun _ _ ⟨o, ho, r⟩ hk => ⟨o, hk d (.inl rfl) o ho, r⟩
  notList := by decide
  notTuple := by decide
  hint := fun _ _ _ _ ⟨o, ho, hx, _⟩ hq => PySem.W.kdl_hint_dict ⟨o, ho, hx.1⟩ hq
  iter := fun A s hh hm => by
    obtain ⟨o, ho, hx, hdt⟩ := hm
    have hlt : d < s.heap.objs.size := Heap.lt_size ho
    refine ⟨_, fun i h => h.IsKeyIter s.heap.objs.size d i es.size ep ∧ RawD d es ep h, (fun _ _ hq => iter_keys lo ho hx hdt hq), ⟨fun b hb => ?_, fun i h h' st k => ?_, fun i s' Q E hi st hq => ?_, fun s' Q E st hq => ?_, fun i s' Q E st hq => ?_⟩, ⟨_, Heap.get?_push_size _ rfl, rfl, rfl⟩, o, Heap.get?_push_of_some _ ho, hx, hdt⟩
    · rw [List.mem_singleton.mp hb]
      exact List.mem_cons_self ..
    · obtain ⟨st, o', ho', r⟩ := st
      exact ⟨st.at fun oi e => k _ (by simp) oi e, o', k d (by simp) _ ho', r⟩
    · obtain ⟨st, o', ho', hx', hd'⟩ := st
      have hen : es[i]? = some es[i] := by simp [hi]
      refine next_key_item st ho' hd' rfl hen fun h' st' sb => ?_
      exact hq _ h' s'.toks ⟨_, hen, rfl⟩ ⟨st', o', (sb.2 d (Nat.ne_of_lt hlt)).trans ho', hx', hd'⟩ fun b o hb e => (sb.2 b (fun z => hb (by simp [z]))).trans e
    · obtain ⟨st, o', ho', hx', hd'⟩ := st
      exact next_key_end hh st ho' hd' rfl (Nat.le_refl _) fun h' eb => hq h' s'.toks fun b o hb e => eb b o (fun z => hb (by simp [z])) e
    · exact wpAny_pyIter_keyiter st.1 hq
end
abbrev PP := Int × Int
def kP (p : PP) : List L2.Key := [.inl p.1, .inl p.2]
def vP (p : PP) : List V := [.int p.1, .int p.2]
def leP (p q : PP) : Bool := decide (p.1 < q.1 ∨ (p.1 = q.1 ∧ p.2 ≤ q.2))
def rSortDP : List V → Hp → VK → Prop := fun vs H Q => ∃ (a : Addr) (kvs : List (List L2.Key × V)) (ks : List PP), vs = [.ref a] ∧ H a = some (.dT kvs) ∧ kvs.map (·.1) = ks.map kP ∧
  ∀ (qs : List Addr) (p : Addr), H p = none → qs.length = ks.length → (∀ (i : Nat) (q : Addr) (z : PP), qs[i]? = some q → (ks.mergeSort leP)[i]? = some z → H q = some (.tup (vP z))) → Q (.ref p) (upd H p (.lst (qs.map V.ref)))
theorem ints2 {u : List Value} {i j : Int} (r : Vals [.int i, .int j] u) : ∃ t1 t2, u = [.int i t1, .int j t2] := by
  cases r with
  | cons h1 r =>
    cases r with
    | cons h2 r =>
      cases r
      obtain ⟨t1, rfl⟩ := h1
      obtain ⟨t2, rfl⟩ := h2
      exact ⟨t1, t2, rfl⟩
theorem eachIs_get {α β : Type} {R : α → β → Prop} : ∀ {l : List α} {m : List β}, l.length = m.length → (∀ (i : Nat) (a : α) (b : β), l[i]? = some a → m[i]? = some b → R a b) → EachIs R l m
  | [], [], _, _ => .nil
  | a :: l, b :: m, hl, h => .cons (h 0 a b rfl rfl) (eachIs_get (by simpa using hl) fun i a b e f => h (i + 1) a b (by simpa using e) (by simpa using f))
  | [], _ :: _, hl, _ => by simp at hl
  | _ :: _, [], hl, _ => by simp at hl
theorem get_eachIs {α β : Type} {R : α → β → Prop} {l : List α} {m : List β} (h : EachIs R l m) : ∀ (i : Nat) (a : α) (b : β), l[i]? = some a → m[i]? = some b → R a b := by
  induction h with
  | nil => intro i a b e; simp at e
  | cons h t ih =>
    intro i a b e f
    cases i with
    | zero => cases e; cases f; exact h
    | succ i => exact ih i a b (by simpa using e) (by simpa using f)
theorem cr_sortedDP {X : Cx} (hc : X.calm = true) (hu : X.A.units + 16 < cLine) : CallR X (.builtin "sorted") rSortDP := by
  intro pins s σ H xs us Q I r h
  obtain ⟨a, kvs, ks, ex, ha, hks, q⟩ := h
  subst ex
  obtain ⟨u, eu, rx⟩ := vals1 r
  subst eu
  cases rx
  obtain ⟨z, hd, xs', rel, o, es, ep, ho, hx, hdat, hes, his, hn⟩ := dt_of I.hok ha
  have l1 : kvs.length = xs'.length := Paired.length rel
  have l2 : es.size = xs'.length := size_of_entries hes
  have l3 : kvs.length = ks.length := by
    have e := congrArg List.length hks
    rwa [List.length_map, List.length_map] at e
  have hh : X.A.handled = none := I.ok.hd hc
  refine Calls.call_function_entry PyProof.Rows.kind_sorted PyProof.Rows.plain_sorted PyProof.Rows.entry_sorted (PyProof.Rows.args_sorted1 _) ?_
  unfold Builtin.«sorted»
  refine wpAny_bind (m := checkCount "sorted" 1 1 _) (wpAny_pure ?_)
  refine wpAny_bind (PySem.W.kdu_collect (A := X.A.in1) (kdl_raw (es := es) (ep := ep) hd) hh ⟨o, ho, hx, hdat⟩ (by omega) fun h' tk acc hk hacc => ?_)
  have hal : acc.toList.length = ks.length := by rw [Array.length_toList, hacc.1]; omega
  -- the i-th value that was drawn is the i-th key's tuple
  have key : ∀ (i : Nat) (v : Value) (p : PP), acc.toList[i]? = some v → ks[i]? = some p → ∃ qa : Addr, v = .ref qa ∧ H qa = some (.tup (vP p)) := by
    intro i v p e1 e2
    obtain ⟨en, e3, rfl⟩ := hacc.2 i v (by rw [← Array.getElem?_toList]; exact e1)
    rw [entry_at hes i] at e3
    cases hxj : xs'[i]? with
    | none => rw [hxj] at e3; exact nomatch (show (none : Option DictEntry) = some en from e3)
    | some x =>
      rw [hxj] at e3
      have een : entryOfKey (tupleKind (mixKind X.prog X.w)) x = en := Option.some.inj e3
      obtain ⟨e0, he0, r1, r2, r3⟩ := DX.pget rel hxj
      have e4 : (kvs.map (·.1))[i]? = some e0.1 := by rw [List.getElem?_map, he0]; rfl
      rw [hks, List.getElem?_map, e2] at e4
      have e5 : kP p = e0.1 := Option.some.inj e4
      refine ⟨x.2.1, by rw [← een]; rfl, ?_⟩
      rw [← e5] at r2
      exact r2
  have I1 : Inv X pins σ H { s with heap := h', toks := tk } := I.kept hk
  refine wpAny_bind (wpAny_newList ?_ (by rw [hal]; omega))
  have hoL : (h'.push (seqObj "list" acc.toList.toArray 0)).get? h'.objs.size = some (seqObj "list" acc.toList.toArray 0) := Heap.get?_push_size _ rfl
  show wpAny _ _ _ _ _ { s with heap := h'.push (seqObj "list" acc.toList.toArray 0), toks := tk }
  let enc : PP → PyData := fun b => .tuple [.int b.1, .int b.2]
  have hR : EachIs (fun (v : Value) (p : PP) => ∃ qa : Addr, v = .ref qa ∧ H qa = some (.tup (vP p))) acc.toList ks := eachIs_get hal key
  have hrd : EachIs (fun (v : Value) (p : PP) => ∃ as, Reads (h'.push (seqObj "list" acc.toList.toArray 0)) v (enc p) as ∧ h'.objs.size ∉ as) acc.toList ks := eachIs_get hal fun i v p e1 e2 => by
    obtain ⟨qa, rfl, hq⟩ := key i v p e1 e2
    obtain ⟨_, its, rv, oq, g1, g2, n, g3⟩ := (show ObjOk X.prog X.w H h' qa (.tup (vP p)) from I1.hok qa _ hq)
    obtain ⟨t1, t2, rfl⟩ := ints2 rv
    exact ⟨[], .tuple (Heap.get?_push_of_some _ g1) g2 g3 (.cons (as := []) (bs := []) (.int _ _) (.cons (as := []) (bs := []) (.int _ _) .nil)), by simp⟩
  have hal2 : AllAlike (ks.map enc) := AllAlike.of fun b b' => by simp [enc, alike, alikeAll]
  have hsr : Sortable (ks.map enc) := Sortable.tuples fun b => ⟨_, _, rfl⟩
  refine wpAny_bind (wpAny_holding (list_sort_data (s := { s with heap := h'.push (seqObj "list" acc.toList.toArray 0), toks := tk }) hoL hR hrd hal2 hsr (by omega) (fun b _ => ?_) fun out g1 g2 => ?_))
  · show X.A.in1.units + 1 + (enc b).depth < cLine
    have e1 : (enc b).depth ≤ 8 := by simp [enc, PyData.depth, PyData.depthAll]
    have e2 : X.A.in1.units = X.A.units + 1 := rfl
    omega
  obtain ⟨e', he'⟩ := PyProof.Rows.sortedHeap_at (vs := acc.toList) (out := out.toArray) hoL
  have hdl : dataLe false enc = leP := by
    have := dataLe_ii (β := PP) (fun b => b.1) (fun b => b.2)
    exact this
  rw [hdl] at g2
  -- the addresses
  obtain ⟨qs, rfl⟩ : ∃ qs : List Addr, out = qs.map Value.ref := by
    clear he' hdl g1
    generalize ks.mergeSort leP = m at g2
    induction g2 with
    | nil => exact ⟨[], rfl⟩
    | cons h t ih =>
      obtain ⟨qa, rfl, _⟩ := h
      obtain ⟨qs, rfl⟩ := ih
      exact ⟨qa :: qs, rfl⟩
  have hlen : (qs.map V.ref).length ≤ sizeLine := by
    rw [List.length_map] at g1 ⊢
    omega
  have rv : Vals (qs.map V.ref) (qs.map Value.ref) := by
    clear he' hdl g1 g2 hlen
    induction qs with
    | nil => exact .nil
    | cons q qs ih => exact .cons rfl ih
  refine wpAny_pure ⟨_, rfl, .ref h'.objs.size, upd H h'.objs.size (.lst (qs.map V.ref)), I1.laid (t' := tk) (fun b u e => ?_) (Nat.le_refl _)
    (show ObjOk X.prog X.w _ _ _ (.lst (qs.map V.ref)) from ⟨hlen, qs.map Value.ref, e', rv, he'⟩), rfl, q qs _ (I1.hok.fresh (Nat.le_refl _)) (by simpa using g1) fun i qa zz e1 e2 => ?_⟩
  · have hb : b < h'.objs.size := Heap.lt_size e
    rw [PyProof.Rows.sortedHeap_old (Nat.ne_of_lt hb) (by rw [size_push']; exact Nat.lt_succ_of_lt hb)]
    exact Heap.get?_push_of_some _ e
  · obtain ⟨q', e3, e4⟩ := get_eachIs g2 i (.ref qa) zz (by rw [List.getElem?_map, e1]; rfl) e2
    cases e3
    exact e4
end KS
namespace KS
open PySem PySem.Spec L2
def toKey : D → Option L2.Key
  | .int i => some (.inl i)
  | .str s => some (.inr s)
  | _ => none
def toKeys : List D → Option (List L2.Key)
  | [] => some []
  | d :: ds => match toKey d, toKeys ds with
    | some k, some ks => some (k :: ks)
    | _, _ => none
abbrev TD := List (List L2.Key × D)
def dTm (kvs : TD) : D := .dct (.bl true :: kvs.map fun p => .tup (p.1.map kD)) (kvs.map (·.2))
def zipT : List D → List D → Option TD
  | [], [] => some []
  | .tup ds :: ks, v :: vs => match toKeys ds, zipT ks vs with
    | some k, some r => some ((k, v) :: r)
    | _, _ => none
  | _, _ => none
def unT : D → Option TD
  | .dct (.bl true :: ks) vs => zipT ks vs
  | _ => none
theorem toKeys_kD : ∀ k : List L2.Key, toKeys (k.map kD) = some k
  | [] => rfl
  | .inl i :: k => by simp [toKeys, kD, toKey, toKeys_kD k]
  | .inr i :: k => by simp [toKeys, kD, toKey, toKeys_kD k]
theorem kD_toKey {d : D} {k : L2.Key} (h : toKey d = some k) : d = kD k := by
  cases d <;> first | (cases h; rfl) | cases h
theorem kD_toKeys : ∀ {ds : List D} {k : List L2.Key}, toKeys ds = some k → ds = k.map kD
  | [], k, h => by cases h; rfl
  | d :: ds, k, h => by
    unfold toKeys at h
    split at h
    · next a as ha has =>
      cases h
      rw [List.map_cons, ← kD_toKey ha, ← kD_toKeys has]
    · cases h
theorem zipT_map : ∀ kvs : TD, zipT (kvs.map fun p => .tup (p.1.map kD)) (kvs.map (·.2)) = some kvs
  | [] => rfl
  | (k, v) :: r => by simp [zipT, toKeys_kD, zipT_map r]
@[simp] theorem unT_dTm (kvs : TD) : unT (dTm kvs) = some kvs := zipT_map kvs
theorem zipT_inv : ∀ {ks vs : List D} {kvs : TD}, zipT ks vs = some kvs → ks = kvs.map (fun p => .tup (p.1.map kD)) ∧ vs = kvs.map (·.2)
  | [], [], kvs, h => by cases h; exact ⟨rfl, rfl⟩
  | [], _ :: _, kvs, h => by simp [zipT] at h
  | d :: ks, [], kvs, h => by cases d <;> simp [zipT] at h
  | d :: ks, v :: vs, kvs, h => by
    cases d with
    | tup ds =>
      simp only [zipT] at h
      split at h
      · next k r hk hr =>
        cases h
        obtain ⟨a, b⟩ := zipT_inv hr
        exact ⟨by rw [List.map_cons, ← a, kD_toKeys hk], by rw [List.map_cons, ← b]⟩
      · cases h
    | _ => simp [zipT] at h
theorem unT_inv {d : D} {kvs : TD} (h : unT d = some kvs) : d = dTm kvs := by
  unfold unT at h
  split at h
  · obtain ⟨a, b⟩ := zipT_inv h
    rw [a, b]
    rfl
  · cases h
def valV' (kvs : TD) (k : List L2.Key) : Option D := (kvs.find? fun kv => decide (kv.1 = k)).map (·.2)
def putK' (kvs : TD) (k : List L2.Key) (v : D) : TD := if (kvs.any fun kv => decide (kv.1 = k)) = true then kvs.map (fun kv => if kv.1 = k then (kv.1, v) else kv) else kvs ++ [(k, v)]
def dropK' (kvs : TD) (k : List L2.Key) : TD := kvs.filter fun kv => decide (kv.1 ≠ k)
inductive KP (G : SE) (Hv : Hp) : TD → List (List L2.Key × V) → Prop where
  | nil : KP G Hv [] []
  | cons {k : List L2.Key} {d : D} {v : V} {r : TD} {s : List (List L2.Key × V)} (h : Rep G Hv d v) (t : KP G Hv r s) : KP G Hv ((k, d) :: r) ((k, v) :: s)
theorem kD_inj : ∀ {k l : L2.Key}, kD k = kD l → k = l
  | .inl i, .inl j, h => by cases h; rfl
  | .inr i, .inr j, h => by cases h; rfl
  | .inl i, .inr j, h => by cases h
  | .inr i, .inl j, h => by cases h
theorem kDs_inj : ∀ {k l : List L2.Key}, k.map kD = l.map kD → k = l
  | [], [], _ => rfl
  | [], _ :: _, h => by cases h
  | _ :: _, [], h => by cases h
  | a :: k, b :: l, h => by
    rw [List.map_cons, List.map_cons] at h
    injection h with h1 h2
    rw [kD_inj h1, kDs_inj h2]
theorem kp_of {G : SE} {Hv : Hp} : ∀ {kvs : TD} {us : List (List L2.Key × V)}, kvs.map (fun p => D.tup (p.1.map kD)) = us.map (fun p => D.tup (p.1.map kD)) → RepL G Hv (kvs.map (·.2)) (us.map (·.2)) → KP G Hv kvs us
  | [], [], _, _ => .nil
  | [], _ :: _, h, _ => by cases h
  | _ :: _, [], h, _ => by cases h
  | (k, d) :: r, (l, v) :: s, h, q => by
    rw [List.map_cons, List.map_cons] at h
    injection h with h1 h2
    injection h1 with h1
    have e := kDs_inj h1
    dsimp only at e
    subst e
    rw [List.map_cons, List.map_cons] at q
    obtain ⟨v', t, e, q1, q2⟩ := q.cons_inv
    injection e with e1 e2
    subst e1 e2
    exact .cons q1 (kp_of h2 q2)
theorem KP.cell {G : SE} {H Hv : Hp} {a : Addr} {kvs : TD} {us : List (List L2.Key × V)} (h : KP G Hv kvs us) (e : H a = some (.dT us)) : Cell G H Hv a (dTm kvs) := by
  have z : kvs.map (fun p => D.tup (p.1.map kD)) = us.map (fun p => D.tup (p.1.map kD)) ∧ RepL G Hv (kvs.map (·.2)) (us.map (·.2)) := by
    clear e
    induction h with
    | nil => exact ⟨rfl, .nil⟩
    | cons h t ih => exact ⟨by rw [List.map_cons, List.map_cons, ih.1], .cons h ih.2⟩
  exact ⟨_, .inl ⟨us, e, by rw [z.1], rfl⟩, z.2⟩
theorem cell_T {G : SE} {H Hv : Hp} {a : Addr} {kvs : TD} (h : Cell G H Hv a (dTm kvs)) : ∃ us, H a = some (.dT us) ∧ KP G Hv kvs us := by
  obtain ⟨us, ⟨kv, e, h1, h2⟩ | ⟨kv, e, h1, h2⟩, r⟩ := h
  · injection h1 with _ h1
    subst h2
    exact ⟨kv, e, kp_of h1 r⟩
  · injection h1 with h1
    cases h1
theorem KP.length {G : SE} {Hv : Hp} {kvs : TD} {us : List (List L2.Key × V)} (h : KP G Hv kvs us) : us.length = kvs.length := by
  induction h with
  | nil => rfl
  | cons h t ih => rw [List.length_cons, List.length_cons, ih]
theorem KP.val {G : SE} {Hv : Hp} {kvs : TD} {us : List (List L2.Key × V)} (h : KP G Hv kvs us) (k : List L2.Key) : (valV' kvs k).isSome = (valV us k).isSome ∧ ∀ d, valV' kvs k = some d → ∃ v, valV us k = some v ∧ Rep G Hv d v := by
  induction h with
  | nil => exact ⟨rfl, fun d e => by cases e⟩
  | @cons k' d v r s h t ih =>
    by_cases e : k' = k
    · exact ⟨by simp [valV', valV, e], fun d' e' => by
        have : d = d' := by simpa [valV', e] using e'
        subst this
        exact ⟨v, by simp [valV, e], h⟩⟩
    · have e1 : valV' ((k', d) :: r) k = valV' r k := by simp [valV', e]
      have e2 : valV ((k', v) :: s) k = valV s k := by simp [valV, e]
      rw [e1, e2]
      exact ih
theorem KP.any {G : SE} {Hv : Hp} {kvs : TD} {us : List (List L2.Key × V)} (h : KP G Hv kvs us) (k : List L2.Key) : (kvs.any fun kv => decide (kv.1 = k)) = us.any fun kv => decide (kv.1 = k) := by
  induction h with
  | nil => rfl
  | cons h t ih => rw [List.any_cons, List.any_cons, ih]
theorem KP.put {G : SE} {Hv : Hp} {kvs : TD} {us : List (List L2.Key × V)} (h : KP G Hv kvs us) {k : List L2.Key} {d : D} {v : V} (r : Rep G Hv d v) : KP G Hv (putK' kvs k d) (putK us k v) := by
  unfold putK' putK
  rw [h.any k]
  split
  · rename_i hh0
    clear hh0
    induction h with
    | nil => exact .nil
    | @cons k' d' v' r' s' h t ih =>
      rw [List.map_cons, List.map_cons]
      by_cases e : k' = k
      · simp only [e, if_true]
        exact .cons r ih
      · simp only [e, if_false]
        exact .cons h ih
  · rename_i hh0
    clear hh0
    induction h with
    | nil => exact .cons r .nil
    | cons h t ih => exact .cons h ih
theorem KP.drop {G : SE} {Hv : Hp} {kvs : TD} {us : List (List L2.Key × V)} (h : KP G Hv kvs us) (k : List L2.Key) : KP G Hv (dropK' kvs k) (dropK us k) := by
  unfold dropK' dropK
  induction h with
  | nil => exact .nil
  | @cons k' d' v' r' s' h t ih =>
    by_cases e : k' = k
    · rw [List.filter_cons_of_neg (by simp [e]), List.filter_cons_of_neg (by simp [e])]
      exact ih
    · rw [List.filter_cons_of_pos (by simp [e]), List.filter_cons_of_pos (by simp [e])]
      exact .cons h ih
theorem key_rep {B : Bd} {fr : Fr} {σ : L2.St} {H Hv : Hp} {d : D} {v : V} {k : L2.Key} (h : RepW B σ Hv d v) (e : toKey d = some k) : v = kV k := by
  cases d <;> first | cases e | skip
  · exact (Rep.int_iff (G := B.G) (H := Hv)).mp h
  · exact (Rep.str_iff (G := B.G) (H := Hv)).mp h
theorem keys_rep {B : Bd} {fr : Fr} {σ : L2.St} {H Hv : Hp} : ∀ {ds : List D} {vs : List V} {k : List L2.Key}, RepWs B σ Hv ds vs → toKeys ds = some k → vs = k.map kV
  | [], vs, k, h, e => by cases e; exact h
  | d :: ds, vs, k, ⟨v, t, e1, h1, h2⟩, e => by
    unfold toKeys at e
    split at e
    · next a as ha has =>
      cases e
      rw [e1, List.map_cons, key_rep (fr := fr) (H := H) h1 ha, keys_rep (fr := fr) (H := H) h2 has]
    · cases e
def sDput (i : Nat) (gk : Av) (fv : Ev) : Sv := fun fr => (fv fr).bind fun v fr1 => if pers v = true then (match fr1[i]? with
  | some (some c0) => if isDctD c0 = true then ((gk fr1).bind fun ks fr2 => match fr2[i]? with
    | some (some c) => match toKeys ks, unT c with
      | some k, some kvs => if kvs.length < sizeLine ∧ ks.length ≤ sizeLine then .ok .nx (fr2.set i (some (dTm (putK' kvs k v)))) else .bad
      | _, _ => .bad
    | _ => .bad) else .bad
  | _ => .bad) else .bad
def eDin (i : Nat) (gk : Av) : Ev := fun fr => (gk fr).bind fun ks fr2 => match fr2[i]? with
    | some (some c) => match toKeys ks, unT c with
      | some k, some kvs => if ks.length ≤ sizeLine then .ok (.bl (valV' kvs k).isSome) fr2 else .bad
      | _, _ => .bad
    | _ => .bad
section
variable {X : Cx} {B : Bd} {W : WX} {rf : Bool} {es : List Expr} {value : Expr} {gk : Av} {fv : Ev} {i : Nat} {x : Str} {np pos pos' tpos : Pos} {x1 : Nat}
theorem lay_key {fr : Fr} {σ : L2.St} {H Hv : Hp} (R : Rel B fr σ H Hv) {T : Addr} {vs : List V} (hT : H T = none) : Nxt B fr σ H Hv fr (upd H T (.tup vs)) Hv :=
  ⟨R.lay hT, .refl _, fun b u h _ _ => by rw [upd_ne (ne_of_none h hT)]; exact h, .refl _ _, fun b u h => ⟨u, by rw [upd_ne (ne_of_none h hT)]; exact h⟩, fun b u h => .inl h⟩
theorem s_dput (hu : X.A.units + 1 < cLine) (hi : i ∈ B.M) (hk : DA X B W es gk) (hv : DE X B W value fv) (hN : X.N[i]? = some x := by rfl) (hvs : Vis X.env.scope x := by first | exact Or.inl rfl | exact Or.inr (Or.inl rfl) | exact Or.inr (Or.inr rfl)) (hd : (x == ("__debug__" : Str)) = false := by decide) (hcd : (x == ("__classdict__" : Str)) = false := by decide)
    (hs : swapsWith value (some (.Subscript (.Name x np) (.Tuple es x1 tpos) pos')) pos.line X.env = pure false := by rfl) : DS X B W rf (.Assign [.Subscript (.Name x np) (.Tuple es x1 tpos) pos'] value pos) (sDput i gk fv) := by
  refine ps_imp (ps_dput hu (pe_var hN hvs hd hcd) (pe_tup hk) hv hs) fun D σ H hh => ?_
  obtain ⟨fr, Hv, R, hh⟩ := hh
  refine ⟨fr, Hv, R, ?_⟩
  unfold sDput at hh
  cases hf : fv fr with
  | bad => rw [hf] at hh; exact hh.elim
  | exc c fs fr1 =>
    rw [hf] at hh
    exact fun dd H' Hv' m => hh dd σ H' Hv' m.rel m.ext
  | ok v fr1 =>
    rw [hf] at hh
    dsimp only [Res.bind] at hh
    intro vv H1 Hv1 n1 rv
    split at hh
    · next hp =>
      have rv := rv.rep fun i z => by rw [z] at hp; cases hp
      split at hh
      · next c0 e0 =>
        split at hh
        · next hc0 =>
          obtain ⟨a, hsl, hva, _, _⟩ := n1.rel.own i c0 ⟨e0, kd_dct hc0⟩ hi
          refine ⟨_, hsl, fr1, Hv1, n1.rel, ?_⟩
          cases hg : gk fr1 with
          | bad => rw [hg] at hh; exact hh.elim
          | exc c fs fr2 =>
            rw [hg] at hh
            exact fun dd H' Hv' m => hh dd σ H' Hv' m.rel (n1.ext.trans m.ext)
          | ok ks fr2 =>
            rw [hg] at hh
            dsimp only at hh
            intro vs H2 Hv2 n2 rws
            split at hh
            · next c ec =>
              split at hh
              · next k kvs hk' hun =>
                split at hh
                · next hz =>
                  refine ⟨by rw [repWs_length rws]; exact hz.2, fun T hT => ?_⟩
                  have hcell : isCell c = true := by rw [unT_inv hun]; rfl
                  obtain ⟨a', hsl', hva2, _, hce⟩ := n2.rel.own i c ⟨ec, hcell⟩ hi
                  rw [hsl] at hsl'
                  cases hsl'
                  rw [unT_inv hun] at hce
                  obtain ⟨us, eu, kp⟩ := cell_T hce
                  have n3 := lay_key (vs := vs) n2.rel hT
                  have eu3 : upd H2 T (.tup vs) a = some (.dT us) := by rw [upd_ne (ne_of_none eu hT)]; exact eu
                  have rvk := keys_rep (fr := fr2) (H := H2) rws hk'
                  refine ⟨a, _, rfl, .t eu3 (by rw [rvk]; exact upd_same) (by rw [kp.length]; exact hz.1), ?_⟩
                  have m := n3.rel.mut hi ⟨ec, hcell⟩ hsl ((kp.put (k := k) (Rep.mono n2.ext _ _ rv)).cell upd_same)
                  exact hh σ _ Hv2 m.rel (n1.ext.trans (n2.ext.trans (n3.ext.trans m.ext)))
                · exact (hh : False).elim
              · exact (hh : False).elim
            · exact (hh : False).elim
        · exact (hh : False).elim
      · exact (hh : False).elim
    · exact (hh : False).elim
theorem d_din (hu : X.A.units + 1 < cLine) (hi : i ∈ B.M) (hk : DA X B W es gk) (hm : behindInMarks .In (.Name x np) = false := by rfl) (hN : X.N[i]? = some x := by rfl) (hvs : Vis X.env.scope x := by first | exact Or.inl rfl | exact Or.inr (Or.inl rfl) | exact Or.inr (Or.inr rfl)) (hd : (x == ("__debug__" : Str)) = false := by decide) (hcd : (x == ("__classdict__" : Str)) = false := by decide) :
    PC X .In (.Tuple es x1 tpos) (.Name x np) (dTE B W (eDin i gk)) := by
  have h0 := pc_din hu (pe_tup (x1 := x1) (pos := tpos) hk) (pe_var (pos := np) hN hvs hd hcd)
  refine ⟨fun pins s σ H Q I h => h0.run pins s σ H Q I ?_⟩
  obtain ⟨fr, Hv, R, h⟩ := h
  refine ⟨fr, Hv, R, ?_⟩
  unfold eDin at h
  cases hg : gk fr with
  | bad => rw [hg] at h; exact h.elim
  | exc c fs fr2 => rw [hg] at h; exact h
  | ok ks fr2 =>
    rw [hg] at h
    dsimp only [Res.bind] at h
    intro vs H2 Hv2 n2 rws
    split at h
    · next c ec =>
      split at h
      · next k kvs hk' hun =>
        split at h
        · next hz =>
          refine ⟨by rw [repWs_length rws]; exact hz, fun T hT => ?_⟩
          have hcell : isCell c = true := by rw [unT_inv hun]; rfl
          obtain ⟨a, hsl, hva2, _, hce⟩ := n2.rel.own i c ⟨ec, hcell⟩ hi
          rw [unT_inv hun] at hce
          obtain ⟨us, eu, kp⟩ := cell_T hce
          have n3 := lay_key (vs := vs) n2.rel hT
          have eu3 : upd H2 T (.tup vs) a = some (.dT us) := by rw [upd_ne (ne_of_none eu hT)]; exact eu
          have rvk := keys_rep (fr := fr2) (H := H2) rws hk'
          refine ⟨_, hsl, a, _, rfl, .t eu3 (by rw [rvk]; exact upd_same), ?_⟩
          rw [← (kp.val k).1]
          exact h (.bl _) _ Hv2 (n2.trans n3) (.of repB)
        · exact (h : False).elim
      · exact (h : False).elim
    · exact (h : False).elim
theorem dt_dinE (hu : X.A.units + 1 < cLine) (hi : i ∈ B.M) (hk : DA X B W es gk) (hm : behindInMarks .In (.Name x np) = false := by rfl) (hN : X.N[i]? = some x := by rfl) (hvs : Vis X.env.scope x := by first | exact Or.inl rfl | exact Or.inr (Or.inl rfl) | exact Or.inr (Or.inr rfl)) (hd : (x == ("__debug__" : Str)) = false := by decide) (hcd : (x == ("__classdict__" : Str)) = false := by decide) :
    DT X B W (.Compare (.Tuple es x1 tpos) [.In] [.Name x np] pos) (bE (eDin i gk)) :=
  pt_imp (pt_cmp (d_din hu hi hk hm hN hvs hd hcd) hm) fun σ H Q ⟨fr, Hv, R, h⟩ => ⟨fr, Hv, R, postB_E h⟩
theorem d_dnew : DF X B W (.Dict [] [] pos) (eC (dTm [])) := by
  refine pe_imp pe_dnewT fun σ H Q h => ?_
  obtain ⟨fr, Hv, R, h⟩ := h
  intro p hp
  exact h p _ Hv ⟨R.lay hp, .refl _, fun b u h _ _ => by rw [upd_ne (ne_of_none h hp)]; exact h, .refl _ _, fun b u h => ⟨u, by rw [upd_ne (ne_of_none h hp)]; exact h⟩, fun b u h => .inl h⟩ hp (R.hv_none hp) (KP.nil.cell upd_same)
def rPopT1 : V → List V → Hp → VK → Prop := fun x xs H Q => ∃ (a : Addr) (kvs : List (List L2.Key × V)) (k : List L2.Key) (b : Addr) (v : V), x = .ref a ∧ xs = [.ref b] ∧ H a = some (.dT kvs) ∧ H b = some (.tup (k.map kV)) ∧
  valV kvs k = some v ∧ Q v (upd H a (.dT (dropK kvs k)))
theorem mt_popT1 (hu : X.A.units + 1 < cLine) : MtR X "dict.pop" rPopT1 := by
  intro pins s σ H x xs v us Q I rx rxs h
  obtain ⟨a, kvs, k, b, v0, rfl, rfl, ha, hb, hv0, q1⟩ := h
  cases rx
  obtain ⟨u1, rfl, r1⟩ := vals1 rxs
  cases r1
  obtain ⟨z, hd, xs', rel, dd⟩ := dt_of I.hok ha
  have hz : xs'.length ≤ sizeLine := by rw [← Paired.length rel]; exact z
  have r := rel.val k
  rw [hv0] at r
  cases hp : atKey xs' k with
  | none => rw [hp] at r; exact (show False from r).elim
  | some p =>
    rw [hp] at r
    refine call_pop_heap (knd := tupleKind (mixKind X.prog X.w)) (.inl rfl) (PySem.F.args_dict_pop_2 _ _) (PySem.tupleKind_room_in1 hu) (key_of I.hok hb) hd dd hp (fun h' dd' hs => ?_) hz
    obtain ⟨o, es, ep, hq, h2, h3, h4, _, h5⟩ := dd'
    have I2 : Inv X pins σ (upd H a (.dT (dropK kvs k))) { s with heap := h', toks := s.toks + (tupleKind (mixKind X.prog X.w)).draws k } :=
      d_write I (by rw [ha]; exact True.intro) hs ⟨o, hq⟩ ⟨Nat.le_trans (dropK_le kvs k) z, hd, _, (DX.KT_drop k rel).keeps (fun c ys ec => (by rw [upd_ne (ne_of ec ha (fun z => nomatch z))]; exact ec)), o, es, ep, hq, h2, h3, h4, h5⟩
    exact ⟨v0, _, I2, r, q1⟩
end
end KS
namespace KS
open PySem PySem.Spec L2
def eDpop (i : Nat) (gk : Av) : Ev := fun fr => match fr[i]? with
  | some (some c0) => if isDctD c0 = true then ((gk fr).bind fun ks fr2 => match fr2[i]? with
    | some (some c) => match toKeys ks, unT c with
      | some k, some kvs => if ks.length ≤ sizeLine then (match valV' kvs k with
        | some d => .ok d (fr2.set i (some (dTm (dropK' kvs k))))
        | none => .bad) else .bad
      | _, _ => .bad
    | _ => .bad) else .bad
  | _ => .bad
def toPP : List L2.Key → Option PP
  | [.inl i, .inl j] => some (i, j)
  | _ => none
def toPPs : List (List L2.Key) → Option (List PP)
  | [] => some []
  | k :: ks => match toPP k, toPPs ks with
    | some p, some r => some (p :: r)
    | _, _ => none
def dPP (p : PP) : D := .tup [.int p.1, .int p.2]
def eSortD (i : Nat) : Ev := fun fr => match fr[i]? with
  | some (some c) => match unT c with
    | some kvs => match toPPs (kvs.map (·.1)) with
      | some ps => .ok (.lst ((ps.mergeSort leP).map dPP)) fr
      | none => .bad
    | none => .bad
  | _ => .bad
theorem toPPs_map : ∀ {ks : List (List L2.Key)} {ps : List PP}, toPPs ks = some ps → ks = ps.map kP
  | [], ps, h => by cases h; rfl
  | k :: ks, ps, h => by
    unfold toPPs at h
    split at h
    · next p r hp hr =>
      cases h
      rw [List.map_cons, ← toPPs_map hr]
      have : k = kP p := by
        unfold toPP at hp
        split at hp
        · cases hp; rfl
        · cases hp
      rw [this]
    · cases h
theorem KP.keys {G : SE} {Hv : Hp} {kvs : TD} {us : List (List L2.Key × V)} (h : KP G Hv kvs us) : us.map (·.1) = kvs.map (·.1) := by
  induction h with
  | nil => rfl
  | cons h t ih => rw [List.map_cons, List.map_cons, ih]
section
variable {X : Cx} {B : Bd} {W : WX} {rf : Bool} {es : List Expr} {gk : Av} {i : Nat} {x : Str} {np pos apos cpos tpos : Pos} {x1 : Nat}
theorem d_dpop (hu : X.A.units + 1 < cLine) (hi : i ∈ B.M) (hk : DA X B W es gk) (hN : X.N[i]? = some x := by rfl) (hvs : Vis X.env.scope x := by first | exact Or.inl rfl | exact Or.inr (Or.inl rfl) | exact Or.inr (Or.inr rfl)) (hd : (x == ("__debug__" : Str)) = false := by decide) (hcd : (x == ("__classdict__" : Str)) = false := by decide)
    (he2 : starEach [.Tuple es x1 tpos] X.env = (false, eval (.Tuple es x1 tpos) X.env) :: starEach [] X.env := by rfl) (hbase : attributeBase (.Name x np) "pop" X.env (eval (.Name x np) X.env) = eval (.Name x np) X.env := by rfl)
    (hfew : ((backTo cpos (starEach [.Tuple es x1 tpos] X.env)).all (fun x => !x.1) && (backToKw cpos (keywordEach [] X.env)).all (fun x => x.1.isSome)
      && decide (([.Tuple es x1 tpos] : List Expr).length + ([] : List Keyword).length + (if ([] : List Keyword).isEmpty then 0 else 1) < 30)) = true := by rfl)
    (hline : (apos.endLine == cpos.line) = true := by rfl) (hplain : (backTo cpos (starEach [] X.env)).any (·.1) = false := by rfl) :
    DE X B W (.Call (.Attribute (.Name x np) "pop" apos) [.Tuple es x1 tpos] [] cpos) (eDpop i gk) := by
  refine pe_imp (pe_bm F.plainAttrs_dict F.slot_dict_pop F.type_dict_pop (mt_popT1 hu) (pe_var hN hvs hd hcd) (pa_cons (pe_tup hk) pa_nil he2) hbase hfew hline he2 hplain) fun σ H Q h => ?_
  obtain ⟨fr, Hv, R, h⟩ := h
  unfold eDpop at h
  split at h
  · next c0 e0 =>
    split at h
    · next hc0 =>
      obtain ⟨a, hsl, hva, _, hce0⟩ := R.own i c0 ⟨e0, kd_dct hc0⟩ hi
      refine ⟨_, hsl, tyV_dct hce0 hc0, fr, Hv, R, ?_⟩
      cases hg : gk fr with
      | bad => rw [hg] at h; exact h.elim
      | exc c fs fr2 => rw [hg] at h; exact h
      | ok ks fr2 =>
        rw [hg] at h
        dsimp only [Res.bind] at h
        intro vs H2 Hv2 n2 rws
        split at h
        · next c ec =>
          split at h
          · next k kvs hk' hun =>
            split at h
            · next hz =>
              refine ⟨by rw [repWs_length rws]; exact hz, fun T hT => ?_⟩
              split at h
              · next d hd' =>
                have hcell : isCell c = true := by rw [unT_inv hun]; rfl
                obtain ⟨a', hsl', hva2, _, hce⟩ := n2.rel.own i c ⟨ec, hcell⟩ hi
                rw [hsl] at hsl'
                cases hsl'
                rw [unT_inv hun] at hce
                obtain ⟨us, eu, kp⟩ := cell_T hce
                have n3 := lay_key (vs := vs) n2.rel hT
                have eu3 : upd H2 T (.tup vs) a = some (.dT us) := by rw [upd_ne (ne_of_none eu hT)]; exact eu
                have rvk := keys_rep (fr := fr2) (H := H2) rws hk'
                obtain ⟨v, h1, h2⟩ := (kp.val k).2 d hd'
                have m := n3.rel.mut hi ⟨ec, hcell⟩ hsl ((kp.drop k).cell upd_same)
                exact ⟨a, us, k, T, v, rfl, rfl, eu3, by rw [rvk]; exact upd_same, h1, h v _ Hv2 ((n2.trans n3).trans m) (.of h2)⟩
              · exact (h : False).elim
            · exact (h : False).elim
          · exact (h : False).elim
        · exact (h : False).elim
    · exact (h : False).elim
  · exact (h : False).elim
/-- tuples that stand become values, one by one -/
theorem freeze_tups {fr : Fr} {σ : L2.St} {H : Hp} : ∀ (qs : List Addr) (ps : List PP) {Hv : Hp}, Rel B fr σ H Hv → qs.length = ps.length → (∀ (i : Nat) (q : Addr) (z : PP), qs[i]? = some q → ps[i]? = some z → H q = some (.tup (vP z))) →
    ∃ Hv', Nxt B fr σ H Hv fr H Hv' ∧ RepL B.G Hv' (ps.map dPP) (qs.map V.ref) ∧ (∀ b, Hv' b ≠ none → Hv b ≠ none ∨ ∃ vs, H b = some (.tup vs))
  | [], [], Hv, R, _, _ => ⟨Hv, .refl R, .nil, fun b h => .inl h⟩
  | [], _ :: _, _, _, hl, _ => by simp at hl
  | _ :: _, [], _, _, hl, _ => by simp at hl
  | q :: qs, p :: ps, Hv, R, hl, h => by
    have hq := h 0 q p rfl rfl
    have no : ¬ Own B fr σ q := fun ⟨i, d, hi, hf, hs⟩ => by
      obtain ⟨a, hs', _, _, hc⟩ := R.own i d hf hi
      rw [hs] at hs'
      cases hs'
      exact hc.not_tup hq
    have s := sub_freeze R hq
    have R1 := R.freeze hq (.inr ⟨_, rfl⟩) (fun ps z => by cases z) no
    have n1 : Nxt B fr σ H Hv fr H (upd Hv q (.tup (vP p))) := ⟨R1, s, fun b u h _ _ => h, .refl _ _, fun b u h => ⟨u, h⟩, fun b u h => by
      by_cases e : b = q
      · rw [e, upd_same] at h
        exact .inr (.inl (.inr ⟨_, (Option.some.inj h).symm⟩))
      · rw [upd_ne e] at h
        exact .inl h⟩
    obtain ⟨Hv', n2, r, old⟩ := freeze_tups qs ps R1 (by simpa using hl) fun i q z e1 e2 => h (i + 1) q z (by simpa using e1) (by simpa using e2)
    refine ⟨Hv', n1.trans n2, .cons (Rep.tup (n2.ext _ _ upd_same) (.cons (Rep.int_iff.mpr rfl) (.cons (Rep.int_iff.mpr rfl) .nil))) r, fun b hb => ?_⟩
    rcases old b hb with z | z
    · by_cases e : b = q
      · exact .inr ⟨_, by rw [e]; exact hq⟩
      · rw [upd_ne e] at z
        exact .inl z
    · exact .inr z
theorem d_sortD (hu : X.A.units + 16 < cLine) (hc : X.calm = true) (hi : i ∈ B.M) (hm : X.mg "sorted" = none) {np2 : Pos} (hN : X.N[i]? = some x := by rfl) (hvs : Vis X.env.scope x := by first | exact Or.inl rfl | exact Or.inr (Or.inl rfl) | exact Or.inr (Or.inr rfl)) (hd : (x == ("__debug__" : Str)) = false := by decide) (hcd : (x == ("__classdict__" : Str)) = false := by decide)
    (hg : Gl X "sorted" := by rfl) (hv : bootBuiltins "sorted" = some (.builtin "sorted") := by decide +kernel) (hn : (("sorted" : String) : Str) ≠ "__name__" := by decide) (hdb : ((("sorted" : String) : Str) == ("__debug__" : Str)) = false := by decide)
    (he : starEach [.Name x np] X.env = (false, eval (.Name x np) X.env) :: starEach [] X.env := by rfl) (hpl : (backTo pos (starEach [] X.env)).any (·.1) = false := by rfl) :
    DF X B W (.Call (.Name "sorted" np2) [.Name x np] [] pos) (eSortD i) := by
  refine pe_imp (pe_callB (cr_sortedDP hc hu) hg hm hv (pa_cons (pe_var hN hvs hd hcd) pa_nil he) hn hdb he hpl) fun σ H Q h => ?_
  obtain ⟨fr, Hv, R, h⟩ := h
  unfold eSortD at h
  split at h
  · next c ec =>
    split at h
    · next kvs hun =>
      split at h
      · next ps hps =>
        have hcell : isCell c = true := by rw [unT_inv hun]; rfl
        obtain ⟨a, hsl, hva, _, hce⟩ := R.own i c ⟨ec, hcell⟩ hi
        rw [unT_inv hun] at hce
        obtain ⟨us, eu, kp⟩ := cell_T hce
        have hkeys := kp.keys
        refine ⟨_, hsl, a, us, ps, rfl, eu, by rw [hkeys, toPPs_map hps], fun qs p hp hl hq => ?_⟩
        have hlm : qs.length = (ps.mergeSort leP).length := by rw [List.length_mergeSort]; exact hl
        obtain ⟨Hv', n, r, old⟩ := freeze_tups qs (ps.mergeSort leP) R hlm hq
        have hvp : Hv' p = none := n.rel.hv_none hp
        have R2 := n.rel.lay (o := .lst (qs.map V.ref)) hp
        exact h p _ Hv' (n.trans ⟨R2, .refl _, fun b u h _ _ => by rw [upd_ne (ne_of_none h hp)]; exact h, .refl _ _, fun b u h => ⟨u, by rw [upd_ne (ne_of_none h hp)]; exact h⟩, fun b u h => .inl h⟩) hp hvp ⟨_, upd_same, r⟩
      · exact (h : False).elim
    · exact (h : False).elim
  · exact (h : False).elim
end
end KS
namespace KS
open PySem PySem.Spec L2
def tOexs (K : PySem.W.Frag) : Nat → List Str → TS
  | _, [] => tNext
  | k, n :: ns => tSeq (tOst K n (tVar 0) (tVar k)) (tOexs K (k + 1) ns)
theorem oexs_go {K : PySem.W.Frag} {C a d : Addr} {σ : L2.St} {D : Ends} (T : OexC K C) (hs : σ[0]? = some (some (.ref a))) (hda : d ≠ a) : ∀ (ns : List Str) (k : Nat) (ws : List V) (l : List (Str × V)) (H : Hp), H a = some (exo a C (some d)) → H d = some (exd d l) → ws.length = ns.length → l.length + ns.length ≤ 900 → ns.Nodup →
    (∀ n ∈ ns, PySem.W.findIn K (.ref C) n = some none) → (∀ i v, ws[i]? = some v → σ[k + i]? = some (some v)) →
    (∀ l', (∀ (i : Nat) (n : Str) (v : V), ns[i]? = some n → ws[i]? = some v → l'.lookup n = some v) → (∀ n, n ∉ ns → l'.lookup n = l.lookup n) → D.nx σ (upd H d (exd d l'))) → tOexs K k ns D σ H
  | [], k, ws, l, H, ha, hd, hl, hz, nd, hn, hv, q => by
    show D.nx σ H
    have e : upd H d (exd d l) = H := by
      funext b
      by_cases h : b = d
      · rw [h, upd_same, hd]
      · rw [upd_ne h]
    rw [← e]
    exact q l (fun i n v h => by simp at h) fun n _ => rfl
  | n :: ns, k, [], l, H, ha, hd, hl, hz, nd, hn, hv, q => by simp at hl
  | n :: ns, k, w :: ws, l, H, ha, hd, hl, hz, nd, hn, hv, q => by
    refine ⟨w, by have := hv 0 w rfl; simpa using this, _, hs, a, C, rfl, T, hn n (List.mem_cons_self ..), .inr ⟨d, l, ha, hd, by simp at hz; omega, ?_⟩⟩
    rw [List.nodup_cons] at nd
    refine oexs_go T hs hda ns (k + 1) ws ((n, w) :: l) _ (by rw [upd_ne (Ne.symm hda)]; exact ha) upd_same (by simpa using hl) (by simp at hz ⊢; omega) nd.2 (fun m hm => hn m (List.mem_cons_of_mem _ hm)) (fun i v h => by
      have := hv (i + 1) v (by simpa using h)
      rwa [show k + (i + 1) = k + 1 + i by omega] at this) fun l' h1 h2 => ?_
    have e : upd (upd H d (exd d ((n, w) :: l))) d (exd d l') = upd H d (exd d l') := by
      funext b
      by_cases h : b = d
      · rw [h, upd_same, upd_same]
      · rw [upd_ne h, upd_ne h, upd_ne h]
    rw [e]
    refine q l' (fun i m v e1 e2 => ?_) fun m hm => ?_
    · cases i with
      | zero =>
        cases e1
        cases e2
        rw [h2 n nd.1]
        simp [List.lookup]
      | succ i => exact h1 i m v (by simpa using e1) (by simpa using e2)
    · rw [List.mem_cons, not_or] at hm
      rw [h2 m hm.2]
      have : (m == n) = false := by simpa using hm.1
      simp [List.lookup, this]
theorem fn_oex {P : Program} {w : World} {K : PySem.W.Frag} {mg : Str → Option Value} {base : Heap} {x qual : Str} {st : Stmt} {f C : Addr} {fd : FuncData} {N ps nms : List Str} (k : Nat) (F : Fun K x qual st f fd) (S : FnScope N ps (defScope st)) (hlen : ps.length = nms.length + 1) (hNl : ps.length ≤ N.length) (T : OexC K C)
    (h1 : 1 ≤ nms.length) (h9 : nms.length ≤ 900) (nd : nms.Nodup) (hn : ∀ n ∈ nms, PySem.W.findIn K (.ref C) n = some none)
    (hbody : ∀ (cdv : Value) (A : Around) (outer : List Env) (s : Shared) (H : Hp) (E : XK), PSs (cxOf (L2N.CX P w) P w K mg base N qual (defScope st) f cdv A outer s H E) (defBody st) (tOexs K 1 nms)) :
    FnOk P w K mg base (L2N.CX P w) (k + 1) f fd ps (oexSp C nms) := by
  refine okXN F S (fun vs H Q E h => ?_) (fun cdv A outer s H vs Q E hr h => ⟨_, hbody cdv A outer s H E, ?_⟩)
  · obtain ⟨a, ws, rfl, hl, _⟩ := h
    rw [List.length_cons, hl, hlen]
  · obtain ⟨a, ws, rfl, hl, ha, q⟩ := h
    have get : ∀ (i : Nat) (v : V), (V.ref a :: ws)[i]? = some v → (L2.start N (V.ref a :: ws))[i]? = some (some v) := fun i v e => (start_get (by rw [List.length_cons, hl, ← hlen]; exact hNl)).mpr e
    cases nms with
    | nil => simp at h1
    | cons n ns =>
      cases ws with
      | nil => simp at hl
      | cons w ws =>
        have g0 := get 0 _ rfl
        rw [List.nodup_cons] at nd
        refine ⟨w, get 1 w rfl, _, g0, a, C, rfl, T, hn n (List.mem_cons_self ..), .inl ⟨ha, fun d hd hda => ?_⟩⟩
        refine oexs_go T g0 hda ns 2 ws [(n, w)] _ upd_same (by rw [upd_ne hda]; exact upd_same) (by simpa using hl) (by simp at h9 ⊢; omega) nd.2 (fun m hm => hn m (List.mem_cons_of_mem _ hm)) (fun i v e => by
          have := get (i + 2) v (by simpa using e)
          rwa [show i + 2 = 2 + i by omega] at this) fun l' e1 e2 => ?_
        have e : upd (upd (upd H d (exd d [(n, w)])) a (exo a C (some d))) d (exd d l') = upd (upd H d (exd d l')) a (exo a C (some d)) := by
          funext b
          by_cases hb : b = d
          · rw [hb, upd_same, upd_ne hda, upd_same]
          · rw [upd_ne hb]
            by_cases hb2 : b = a
            · rw [hb2, upd_same, upd_same]
            · rw [upd_ne hb2, upd_ne hb, upd_ne hb2, upd_ne hb]
        show Q .non _
        rw [e]
        refine q d l' hd hda fun i m v g1 g2 => ?_
        cases i with
        | zero =>
          cases g1
          cases g2
          rw [e2 n nd.1]
          simp [List.lookup]
        | succ i => exact e1 i m v (by simpa using g1) (by simpa using g2)
end KS
namespace KS
open PySem PySem.Spec L2
def orF (F G : D → D → Option D) : D → D → Option D := fun a b => match F a b with
  | some z => some z
  | none => G a b
theorem OpS.or {B : Bd} {r r' : R2} {F F' : D → D → Option D} (h : OpS B r F) (h' : OpS B r' F') : OpS B (fun x y H Q => r x y H Q ∨ r' x y H Q) (orF F F') := by
  intro fr σ H Hv x y dx dy a b z Q R rx ry hx hy hz k
  unfold orF at hz
  split at hz
  · next w e =>
    cases hz
    exact .inl (h fr σ H Hv x y dx dy a b _ Q R rx ry hx hy e k)
  · exact .inr (h' fr σ H Hv x y dx dy a b _ Q R rx ry hx hy hz k)
def leTs (ns ms : List Int) : Bool := Ob.lexAt (fun j => decide (ns.getD j 0 = ms.getD j 0)) (fun j => decide (ns.getD j 0 ≤ ms.getD j 0)) (decide (ns.length ≤ ms.length)) 0 (min ns.length ms.length)
def leTF : D → D → Option D
  | .tup ds, .tup es => match intsOf ds, intsOf es with
    | some ns, some ms => some (.bl (leTs ns ms))
    | _, _ => none
  | _, _ => none
section
variable {X : Cx} {B : Bd}
theorem ops_leT (hK : X.K = B.G.K) : OpS B (rLeT X.K) leTF := by
  intro fr σ H Hv x y dx dy a b z Q R rx ry hx hy hz k
  unfold leTF at hz
  split at hz
  · split at hz
    · next ns ms h1 h2 =>
      cases hz
      obtain ⟨p, vs, rfl, q, _, r⟩ := R.tup_of rx hx
      obtain ⟨p2, vs2, rfl, q2, _, r2⟩ := R.tup_of ry hy
      have e1 := ints_rep r h1
      have e2 := ints_rep r2 h2
      subst e1 e2
      exact ⟨p, p2, ns, ms, rfl, rfl, by rw [hK]; exact q, by rw [hK]; exact q2, k _ H Hv (.refl R) repB⟩
    · cases hz
  · cases hz
abbrev leA : D → D → Option D := orF leF leTF
theorem ops_leA (hK : X.K = B.G.K := by rfl) : OpS B (fun x y H Q => rI0 (fun i j => .bl (decide (i ≤ j))) x y H Q ∨ rLeT X.K x y H Q) leA := ops_le.or (ops_leT hK)
theorem op_leA (hu : X.A.units < cLine) : OpR X (compareOp .LtE) (fun x y H Q => rI0 (fun i j => .bl (decide (i ≤ j))) x y H Q ∨ rLeT X.K x y H Q) := op_le.or (op_leT hu)
def inSF : D → D → Option D
  | .str i, .str j => some (.bl (!(Builtin.Str.occurrences j i 0 j.length 1).isEmpty))
  | _, _ => none
theorem ops_inS : OpS B (fun x y H Q => ∃ i j, x = .str i ∧ y = .str j ∧ Q (.bl (!(Builtin.Str.occurrences j i 0 j.length 1).isEmpty)) H) inSF := by
  intro fr σ H Hv x y dx dy a b z Q R rx ry hx hy hz k
  unfold inSF at hz
  split at hz
  · cases hz
    rw [R.str_of rx hx, R.str_of ry hy]
    exact ⟨_, _, rfl, rfl, k _ H Hv (.refl R) repB⟩
  · cases hz
abbrev inA : D → D → Option D := orF inF inSF
theorem ops_inA (hK : X.K = B.G.K := by rfl) : OpS B (fun x y H Q => rInD X.K x y H Q ∨ (∃ i j, x = .str i ∧ y = .str j ∧ Q (.bl (!(Builtin.Str.occurrences j i 0 j.length 1).isEmpty)) H)) inA := (ops_ing hK V.bl D.bl fun _ _ => repB).or ops_inS
theorem op_inA (hu : X.A.units + 65 < cLine) : OpR X (compareOp .In) (fun x y H Q => rInD X.K x y H Q ∨ (∃ i j, x = .str i ∧ y = .str j ∧ Q (.bl (!(Builtin.Str.occurrences j i 0 j.length 1).isEmpty)) H)) := (op_inD hu).or op_in_str
theorem ops_notIn (hK : X.K = B.G.K := by rfl) : OpS B (rNotInD X.K) notInF := ops_ing hK (fun k => V.bl (!k)) (fun k => D.bl (!k)) fun _ _ => repB
theorem ops_eqA (hK : X.K = B.G.K := by rfl) : OpS B (fun x y H Q => rEq x y H Q ∨ rEqD X.K x y H Q) eqF := ops_eq hK
theorem ops_neA (hK : X.K = B.G.K := by rfl) : OpS B (fun x y H Q => rNe x y H Q ∨ rNeD X.K x y H Q) neF := ops_ne hK
end
theorem u0 {k : Nat} {A : Around} (r : Room k A) : A.units < cLine := by have := r.un; omega
theorem u1 {k : Nat} {A : Around} (r : Room k A) : A.units + 1 < cLine := by have := r.un; omega
theorem u16 {k : Nat} {A : Around} (r : Room k A) : A.units + 16 < cLine := by have := r.un; omega
theorem u64 {k : Nat} {A : Around} (r : Room k A) : A.units + 64 < cLine := by have := r.un; omega
theorem u65 {k : Nat} {A : Around} (r : Room k A) : A.units + 65 < cLine := by have := r.un; omega
theorem op_eqA {X : Cx} (hu : X.A.units + 64 < cLine) : OpR X (compareOp .Eq) (fun x y H Q => rEq x y H Q ∨ rEqD X.K x y H Q) := op_eq.or (op_eqD hu)
theorem op_neA {X : Cx} (hu : X.A.units + 64 < cLine) : OpR X (compareOp .NotEq) (fun x y H Q => rNe x y H Q ∨ rNeD X.K x y H Q) := op_ne.or (op_neD hu)
theorem io_ne {ms : List Bool} {io : List (Nat × Addr)} {i : Nat} (h : ∀ p ∈ io, ms[p.1]? = some true) (hi : ms[i]? ≠ some true) : ∀ p ∈ io, p.1 ≠ i := fun p hp z => hi (by rw [← z]; exact h p hp)
theorem pts1 {X : Cx} {c : Expr} {t : TT} (h : PT X c t) : PTs X [c] t := pts_one h
end KS
namespace KS
open PySem PySem.Spec L2
theorem d_globE {X : Cx} {B : Bd} {W : WX} {x : Str} {v : V} {d : D} {pos : Pos} (h : ∃ u, X.mg x = some u ∧ RelV v u) (hr : Rep B.G (fun _ => none) d v) (hg : Gl X x := by rfl) (hd : (x == ("__debug__" : Str)) = false := by decide) : DE X B W (.Name x pos) (eC d) := by
  obtain ⟨u, hm, r⟩ := h
  exact d_glob hr hm r hg hd
theorem aLenN : ∀ fr ds fr1, aNil fr = .ok ds fr1 → ds.length = 0 := fun fr ds fr1 h => by cases h; rfl
theorem aLenC {f : Ev} {g : Av} {n : Nat} (k : ∀ fr ds fr1, g fr = .ok ds fr1 → ds.length = n) : ∀ fr ds fr1, aCons f g fr = .ok ds fr1 → ds.length = n + 1 := by
  intro fr ds fr1 h
  unfold aCons at h
  cases hf : f fr with
  | ok d fr2 =>
    rw [hf] at h
    dsimp only [Res.bind] at h
    cases hg : g fr2 with
    | ok es fr3 =>
      rw [hg] at h
      cases h
      rw [List.length_cons, k _ _ _ hg]
    | exc => rw [hg] at h; cases h
    | bad => rw [hg] at h; cases h
  | exc => rw [hf] at h; cases h
  | bad => rw [hf] at h; cases h
end KS
namespace KS
def NoNx (g : Sv) : Prop := ∀ fr fr', g fr ≠ .ok .nx fr'
theorem noNx_seq {g h : Sv} (k : NoNx h) : NoNx (sSeq g h) := by
  intro fr fr' e
  unfold sSeq at e
  cases hg : g fr with
  | ok fl fr1 =>
    rw [hg] at e
    cases fl with
    | nx => exact k fr1 fr' e
    | _ => cases e
  | exc => rw [hg] at e; cases e
  | bad => rw [hg] at e; cases e
theorem noNx_seqL {g h : Sv} (k : NoNx g) : NoNx (sSeq g h) := by
  intro fr fr' e
  unfold sSeq at e
  cases hg : g fr with
  | ok fl fr1 =>
    rw [hg] at e
    cases fl with
    | nx => exact k fr fr1 hg
    | _ => cases e
  | exc => rw [hg] at e; cases e
  | bad => rw [hg] at e; cases e
theorem noNx_retV {i : Nat} : NoNx (sRetV i) := by
  intro fr fr' e
  unfold sRetV at e
  split at e
  · split at e <;> cases e
  · cases e
end KS
namespace KS
open PySem
@[simp] theorem bind_ok {σ α β : Type} (a : α) (s : σ) (k : α → σ → Res σ β) : (Res.ok a s).bind k = k a s := rfl
@[simp] theorem bind_exc {σ α β : Type} (c : Nat) (fs : List D) (s : σ) (k : α → σ → Res σ β) : (Res.exc c fs s).bind k = .exc c fs s := rfl
@[simp] theorem bind_bad {σ α β : Type} (k : α → σ → Res σ β) : (Res.bad).bind k = .bad := rfl
end KS
namespace KS
def Ends (r : Res Fr Fl) (P : Fl → Fr → Prop) : Prop := ∃ fl fr, r = .ok fl fr ∧ P fl fr
theorem Ends.imp {r : Res Fr Fl} {P Q : Fl → Fr → Prop} (h : Ends r P) (k : ∀ fl fr, P fl fr → Q fl fr) : Ends r Q := by
  obtain ⟨fl, fr, e, p⟩ := h
  exact ⟨fl, fr, e, k fl fr p⟩
end KS
namespace KS
@[simp] theorem ends_ok {fl : Fl} {fr : Fr} {P : Fl → Fr → Prop} : Ends (.ok fl fr) P ↔ P fl fr := ⟨fun ⟨_, _, e, p⟩ => by cases e; exact p, fun p => ⟨_, _, rfl, p⟩⟩
end KS
namespace KS
end KS
namespace KS
open PySem
theorem outs_len {k : Nat} {fr : Fr} : (outsOf k fr).length = k := by simp [outsOf]
end KS
namespace KS
open PySem
end KS
namespace KS
open PySem PySem.Spec L2
def whileF (t : Bv) (g : Sv) : Nat → Sv
  | 0 => fun _ => .bad
  | n + 1 => fun fr => (t fr).bind fun b fr1 => if b = true then ((g fr1).bind fun fl fr2 => match fl with
    | .nx => whileF t g n fr2
    | .cnt => whileF t g n fr2
    | .brk => .ok .nx fr2
    | .ret d => .ok (.ret d) fr2) else .ok .nx fr1
def sWhile (t : Bv) (g : Sv) : Sv := whileF t g 1000000000
section
variable {X : Cx} {B : Bd} {W : WX} {rf : Bool} {body : List Stmt} {c : Expr} {t : Bv} {g : Sv} {pos : Pos}
theorem s_while (hp : PassesOwn (model X.prog X.w) X.A X.env X.xe) (ht : DT X B W c t) (hb : DSs X B W rf body g) : DS X B W rf (.While c body [] pos) (sWhile t g) := by
  refine ps_imp (ps_while hp ht hb) fun D σ H hh => ?_
  obtain ⟨fr, Hv, R, hh⟩ := hh
  refine ⟨fun m σ' H' => ∃ fr' Hv', Rel B fr' σ' H' Hv' ∧ PostS B W rf Hv' (whileF t g m fr') D, ⟨_, fr, Hv, R, hh⟩, fun m σ' H' p => ?_⟩
  obtain ⟨fr', Hv', R', P⟩ := p
  refine ⟨fr', Hv', R', ?_⟩
  cases m with
  | zero => exact P.elim
  | succ m =>
    unfold whileF at P
    cases htf : t fr' with
    | bad => rw [htf] at P; exact P.elim
    | exc k fs fr1 =>
      rw [htf] at P
      exact fun dd H2 Hv2 n => P dd σ' H2 Hv2 n.rel n.ext
    | ok b fr1 =>
      rw [htf] at P
      dsimp only [Res.bind] at P
      intro H2 Hv2 n
      cases b with
      | false =>
        rw [if_neg Bool.false_ne_true] at P ⊢
        exact P σ' H2 Hv2 n.rel n.ext
      | true =>
        rw [if_pos rfl] at P ⊢
        refine ⟨fun σ3 H3 => ∃ fr3 Hv3, Rel B fr3 σ3 H3 Hv3 ∧ PostS B W rf Hv3 (whileF t g m fr3) D, fun σ3 H3 h3 => ⟨m, Nat.lt_succ_self m, h3⟩, fr1, Hv2, n.rel, ?_⟩
        cases hg : g fr1 with
        | bad => rw [hg] at P; exact P.elim
        | exc k fs fr3 =>
          rw [hg] at P
          exact fun dd σ3 H3 Hv3 a e => P dd σ3 H3 Hv3 a (n.ext.trans e)
        | ok fl fr3 =>
          rw [hg] at P
          dsimp only at P
          cases fl with
          | nx => exact fun σ3 H3 Hv3 a e => ⟨fr3, Hv3, a, PostS.step (n.ext.trans e) P⟩
          | cnt => exact fun σ3 H3 Hv3 a e => ⟨fr3, Hv3, a, PostS.step (n.ext.trans e) P⟩
          | brk => exact fun σ3 H3 Hv3 a e => P σ3 H3 Hv3 a (n.ext.trans e)
          | ret d => exact P
end
end KS
namespace KS
open PySem PySem.Spec PyProof.Rows L2
open PySem.W (EachIs AllAlike Sortable dataLe alike alikeAll)
end KS
namespace KS
open PySem PySem.Spec PyProof.Rows L2
open PySem.W (EachIs AllAlike Sortable list_sort_data dataLe alike alikeAll)
end KS
namespace KS
open PySem PySem.Spec L2
end KS
namespace KS
open PySem PySem.Spec PyProof.Rows L2
open PySem.SeqAt (dataPlace remove_list_data)
end KS
namespace KS
open PySem PySem.Spec L2
end KS
namespace KS
open PySem PySem.Spec L2
end KS
namespace KS
open PySem PySem.Spec L2
/-- the slots that the mask tells are let go -/
def killF : Fr → List Bool → Fr
  | x :: fr, m :: ms => (match m with | true => none | false => x) :: killF fr ms
  | fr, [] => fr
  | [], _ :: _ => []
/-- slots let go ahead of a statement -/
def kS (js : List Bool) (g : Sv) : Sv := fun fr => g (killF fr js)
/-- .. behind it, where it runs through, breaks or continues -/
def sK (js : List Bool) (g : Sv) : Sv := fun fr => (g fr).bind fun fl fr1 => match fl with
  | .ret d => .ok (.ret d) fr1
  | fl => .ok fl (killF fr1 js)
/-- .. behind it, where it runs through -/
def sKn (js : List Bool) (g : Sv) : Sv := fun fr => (g fr).bind fun fl fr1 => match fl with
  | .nx => .ok .nx (killF fr1 js)
  | fl => .ok fl fr1
def iK (js : List Bool) (h : Iv) : Iv := fun fr => (h fr).bind fun ds fr1 => .ok ds (killF fr1 js)
section
variable {X : Cx} {B : Bd} {W : WX} {rf : Bool} {st : Stmt} {ss : List Stmt} {g : Sv} {js : List Bool} {fr : Fr} {σ : L2.St} {H Hv : Hp}
theorem killF_at : ∀ (fr : Fr) (js : List Bool) (i : Nat), (killF fr js)[i]? = if js[i]? = some true then (fr[i]?).map (fun _ => none) else fr[i]?
  | [], [], i => by simp [killF]
  | x :: fr, [], i => by simp [killF]
  | [], _ :: _, i => by simp [killF]
  | x :: fr, m :: ms, 0 => by cases m <;> simp [killF]
  | x :: fr, m :: ms, i + 1 => by
    have := killF_at fr ms i
    simpa [killF] using this
theorem killF_get (js : List Bool) {fr : Fr} {i : Nat} {d : D} (h : (killF fr js)[i]? = some (some d)) : fr[i]? = some (some d) := by
  rw [killF_at] at h
  split at h
  · cases e : fr[i]? with
    | none => rw [e] at h; cases h
    | some x => rw [e] at h; cases h
  · exact h
theorem killF_len (fr : Fr) (js : List Bool) : (killF fr js).length = fr.length := by
  induction fr generalizing js with
  | nil => cases js <;> rfl
  | cons x fr ih => cases js with
    | nil => rfl
    | cons m ms => simp [killF, ih]
theorem Rel.weak {fr fr' : Fr} (R : Rel B fr σ H Hv) (hl : fr'.length = fr.length) (h : ∀ (i : Nat) (d : D), fr'[i]? = some (some d) → fr[i]? = some (some d)) (hio : ∀ p ∈ B.io, fr'[p.1]? = fr[p.1]?) : Rel B fr' σ H Hv where
  sub := R.sub
  ext0 := R.ext0
  new := R.new
  keep := R.keep
  len := by rw [hl]; exact R.len
  val := fun j d e hm => R.val j d (h j d e) hm
  box := fun j d e hc hm => R.box j d (h j d e) hc hm
  own := fun j d e hm => R.own j d ⟨h j d e.1, e.2⟩ hm
  sep := fun j k a dj dk hj hk hjk e1 e2 => R.sep j k a dj dk hj hk hjk ⟨h _ _ e1.1, e1.2⟩ ⟨h _ _ e2.1, e2.2⟩
  io := fun p hp => by
    obtain ⟨h1, ⟨d, h2, h3⟩, h4⟩ := R.io p hp
    exact ⟨h1, ⟨d, by rw [hio p hp]; exact h2, h3⟩, h4⟩
  tab := R.tab
theorem Rel.kill (js : List Bool) {fr : Fr} (R : Rel B fr σ H Hv) (h : ∀ p ∈ B.io, js[p.1]? ≠ some true) : Rel B (killF fr js) σ H Hv :=
  R.weak (killF_len fr js) (fun _ _ => killF_get js) fun p hp => by rw [killF_at, if_neg (h p hp)]
theorem Nxt.kill {fr1 : Fr} {H1 Hv1 : Hp} (n : Nxt B fr σ H Hv fr1 H1 Hv1) (hio : ∀ p ∈ B.io, js[p.1]? ≠ some true) : Nxt B fr σ H Hv (killF fr1 js) H1 Hv1 :=
  ⟨n.rel.kill js hio, n.ext, n.keep, fun i d hi h => n.shp i d hi ⟨killF_get js h.1, h.2⟩, n.alive, n.newv⟩
theorem tS_kS {D : L2.Ends} (hio : ∀ p ∈ B.io, js[p.1]? ≠ some true) (h : dTS B W rf (kS js g) D σ H) : dTS B W rf g D σ H := by
  obtain ⟨fr, Hv, R, h⟩ := h
  exact ⟨killF fr js, Hv, R.kill js hio, h⟩
theorem tS_sK {D : L2.Ends} (hio : ∀ p ∈ B.io, js[p.1]? ≠ some true) (h : dTS B W rf (sK js g) D σ H) : dTS B W rf g D σ H := by
  obtain ⟨fr, Hv, R, h⟩ := h
  refine ⟨fr, Hv, R, ?_⟩
  unfold sK at h
  cases hg : g fr with
  | bad => rw [hg] at h; exact h.elim
  | exc c fs fr1 => rw [hg] at h; exact h
  | ok fl fr1 =>
    rw [hg] at h
    dsimp only [Res.bind] at h
    cases fl with
    | ret d => exact h
    | nx => exact fun σ' H' Hv' R' s => h σ' H' Hv' (R'.kill js hio) s
    | brk => exact fun σ' H' Hv' R' s => h σ' H' Hv' (R'.kill js hio) s
    | cnt => exact fun σ' H' Hv' R' s => h σ' H' Hv' (R'.kill js hio) s
theorem tS_sKn {D : L2.Ends} (hio : ∀ p ∈ B.io, js[p.1]? ≠ some true) (h : dTS B W rf (sKn js g) D σ H) : dTS B W rf g D σ H := by
  obtain ⟨fr, Hv, R, h⟩ := h
  refine ⟨fr, Hv, R, ?_⟩
  unfold sKn at h
  cases hg : g fr with
  | bad => rw [hg] at h; exact h.elim
  | exc c fs fr1 => rw [hg] at h; exact h
  | ok fl fr1 =>
    rw [hg] at h
    dsimp only [Res.bind] at h
    cases fl with
    | ret d => exact h
    | nx => exact fun σ' H' Hv' R' s => h σ' H' Hv' (R'.kill js hio) s
    | brk => exact h
    | cnt => exact h
theorem s_kS (hio : ∀ p ∈ B.io, js[p.1]? ≠ some true) (h : DS X B W rf st g) : DS X B W rf st (kS js g) := ps_imp h fun _ _ _ q => tS_kS hio q
theorem s_sKn (hio : ∀ p ∈ B.io, js[p.1]? ≠ some true) (h : DS X B W rf st g) : DS X B W rf st (sKn js g) := ps_imp h fun _ _ _ q => tS_sKn hio q
theorem ss_sK (hio : ∀ p ∈ B.io, js[p.1]? ≠ some true) (h : DSs X B W rf ss g) : DSs X B W rf ss (sK js g) := pss_imp h fun _ _ _ q => tS_sK hio q
theorem i_iK {tg it : Expr} {h : Iv} (hio : ∀ p ∈ B.io, js[p.1]? ≠ some true) (hi : DI X B W tg it h) : DI X B W tg it (iK js h) := by
  refine pi_imp hi fun σ H R q => ?_
  obtain ⟨fr, Hv, Rl, q⟩ := q
  refine ⟨fr, Hv, Rl, ?_⟩
  unfold iK at q
  cases hg : h fr with
  | bad => rw [hg] at q; exact q.elim
  | exc c fs fr1 => rw [hg] at q; exact q
  | ok ds fr1 =>
    rw [hg] at q
    exact fun J H1 Hv1 n w => q J H1 Hv1 (n.kill hio) w
theorem io_not {ms : List Bool} {io : List (Nat × Addr)} (h : ∀ p ∈ io, ms[p.1]? = some true) (d : ((ms.zip js).all fun p => !(p.1 && p.2)) = true) : ∀ p ∈ io, js[p.1]? ≠ some true := fun p hp e => by
  have h1 := h p hp
  have : (true, true) ∈ ms.zip js := List.mem_iff_getElem?.mpr ⟨p.1, by rw [List.getElem?_zip_eq_some]; exact ⟨h1, e⟩⟩
  have := List.all_eq_true.mp d _ this
  cases this
end
end KS
namespace KS
open PySem PySem.Spec L2
def inTB (a b : D) : Option Bool := match pyOf a, pyOf b with
  | some p, some (.tuple qs) => if SeqAt.shaped p && SeqAt.shaped (.tuple qs) then some (qs.any fun z => PyData.eqv z p) else none
  | _, _ => none
def inTF (a b : D) : Option D := (inTB a b).map D.bl
def notInTF (a b : D) : Option D := (inTB a b).map fun k => D.bl (!k)
def rInTD (K : PySem.W.Frag) : R2 := fun x y H Q => ∃ d ds, Dp K H x d ∧ Dp K H y (.tuple ds) ∧ SeqAt.shaped d = true ∧ SeqAt.shaped (.tuple ds) = true ∧ Q (.bl (ds.any fun z => PyData.eqv z d)) H
def rNotInTD (K : PySem.W.Frag) : R2 := fun x y H Q => ∃ d ds, Dp K H x d ∧ Dp K H y (.tuple ds) ∧ SeqAt.shaped d = true ∧ SeqAt.shaped (.tuple ds) = true ∧ Q (.bl (!ds.any fun z => PyData.eqv z d)) H
section
variable {X : Cx} {B : Bd}
theorem op_inTD (hu : X.A.units + 65 < cLine) : OpR X (compareOp .In) (rInTD X.K) := by
  intro pins s σ H x y v u Q I rx ry h
  obtain ⟨d, ds, hd, he, sd, se, q⟩ := h
  obtain ⟨as, r1⟩ := Dp.reads I d x v hd rx
  obtain ⟨bs, r2⟩ := Dp.reads I (.tuple ds) y u he ry
  exact SeqAt.in_tuple_reads r2 r1 (SeqAt.canLay_of_shaped se) (SeqAt.canLay_of_shaped sd) (PyProof.Rows.room_in_shaped sd hu) ⟨.bl _, H, I, rfl, q⟩
theorem op_notInTD (hu : X.A.units + 65 < cLine) : OpR X (compareOp .NotIn) (rNotInTD X.K) := by
  intro pins s σ H x y v u Q I rx ry h
  obtain ⟨d, ds, hd, he, sd, se, q⟩ := h
  obtain ⟨as, r1⟩ := Dp.reads I d x v hd rx
  obtain ⟨bs, r2⟩ := Dp.reads I (.tuple ds) y u he ry
  exact SeqAt.notIn_tuple_reads r2 r1 (SeqAt.canLay_of_shaped se) (SeqAt.canLay_of_shaped sd) (PyProof.Rows.room_in_shaped sd hu) ⟨.bl _, H, I, rfl, q⟩
theorem ops_inTg (hK : X.K = B.G.K) (r : Bool → V) (rr : Bool → D) (hr : ∀ k H, Rep B.G H (rr k) (r k)) : OpS B (fun x y H Q => ∃ d ds, Dp X.K H x d ∧ Dp X.K H y (.tuple ds) ∧ SeqAt.shaped d = true ∧ SeqAt.shaped (.tuple ds) = true ∧ Q (r (ds.any fun z => PyData.eqv z d)) H) (fun a b => (inTB a b).map rr) := by
  intro fr σ H Hv x y dx dy a b z Q R rx ry hx hy hz k
  simp only [Option.map_eq_some_iff] at hz
  obtain ⟨m, hz, rfl⟩ := hz
  unfold inTB at hz
  split at hz
  · next p qs ep eq =>
    split at hz
    · next c =>
      cases hz
      have c' := Bool.and_eq_true_iff.mp c
      refine ⟨p, qs, ?_, ?_, c'.1, c'.2, k _ H Hv (.refl R) (hr _ _)⟩
      · rw [hK]; exact dp_look R rx hx ep
      · rw [hK]; exact dp_look R ry hy eq
    · cases hz
  · cases hz
abbrev inA2 : D → D → Option D := orF inA inTF
abbrev notInA2 : D → D → Option D := orF notInF notInTF
theorem ops_inA2 (hK : X.K = B.G.K := by rfl) : OpS B (fun x y H Q => (rInD X.K x y H Q ∨ (∃ i j, x = .str i ∧ y = .str j ∧ Q (.bl (!(Builtin.Str.occurrences j i 0 j.length 1).isEmpty)) H)) ∨ rInTD X.K x y H Q) inA2 := (ops_inA hK).or (ops_inTg hK V.bl D.bl fun _ _ => repB)
theorem op_inA2 (hu : X.A.units + 65 < cLine) : OpR X (compareOp .In) (fun x y H Q => (rInD X.K x y H Q ∨ (∃ i j, x = .str i ∧ y = .str j ∧ Q (.bl (!(Builtin.Str.occurrences j i 0 j.length 1).isEmpty)) H)) ∨ rInTD X.K x y H Q) := (op_inA hu).or (op_inTD hu)
theorem ops_notInA2 (hK : X.K = B.G.K := by rfl) : OpS B (fun x y H Q => rNotInD X.K x y H Q ∨ rNotInTD X.K x y H Q) notInA2 := (ops_notIn hK).or (ops_inTg hK (fun k => V.bl (!k)) (fun k => D.bl (!k)) fun _ _ => repB)
theorem op_notInA2 (hu : X.A.units + 65 < cLine) : OpR X (compareOp .NotIn) (fun x y H Q => rNotInD X.K x y H Q ∨ rNotInTD X.K x y H Q) := (op_notInD hu).or (op_notInTD hu)
end
end KS
namespace KS
open PySem PySem.Spec PyProof.Rows L2
/-- a clause: the class, the name's slot, the suite's reading -/
structure Cl where
  c : Value
  nm : Option Nat
  ts : Addr → Value → Option Addr → TS
def endsN (D : L2.Ends) : Option Nat → L2.Ends
  | none => D
  | some i => { nx := fun σ' H' => D.nx (σ'.set i none) H', rt := D.rt, bk := fun σ' H' => D.bk (σ'.set i none) H', ct := fun σ' H' => D.ct (σ'.set i none) H' }
def setN (σ : L2.St) (a : Addr) : Option Nat → L2.St
  | none => σ
  | some i => σ.set i (some (.ref a))
def wClauses (K : PySem.W.Frag) (Wout : WX) (D : L2.Ends) : List Cl → WX
  | [] => Wout
  | ⟨c, nm, ts⟩ :: r => fun cls d σ H => ∃ b, PySem.W.exmOne K cls c = some b ∧ (b = true → ∀ a, H a = none → ts a cls d (endsN D nm) (setN σ a nm) H) ∧ (b = false → wClauses K Wout D r cls d σ H)
inductive ClsOk (X : Cx) : List ExceptHandler → List Cl → Prop
  | nil : ClsOk X [] []
  | plain {x : Str} {c : Value} {ts : Addr → Value → Option Addr → TS} {b₀ : Stmt} {suite : List Stmt} {np pos' : Pos} {hds : List ExceptHandler} {l : List Cl} (hc : Names X x c)
      (hsu : ∀ (a : Addr) (oe : Obj) (cls : Value) (d : Option Addr) (pn : List (Addr × Obj)), L2N.Zn cls d oe → (∃ vs, oe.data = .fields vs) → PSs (X.suite a ((a, oe) :: pn)) (b₀ :: suite) (ts a cls d)) (r : ClsOk X hds l) :
      ClsOk X (.ExceptHandler (some (.Name x np)) none (b₀ :: suite) pos' :: hds) (⟨c, none, ts⟩ :: l)
  | named {x n : Str} {i : Nat} {c : Value} {ts : Addr → Value → Option Addr → TS} {b₀ : Stmt} {suite : List Stmt} {np pos' : Pos} {hds : List ExceptHandler} {l : List Cl} (hc : Names X x c) (hi : X.N[i]? = some n) (hln : X.env.kindOf n = some .local)
      (hsu : ∀ (a : Addr) (oe : Obj) (cls : Value) (d : Option Addr) (pn : List (Addr × Obj)), L2N.Zn cls d oe → (∃ vs, oe.data = .fields vs) → PSs (X.suite a ((a, oe) :: pn)) (b₀ :: suite) (ts a cls d)) (r : ClsOk X hds l) :
      ClsOk X (.ExceptHandler (some (.Name x np)) (some n) (b₀ :: suite) pos' :: hds) (⟨c, some i, ts⟩ :: l)
section
variable {X : Cx} {body : List Stmt} {h₀ : ExceptHandler} {hds : List ExceptHandler} {l : List Cl} {pos : Pos} {tb : WX → TS} {Wout : WX}
theorem ps_tryN (hs : X.stack = X.env :: X.outer) (hf : X.env.frame = some X.env.locals) (hN : X.N.Nodup) (tk : L2N.Takes X Wout)
    (hb : ∀ (W : WX) (pn : List (Addr × Obj)) (xe : Value → Shared → Prop), L2N.Takes (X.tr pn xe) W → PassesOwn (model X.prog X.w) X.A X.env xe → PSs (X.tr pn xe) body (tb W))
    (hh : ClsOk X (h₀ :: hds) l) : PS X (.Try body (h₀ :: hds) [] [] pos) (fun D σ H => tb (wClauses X.K Wout D l) D σ H) := by
  refine ⟨fun pins s σ H D I h => ?_⟩
  have ok := I.ok
  have hfr : X.A.frames = some (X.env :: X.outer) := by rw [ok.frames, hs]
  refine wpAny_Try_except ?_
  refine wpAny_mono ((hb (wClauses X.K Wout D l) (X.pn ++ pins) (fun e s₁ => wpAny (model X.prog X.w) X.A (noteFrame e X.env) (fun _ s₂ => wpAny (model X.prog X.w) X.A (setFlight e none) (fun _ s₃ =>
    wpAny (model X.prog X.w) X.A (handleBy e X.env (h₀ :: hds)) (SP X pins D) X.xe s₃) X.xe s₂) X.xe s₁) (fun u s' xx => ?_) PassesOwn.looking).run [] s σ H D (I.toTry _) h) (fun f s1 hsp => ?_) (fun e s1 he => he)
  · obtain ⟨a, B, sI, pins', σ', H', cls, d, rfl, J', nb, up, sky, na, os, ag, w⟩ := xx
    have J : Inv X pins σ' H' sI := J'.ofTry ok
    have sky' : Sky B (X.env :: X.outer) a (L2N.Zn cls d) X.env.locals s'.heap := by rw [← hs]; exact sky
    show wpAny (model X.prog X.w) X.A (noteFrame (.ref a) X.env) _ _ _
    refine L2N.Sky.land L2N.Zn.steady hfr hf sky' fun h3 fl3 up3 => ?_
    have J3 : Inv X pins σ' H' { s' with heap := h3 } := J.landed nb fl3.1 (up.trans up3) os ag
    obtain ⟨oe3, vs3, he3, hz3, hd3⟩ := fl3.there
    have notFr : ∀ {h : Heap} {o : Obj} {vs : Array Value}, h.FunFrames B (X.env :: X.outer) → h.get? a = some o → o.data = .fields vs → a ∉ frs (X.env :: X.outer) := fun {h o vs} ff e dd hm => by
      obtain ⟨_, o', e', hnf⟩ := ff.mem hm
      rw [e] at e'; cases e'
      exact hnf _ dd
    have nfr := notFr fl3.2.2.1 he3 hd3
    have nL : a ≠ X.env.locals := fun z => nfr (List.mem_filterMap.mpr ⟨X.env, List.mem_cons_self, by rw [hf, z]⟩)
    have nF : a ∉ X.fs := fun hm => by
      obtain ⟨e, he, q⟩ := List.mem_filterMap.mp hm
      exact nfr (List.mem_filterMap.mpr ⟨e, List.mem_cons_of_mem _ he, q⟩)
    have S3 := J3.suite he3 hd3 na nL nF
    have LT : PySem.W.Looks (model X.prog X.w) h3 (typeOf (.ref a)) cls := fun A Q E s k q => wpAny_typeOf_ref (k _ _ he3) (by rw [hz3.1]; exact q)
    have go : ∀ {hds' : List ExceptHandler} {l' : List Cl}, ClsOk X hds' l' → wClauses X.K Wout D l' cls d σ' H' →
        wpAny (model X.prog X.w) X.A (handleBy (.ref a) X.env hds') (SP X pins D) X.xe { s' with heap := h3 } := by
      intro hds' l' hk
      induction hk with
      | nil =>
        intro w
        refine wpAny_handleBy_nil ?_
        obtain ⟨k1, k2, k3, oe, vs, T, oT, ts', he, hz, hd, h1, hr⟩ := id fl3
        unfold PySem.passOn
        refine wpAny_bind (wpAny_field he hd h1 ?_)
        rw [if_neg (show ¬ ((Value.ref T == Value.none) = true) from by simp)]
        have fin : wpAny (model X.prog X.w) X.A (setFlight (.ref a) X.env.frame) (fun _ s4 => wpAny (model X.prog X.w) X.A (throw (.ref a) : Sem Flow) (SP X pins D) X.xe s4) X.xe { s' with heap := h3 } := by
          rw [hf]
          refine HandSPX.setFlight_upZ fl3 fun h4 hh4 up4 => wpAny_throw (tk _ _ ?_)
          exact ⟨a, B, sI, pins, σ', H', cls, d, rfl, J, nb, (up.trans up3).trans up4, .inr (.inr (by rw [hs]; exact hh4)), na, os, ag, w⟩
        first
          | exact wpAny_bind (wpAny_pure (wpAny_bind fin))
          | exact wpAny_bind fin
      | @plain x c ts b₀ suite np pos' hds2 l2 hc hsu r ih =>
        intro w
        obtain ⟨b, hb1, hyes, hno⟩ := w
        refine wpAny_handleBy_cons (codeAny_handlers_test ?_) (by intro q; cases q)
        have LM := PySem.W.exm_one (M := model X.prog X.w) (J3.kIn) LT hb1
        have test : ∀ {Q : Value → Shared → Prop} {E : Value → Shared → Prop}, Q c { s' with heap := h3 } → wpAny (model X.prog X.w) (X.A.mark (some (.ref a))) (eval (.Name x np) X.env) Q E { s' with heap := h3 } := fun {Q E} q => by
          obtain ⟨hg, hdbg, hm | ⟨hm, hv, hnn⟩⟩ := hc
          · exact ld_glob (X := X.suite a ((a, oe3) :: (X.pn ++ pins))) S3 hg hm q hdbg
          · exact ld_blt (X := X.suite a ((a, oe3) :: (X.pn ++ pins))) S3 hg hm hv q hnn hdbg
        refine test (LM.here ?_)
        cases b with
        | true =>
          refine codeAny_handlers_suite ?_
          refine HandSPX.lands_againZ fl3 fun h4 fl4 up4 => ?_
          have J4 : Inv X pins σ' H' { s' with heap := h4 } := J.landed nb fl4.1 ((up.trans up3).trans up4) os ag
          obtain ⟨oe4, vs4, he4, hz4, hd4⟩ := fl4.there
          have S4 := J4.suite he4 hd4 na nL nF
          refine wpAny_mono ((hsu a oe4 cls d (X.pn ++ pins) hz4 ⟨_, hd4⟩).run [] _ _ H' _ S4 (hyes rfl a na)) (fun f s6 hsp => ?_) (fun _ _ z => False.elim z)
          cases f with
          | next =>
            obtain ⟨σ6, H6, S6, q6⟩ := hsp
            exact ⟨_, _, S6.unsuite ok, q6⟩
          | brk =>
            obtain ⟨σ6, H6, S6, q6⟩ := hsp
            exact ⟨_, _, S6.unsuite ok, q6⟩
          | cont =>
            obtain ⟨σ6, H6, S6, q6⟩ := hsp
            exact ⟨_, _, S6.unsuite ok, q6⟩
          | ret u =>
            obtain ⟨v6, σ6, H6, S6, r6, q6⟩ := hsp
            exact ⟨_, _, _, S6.unsuite ok, r6, q6⟩
        | false =>
          show wpAny _ X.A (handleBy (.ref a) X.env hds2) _ _ _
          exact ih (hno rfl)
      | @named x n i c ts b₀ suite np pos' hds2 l2 hc hi hln hsu r ih =>
        intro w
        obtain ⟨b, hb1, hyes, hno⟩ := w
        refine wpAny_handleBy_cons (codeAny_handlers_test ?_) (by intro q; cases q)
        have LM := PySem.W.exm_one (M := model X.prog X.w) (J3.kIn) LT hb1
        have hloc : Loc X.env.scope n := .inl hln
        have test : ∀ {Q : Value → Shared → Prop} {E : Value → Shared → Prop}, Q c { s' with heap := h3 } → wpAny (model X.prog X.w) (X.A.mark (some (.ref a))) (eval (.Name x np) X.env) Q E { s' with heap := h3 } := fun {Q E} q => by
          obtain ⟨hg, hdbg, hm | ⟨hm, hv, hnn⟩⟩ := hc
          · exact ld_glob (X := X.suite a ((a, oe3) :: (X.pn ++ pins))) S3 hg hm q hdbg
          · exact ld_blt (X := X.suite a ((a, oe3) :: (X.pn ++ pins))) S3 hg hm hv q hnn hdbg
        refine test (LM.here ?_)
        cases b with
        | true =>
          refine codeAny_handlers_suite_as ?_
          refine HandSPX.lands_againZ fl3 fun h4 fl4 up4 => ?_
          have J4 : Inv X pins σ' H' { s' with heap := h4 } := J.landed nb fl4.1 ((up.trans up3).trans up4) os ag
          obtain ⟨oe4, vs4, he4, hz4, hd4⟩ := fl4.there
          have S4 := J4.suite he4 hd4 na nL nF
          refine store_ok (X := X.suite a ((a, oe4) :: (X.pn ++ pins))) (v := .ref a) S4 hN hi hloc rfl (fun s5 S5 => ?_) (.inr hln)
          refine wpAny_mono ((hsu a oe4 cls d (X.pn ++ pins) hz4 ⟨_, hd4⟩).run [] s5 _ H' _ S5 (hyes rfl a na)) (fun f s6 hsp => ?_) (fun _ _ z => False.elim z)
          have end_ : ∀ {σ6 : L2.St} {H6 : Hp} {Q : Shared → Prop}, Inv (X.suite a ((a, oe4) :: (X.pn ++ pins))) [] σ6 H6 s6 → (∀ s7, Inv X pins (σ6.set i none) H6 s7 → Q s7) →
              wpAny (model X.prog X.w) X.A (do bindName X.env n .none; unbindBehindTheSuite X.env n pos') (fun _ s7 => Q s7) X.xe s6 := fun {σ6 H6 Q} S6 hq => gone_ok (S6.unsuite ok) hN hi hln hq
          cases f with
          | next =>
            obtain ⟨σ6, H6, S6, q6⟩ := hsp
            exact end_ S6 fun s7 J7 => ⟨_, _, J7, q6⟩
          | brk =>
            obtain ⟨σ6, H6, S6, q6⟩ := hsp
            exact end_ S6 fun s7 J7 => ⟨_, _, J7, q6⟩
          | cont =>
            obtain ⟨σ6, H6, S6, q6⟩ := hsp
            exact end_ S6 fun s7 J7 => ⟨_, _, J7, q6⟩
          | ret u =>
            obtain ⟨v6, σ6, H6, S6, r6, q6⟩ := hsp
            exact end_ S6 fun s7 J7 => ⟨_, _, _, J7, r6, q6⟩
        | false =>
          show wpAny _ X.A (handleBy (.ref a) X.env hds2) _ _ _
          exact ih (hno rfl)
    exact go hh w
  · cases f with
    | next =>
      obtain ⟨σ', H', J', q⟩ := hsp
      exact wpAny_execs_nil ⟨σ', H', J'.ofTry ok, q⟩
    | brk =>
      obtain ⟨σ', H', J', q⟩ := hsp
      exact ⟨σ', H', J'.ofTry ok, q⟩
    | cont =>
      obtain ⟨σ', H', J', q⟩ := hsp
      exact ⟨σ', H', J'.ofTry ok, q⟩
    | ret u =>
      obtain ⟨v, σ', H', J', r, q⟩ := hsp
      exact ⟨v, σ', H', J'.ofTry ok, r, q⟩
end
end KS
namespace KS
open PySem PySem.Spec PyProof.Rows L2
/-- a clause: which classes it takes, its name's slot, its suite (by the class and the fields) -/
structure Hd where
  t : Nat → Bool
  nm : Option Nat
  g : Nat → List D → Sv
def inN (fr : Fr) : Option Nat → Fr
  | none => fr
  | some i => fr.set i (some (.tup [.var i]))
def outN (fr : Fr) : Option Nat → Fr
  | none => fr
  | some i => fr.set i none
def suiteE (h : Hd) (c : Nat) (fs : List D) (fr : Fr) : Res Fr Fl := match h.g c fs (inN fr h.nm) with
  | .ok fl fr' => .ok fl (outN fr' h.nm)
  | _ => .bad
def hand : List Hd → Nat → List D → Fr → Res Fr Fl
  | [], c, fs, fr => .exc c fs fr
  | h :: r, c, fs, fr => if h.t c = true then suiteE h c fs fr else hand r c fs fr
def sTry (n : Nat) (g : Sv) (hs : List Hd) : Sv := fun fr => match g fr with
  | .exc c fs fr1 => if c < n then hand hs c fs fr1 else .bad
  | r => r
/-- the suite's boundary: the exception's dict and its fields' values stay as they are -/
def Bd.hot (B : Bd) (H Hv : Hp) (dd : Addr) (ex : Option (Nat × Addr)) : Bd := { B with H0 := fun b => if b = dd then H dd else B.H0 b, Hv0 := Hv, ex := ex }
section
variable {B : Bd} {fr : Fr} {σ : L2.St} {H Hv : Hp} {dd : Addr} {l : List (Str × V)}
theorem hot_H0 {ex : Option (Nat × Addr)} {b : Addr} (h : (B.hot H Hv dd ex).H0 b = none) (hd : H dd = some (.xd l)) : b ≠ dd ∧ B.H0 b = none := by
  have h : (if b = dd then H dd else B.H0 b) = none := h
  split at h
  · rw [hd] at h; cases h
  · next c => exact ⟨c, h⟩
theorem Cell.noxd {G : SE} {a : Addr} {d : D} (hd : H a = some (.xd l)) : ¬ Cell G H Hv a d := by
  intro c
  cases d <;> first | exact c.elim | skip
  · obtain ⟨vs, e, _⟩ := c
    rw [hd] at e; cases e
  · obtain ⟨dx, vs, e, _⟩ := c
    rw [hd] at e; cases e
  · obtain ⟨us, e, _⟩ := c
    rcases e with ⟨kvs, e, _⟩ | ⟨kvs, e, _⟩ <;> (rw [hd] at e; cases e)
theorem Rel.xd_notab (R : Rel B fr σ H Hv) (hd : H dd = some (.xd l)) : dd ∉ B.G.tabs := fun hm => by
  obtain ⟨⟨ps, e, _⟩, _⟩ := R.tab dd hm
  rw [hd] at e; cases e
theorem Rel.xd_noio (R : Rel B fr σ H Hv) (hd : H dd = some (.xd l)) : ∀ p ∈ B.io, p.2 ≠ dd := fun p hp z => by
  obtain ⟨h1, ⟨d, h2⟩, h3⟩ := R.io p hp
  obtain ⟨a, s1, _, _, c⟩ := R.own p.1 d h2 h1
  rw [h3] at s1
  cases s1
  rw [z] at c
  exact Cell.noxd hd c
/-- into the suite -/
theorem Rel.hot (R : Rel B fr σ H Hv) (hd : H dd = some (.xd l)) (hex : B.ex = none) (ex : Option (Nat × Addr)) : Rel (B.hot H Hv dd ex) fr σ H Hv where
  sub := R.sub
  ext0 := .refl _
  new := fun b o h => .inl h
  keep := fun b o h h1 h2 => by
    have h : (if b = dd then H dd else B.H0 b) = some o := h
    split at h
    · next c => rw [c]; exact h
    · exact R.keep b o h h1 h2
  len := R.len
  val := R.val
  box := fun i d h1 h2 h3 => by
    obtain ⟨e, v, h4, h5, h6⟩ := R.box i d h1 h2 h3
    refine ⟨e, v, h4, h5, ?_⟩
    rcases h6 with h6 | ⟨_, a, h7, _⟩
    · exact .inl h6
    · rw [hex] at h7; cases h7
  own := fun i d h1 h2 => by
    obtain ⟨a, h3, h4, h5, h6⟩ := R.own i d h1 h2
    refine ⟨a, h3, h4, ?_, h6⟩
    rcases h5 with h5 | h5
    · exact .inl h5
    · refine .inr ?_
      show (if a = dd then H dd else B.H0 a) = none
      split
      · next c =>
        rw [c] at h6
        exact absurd h6 (Cell.noxd hd)
      · exact h5
  sep := R.sep
  io := R.io
  tab := R.tab
/-- the name is set to the exception -/
theorem Rel.exset {a : Addr} {i : Nat} (R : Rel B fr σ H Hv) (hi : i ∈ B.M) (hio : ∀ q ∈ B.io, q.1 ≠ i) (hl : i < fr.length) (he : B.ex = some (i, a)) : Rel B (fr.set i (some (.tup [.var i]))) (σ.set i (some (.ref a))) H Hv where
  sub := R.sub
  ext0 := R.ext0
  new := R.new
  keep := R.keep
  len := by rw [List.length_set, List.length_set]; exact R.len
  val := fun j e hf hm => by
    have hj : j ≠ i := fun z => hm (z ▸ hi)
    rw [List.getElem?_set_ne (Ne.symm hj)] at hf
    obtain ⟨u, h1, h2⟩ := R.val j e hf hm
    exact ⟨u, by rw [List.getElem?_set_ne (Ne.symm hj)]; exact h1, h2⟩
  box := fun j e hf hcl hm => by
    by_cases hj : j = i
    · subst hj
      rw [List.getElem?_set_self hl] at hf
      cases hf
      exact ⟨_, _, rfl, List.getElem?_set_self (by rw [← R.len]; exact hl), .inr ⟨rfl, a, he, rfl⟩⟩
    · rw [List.getElem?_set_ne (Ne.symm hj)] at hf
      obtain ⟨e2, u, h0, h1, h2⟩ := R.box j e hf hcl hm
      exact ⟨e2, u, h0, by rw [List.getElem?_set_ne (Ne.symm hj)]; exact h1, h2⟩
  own := fun j e hf hm => by
    by_cases hj : j = i
    · subst hj
      obtain ⟨h1, h2⟩ := hf
      rw [List.getElem?_set_self hl] at h1
      cases h1
      cases h2
    · rw [List.getElem?_set_ne (Ne.symm hj)] at hf
      obtain ⟨b, h1, h2⟩ := R.own j e hf hm
      exact ⟨b, by rw [List.getElem?_set_ne (Ne.symm hj)]; exact h1, h2⟩
  sep := fun j k b dj dk hj hk hjk e1 e2 s1 => by
    by_cases hj' : j = i
    · subst hj'
      obtain ⟨h1, h2⟩ := e1
      rw [List.getElem?_set_self hl] at h1
      cases h1
      cases h2
    by_cases hk' : k = i
    · subst hk'
      obtain ⟨h1, h2⟩ := e2
      rw [List.getElem?_set_self hl] at h1
      cases h1
      cases h2
    rw [List.getElem?_set_ne (Ne.symm hj')] at e1 s1
    rw [List.getElem?_set_ne (Ne.symm hk')] at e2 ⊢
    exact R.sep j k b dj dk hj hk hjk e1 e2 s1
  io := fun q hq => by
    obtain ⟨h1, h2, h3⟩ := R.io q hq
    have hj : q.1 ≠ i := hio q hq
    exact ⟨h1, by rw [List.getElem?_set_ne (Ne.symm hj)]; exact h2, by rw [List.getElem?_set_ne (Ne.symm hj)]; exact h3⟩
  tab := R.tab
/-- the name is gone -/
theorem Rel.exgone {i : Nat} (R : Rel B fr σ H Hv) (hio : ∀ q ∈ B.io, q.1 ≠ i) : Rel B (fr.set i none) (σ.set i none) H Hv where
  sub := R.sub
  ext0 := R.ext0
  new := R.new
  keep := R.keep
  len := by rw [List.length_set, List.length_set]; exact R.len
  val := fun j e hf hm => by
    rcases get_set hf with ⟨_, z⟩ | ⟨hj, hf⟩
    · cases z
    obtain ⟨u, h1, h2⟩ := R.val j e hf hm
    exact ⟨u, by rw [List.getElem?_set_ne (Ne.symm hj)]; exact h1, h2⟩
  box := fun j e hf hcl hm => by
    rcases get_set hf with ⟨_, z⟩ | ⟨hj, hf⟩
    · cases z
    obtain ⟨e2, u, h0, h1, h2⟩ := R.box j e hf hcl hm
    exact ⟨e2, u, h0, by rw [List.getElem?_set_ne (Ne.symm hj)]; exact h1, h2⟩
  own := fun j e hf hm => by
    rcases get_set hf.1 with ⟨_, z⟩ | ⟨hj, h1⟩
    · cases z
    obtain ⟨b, h3, h2⟩ := R.own j e ⟨h1, hf.2⟩ hm
    exact ⟨b, by rw [List.getElem?_set_ne (Ne.symm hj)]; exact h3, h2⟩
  sep := fun j k b dj dk hj hk hjk e1 e2 s1 => by
    rcases get_set e1.1 with ⟨_, z⟩ | ⟨hj', h1⟩
    · cases z
    rcases get_set e2.1 with ⟨_, z⟩ | ⟨hk', h2⟩
    · cases z
    rw [List.getElem?_set_ne (Ne.symm hj')] at s1
    rw [List.getElem?_set_ne (Ne.symm hk')]
    exact R.sep j k b dj dk hj hk hjk ⟨h1, e1.2⟩ ⟨h2, e2.2⟩ s1
  io := fun q hq => by
    obtain ⟨h1, h2, h3⟩ := R.io q hq
    have hj : q.1 ≠ i := hio q hq
    exact ⟨h1, by rw [List.getElem?_set_ne (Ne.symm hj)]; exact h2, by rw [List.getElem?_set_ne (Ne.symm hj)]; exact h3⟩
  tab := R.tab
variable {fr' : Fr} {σ' : L2.St} {H' Hv' : Hp} {ex : Option (Nat × Addr)}
/-- out of the suite: no slot bears the exception any more -/
theorem Rel.cool (R' : Rel (B.hot H Hv dd ex) fr' σ' H' Hv') (R : Rel B fr σ H Hv) (hd : H dd = some (.xd l)) (hn : ∀ i a, ex = some (i, a) → ∀ d, fr'[i]? = some (some d) → False) : Rel B fr' σ' H' Hv' where
  sub := R'.sub
  ext0 := R.ext0.trans R'.ext0
  new := fun b o h => by
    rcases R'.new b o h with h1 | h1 | h1
    · exact R.new b o h1
    · exact .inr (.inl (hot_H0 h1 hd).2)
    · exact .inr (.inr h1)
  keep := fun b o h h1 h2 => R'.keep b o (by
    show (if b = dd then H dd else B.H0 b) = some o
    split
    · next c => rw [← c]; exact R.keep b o h h1 h2
    · exact h) h1 h2
  len := R'.len
  val := R'.val
  box := fun i d h1 h2 h3 => by
    obtain ⟨e, v, h4, h5, h6⟩ := R'.box i d h1 h2 h3
    refine ⟨e, v, h4, h5, ?_⟩
    rcases h6 with h6 | ⟨_, a, h7, _⟩
    · exact .inl h6
    · exact (hn i a h7 d h1).elim
  own := fun i d h1 h2 => by
    obtain ⟨a, h3, h4, h5, h6⟩ := R'.own i d h1 h2
    refine ⟨a, h3, h4, ?_, h6⟩
    rcases h5 with h5 | h5
    · exact .inl h5
    · exact .inr (hot_H0 h5 hd).2
  sep := R'.sep
  io := R'.io
  tab := R'.tab
theorem FinB.cool {fr2 : Fr} (R' : FinB (B.hot H Hv dd ex) fr' H' Hv') (R : Rel B fr σ H Hv) (hd : H dd = some (.xd l)) (hn : ∀ q ∈ B.io, fr2[q.1]? = fr'[q.1]?) : FinB B fr2 H' Hv' where
  sub := R'.sub
  ext0 := R.ext0.trans R'.ext0
  new := fun b o h => by
    rcases R'.new b o h with h1 | h1 | h1
    · exact R.new b o h1
    · exact .inr (.inl (hot_H0 h1 hd).2)
    · exact .inr (.inr h1)
  keep := fun b o h h1 h2 => R'.keep b o (by
    show (if b = dd then H dd else B.H0 b) = some o
    split
    · next c => rw [← c]; exact R.keep b o h h1 h2
    · exact h) h1 h2
  tab := R'.tab
  io := fun q hq => by
    obtain ⟨h1, d, h2, h3⟩ := R'.io q hq
    exact ⟨h1, d, by rw [hn q hq]; exact h2, h3⟩
theorem RetR.cool {rf : Bool} {d : D} {v : V} (h : RetR rf B.G (B.hot H Hv dd ex).H0 H' Hv' d v) (hd : H dd = some (.xd l)) : RetR rf B.G B.H0 H' Hv' d v := by
  unfold RetR at h ⊢
  split at h
  · next c =>
    rw [if_pos c]
    obtain ⟨p, h1, h2, h3⟩ := h
    exact ⟨p, h1, (hot_H0 h2 hd).2, h3⟩
  · next c =>
    rw [if_neg c]
    exact h
end
/-- the context bears the exception at a: its class c, its fields fs -/
structure HotX (X : Cx) (B : Bd) (n c : Nat) (fs : List D) (a dd : Addr) (oe : Obj) : Prop where
  pin : (a, oe) ∈ X.pn
  z : L2N.Zn (.ref (B.G.ecls c)) (some dd) oe
  dat : ∃ vs, oe.data = .fields vs
  cn : c < n
  atx : ExcAt B.G B.H0 B.Hv0 c fs dd
  noio : ∀ p ∈ B.io, p.2 ≠ dd
  notab : dd ∉ B.G.tabs
  hot : L2H.Hot1 X.A (a, oe)
/-- what a suite's rule must give -/
def SuOk (X : Cx) (B : Bd) (n : Nat) (h : Hd) (rf : Bool) (su : List Stmt) : Prop :=
  ∀ (c : Nat) (fs : List D) (a dd : Addr) (oe : Obj) (pn : List (Addr × Obj)) (H Hv : Hp), h.t c = true → HotX (X.suite a ((a, oe) :: pn)) (B.hot H Hv dd (h.nm.map fun i => (i, a))) n c fs a dd oe →
    DSs (X.suite a ((a, oe) :: pn)) (B.hot H Hv dd (h.nm.map fun i => (i, a))) (fun _ _ _ _ => False) rf su (h.g c fs)
inductive HdsOk (X : Cx) (B : Bd) (n : Nat) (rf : Bool) : List ExceptHandler → List Hd → Prop
  | nil : HdsOk X B n rf [] []
  | plain {x : Str} {cv : Value} {b₀ : Stmt} {suite : List Stmt} {np pos' : Pos} {hds : List ExceptHandler} {h : Hd} {hs : List Hd} (hc : Names X x cv) (hm : h.nm = none) (ht : ∀ c, c < n → PySem.W.exmOne X.K (.ref (B.G.ecls c)) cv = some (h.t c))
      (hsu : SuOk X B n h rf (b₀ :: suite)) (r : HdsOk X B n rf hds hs) : HdsOk X B n rf (.ExceptHandler (some (.Name x np)) none (b₀ :: suite) pos' :: hds) (h :: hs)
  | named {x nm : Str} {i : Nat} {cv : Value} {b₀ : Stmt} {suite : List Stmt} {np pos' : Pos} {hds : List ExceptHandler} {h : Hd} {hs : List Hd} (hc : Names X x cv) (hm : h.nm = some i) (hi : X.N[i]? = some nm) (hln : X.env.kindOf nm = some .local) (hM : i ∈ B.M) (hio : ∀ q ∈ B.io, q.1 ≠ i)
      (ht : ∀ c, c < n → PySem.W.exmOne X.K (.ref (B.G.ecls c)) cv = some (h.t c))
      (hsu : SuOk X B n h rf (b₀ :: suite)) (r : HdsOk X B n rf hds hs) : HdsOk X B n rf (.ExceptHandler (some (.Name x np)) (some nm) (b₀ :: suite) pos' :: hds) (h :: hs)
/-- a suite's reading, over all that it may be handed -/
def tSu (B : Bd) (n : Nat) (h : Hd) (rf : Bool) : Addr → Value → Option Addr → TS := fun a cls d D σ H1 =>
  ∃ (c : Nat) (fs : List KS.D) (dd : Addr) (H Hv : Hp), (c < n ∧ h.t c = true ∧ cls = .ref (B.G.ecls c) ∧ d = some dd ∧ ExcAt B.G H Hv c fs dd ∧ (∀ p ∈ B.io, p.2 ≠ dd) ∧ dd ∉ B.G.tabs) ∧ dTS (B.hot H Hv dd (h.nm.map fun i => (i, a))) (fun _ _ _ _ => False) rf (h.g c fs) D σ H1
theorem su_run {X : Cx} {B : Bd} {n : Nat} {h : Hd} {rf : Bool} {su : List Stmt} (hsu : SuOk X B n h rf su) (a : Addr) (oe : Obj) (cls : Value) (d : Option Addr) (pn : List (Addr × Obj)) (hz : L2N.Zn cls d oe) (hf : ∃ vs, oe.data = .fields vs) : PSs (X.suite a ((a, oe) :: pn)) su (tSu B n h rf a cls d) := by
  refine ⟨fun pins s σ H D I hh => ?_⟩
  obtain ⟨c, fs, dd, H1, Hv1, ⟨h1, h2, rfl, rfl, h5, h6, h7⟩, hh⟩ := hh
  have h5' : ExcAt B.G (B.hot H1 Hv1 dd (h.nm.map fun i => (i, a))).H0 Hv1 c fs dd := by
    obtain ⟨l, e, r⟩ := h5
    exact ⟨l, by show (if dd = dd then H1 dd else B.H0 dd) = _; rw [if_pos rfl]; exact e, r⟩
  exact (hsu c fs a dd oe pn H1 Hv1 h2 ⟨List.mem_cons_self, hz, hf, h1, h5', h6, h7, rfl, hf.imp fun vs e => ⟨e, hz.2.2 vs e⟩⟩).run pins s σ H D I hh
section
variable {X : Cx} {B : Bd} {W : WX} {rf : Bool} {n : Nat} {g : Sv} {body : List Stmt} {h₀ : ExceptHandler} {hds : List ExceptHandler} {hs : List Hd} {pos : Pos}
theorem hds_cls {hds : List ExceptHandler} (k : HdsOk X B n rf hds hs) : ∃ l : List Cl, ClsOk X hds l ∧ (B.ex = none → ∀ (Wo : WX) (D : L2.Ends) (c : Nat) (fs : List KS.D) (fr : Fr) (Hv0 : Hp), c < n →
    PostS B Wo rf Hv0 (hand hs c fs fr) D → ∀ (dd : Addr) (σ : L2.St) (H Hv : Hp), Rel B fr σ H Hv → Sub Hv0 Hv → ExcAt B.G H Hv c fs dd → wClauses X.K Wo D l (.ref (B.G.ecls c)) (some dd) σ H) := by
  induction k with
  | nil => exact ⟨[], .nil, fun _ Wo D c fs fr Hv0 _ h dd σ H Hv R s ex => h dd σ H Hv R s ex⟩
  | @plain x cv b₀ suite np pos' hds h hs hc hm ht hsu r ih =>
    obtain ⟨l, hl, hw⟩ := ih
    refine ⟨⟨cv, none, tSu B n h rf⟩ :: l, .plain hc (fun a oe cls d pn hz hf => su_run hsu a oe cls d pn hz hf) hl, ?_⟩
    intro hex Wo D c fs fr Hv0 hcn hp dd σ H Hv R s ex
    refine ⟨h.t c, ht c hcn, fun hb a ha => ?_, fun hb => hw hex Wo D c fs fr Hv0 hcn (by
      have e : hand (h :: hs) c fs fr = hand hs c fs fr := by
        show (if h.t c = true then _ else _) = _
        rw [hb]; rfl
      rw [e] at hp; exact hp) dd σ H Hv R s ex⟩
    have e : hand (h :: hs) c fs fr = suiteE h c fs fr := by
      show (if h.t c = true then _ else _) = _
      rw [hb]; rfl
    rw [e] at hp
    unfold suiteE at hp
    rw [hm] at hp
    obtain ⟨l0, hd, _⟩ := id ex
    refine ⟨c, fs, dd, H, Hv, ⟨hcn, hb, rfl, rfl, ex, R.xd_noio hd, R.xd_notab hd⟩, fr, Hv, R.hot hd hex _, ?_⟩
    rw [hm]
    have cool : ∀ {fr' σ' H' Hv'}, Rel (B.hot H Hv dd none) fr' σ' H' Hv' → Rel B fr' σ' H' Hv' := fun R' => R'.cool R hd (fun _ _ z => by cases z)
    dsimp only [inN, outN, endsN, Option.map] at hp ⊢
    cases hg : h.g c fs fr with
    | bad => rw [hg] at hp; exact hp.elim
    | exc c' fs' fr' => rw [hg] at hp; exact hp.elim
    | ok fl fr' =>
      rw [hg] at hp
      cases fl with
      | nx => exact fun σ' H' Hv' R' s' => hp σ' H' Hv' (cool R') (s.trans s')
      | brk => exact fun σ' H' Hv' R' s' => hp σ' H' Hv' (cool R') (s.trans s')
      | cnt => exact fun σ' H' Hv' R' s' => hp σ' H' Hv' (cool R') (s.trans s')
      | ret d => exact fun v H' Hv' F r => hp v H' Hv' (F.cool R hd fun _ _ => rfl) (r.cool hd)
  | @named x nm i cv b₀ suite np pos' hds h hs hc hm hi hln hM hio ht hsu r ih =>
    obtain ⟨l, hl, hw⟩ := ih
    refine ⟨⟨cv, some i, tSu B n h rf⟩ :: l, .named hc hi hln (fun a oe cls d pn hz hf => su_run hsu a oe cls d pn hz hf) hl, ?_⟩
    intro hex Wo D c fs fr Hv0 hcn hp dd σ H Hv R s ex
    refine ⟨h.t c, ht c hcn, fun hb a ha => ?_, fun hb => hw hex Wo D c fs fr Hv0 hcn (by
      have e : hand (h :: hs) c fs fr = hand hs c fs fr := by
        show (if h.t c = true then _ else _) = _
        rw [hb]; rfl
      rw [e] at hp; exact hp) dd σ H Hv R s ex⟩
    have e : hand (h :: hs) c fs fr = suiteE h c fs fr := by
      show (if h.t c = true then _ else _) = _
      rw [hb]; rfl
    rw [e] at hp
    unfold suiteE at hp
    rw [hm] at hp
    obtain ⟨l0, hd, _⟩ := id ex
    have gone : ∀ {fr' : Fr} {σ' H' Hv'}, Rel (B.hot H Hv dd (some (i, a))) fr' σ' H' Hv' → Rel B (fr'.set i none) (σ'.set i none) H' Hv' := fun R' => (R'.exgone (B := B.hot H Hv dd (some (i, a))) hio).cool R hd (fun j b z d q => by
      cases z
      rcases get_set q with ⟨_, z⟩ | ⟨z, _⟩
      · cases z
      · exact z rfl)
    refine ⟨c, fs, dd, H, Hv, ⟨hcn, hb, rfl, rfl, ex, R.xd_noio hd, R.xd_notab hd⟩, inN fr (some i), Hv, ?_, ?_⟩
    · rw [hm]
      by_cases hl : i < fr.length
      · exact (R.hot hd hex (some (i, a))).exset hM hio hl rfl
      · have e1 : inN fr (some i) = fr := List.set_eq_of_length_le (by omega)
        have e2 : setN σ a (some i) = σ := List.set_eq_of_length_le (by rw [← R.len]; omega)
        rw [e1, e2]
        exact R.hot hd hex _
    · rw [hm]
      dsimp only [inN, outN, endsN, Option.map] at hp ⊢
      cases hg : h.g c fs (fr.set i (some (.tup [.var i]))) with
      | bad => rw [hg] at hp; exact hp.elim
      | exc c' fs' fr' => rw [hg] at hp; exact hp.elim
      | ok fl fr' =>
        rw [hg] at hp
        cases fl with
        | nx => exact fun σ' H' Hv' R' s' => hp (σ'.set i none) H' Hv' (gone R') (s.trans s')
        | brk => exact fun σ' H' Hv' R' s' => hp (σ'.set i none) H' Hv' (gone R') (s.trans s')
        | cnt => exact fun σ' H' Hv' R' s' => hp (σ'.set i none) H' Hv' (gone R') (s.trans s')
        | ret d => exact fun v H' Hv' F r => hp v H' Hv' (F.cool R hd fun q hq => List.getElem?_set_ne (Ne.symm (hio q hq))) (r.cool hd)
/-- THE RULE for try -/
theorem s_try (hst : X.stack = X.env :: X.outer) (hf : X.env.frame = some X.env.locals) (hN : X.N.Nodup) (tk : L2N.Takes X W) (hex : B.ex = none)
    (hb : ∀ (W' : WX) (pn : List (Addr × Obj)) (xe : Value → Shared → Prop), L2N.Takes (X.tr pn xe) W' → PassesOwn (model X.prog X.w) X.A X.env xe → DSs (X.tr pn xe) B W' rf body g)
    (hh : HdsOk X B n rf (h₀ :: hds) hs) : DS X B W rf (.Try body (h₀ :: hds) [] [] pos) (sTry n g hs) := by
  obtain ⟨l, hl, hw⟩ := hds_cls hh
  refine ps_imp (ps_tryN (Wout := W) hst hf hN tk (tb := fun W' => dTS B W' rf g) hb hl) fun D σ H hh => ?_
  obtain ⟨fr, Hv, R, hh⟩ := hh
  refine ⟨fr, Hv, R, ?_⟩
  unfold sTry at hh
  cases hg : g fr with
  | bad => rw [hg] at hh; exact hh.elim
  | ok fl fr1 => rw [hg] at hh; cases fl <;> exact hh
  | exc c fs fr1 =>
    rw [hg] at hh
    dsimp only at hh
    split at hh
    · next hcn => exact fun dd σ' H' Hv' R' s ex => hw hex W D c fs fr1 Hv hcn hh dd σ' H' Hv' R' s ex
    · exact hh.elim
end
end KS
namespace KS
open PySem PySem.Spec PyProof.Rows L2 L2H
/-- e.f, e the exception that the context's pin holds -/
theorem pe_xfP {X : Cx} {a C : Addr} {oe : Obj} {cls : Value} {d : Option Addr} {e : Expr} {te : TE} {pos : Pos} {n : Str} (hp : (a, oe) ∈ X.pn) (T : XfC X.K C) (hno : PySem.W.findIn X.K (.ref C) n = some none)
    (hz : Zc cls d oe) (hf : ∃ vs, oe.data = .fields vs) (he : PE X e te) (hb : attributeBase e n X.env (eval e X.env) = eval e X.env := by rfl) :
    PE X (.Attribute e n pos) (tXf a cls d C n te) := by
  refine ⟨fun pins s σ H Q I h => ?_⟩
  refine attr_of hb (thn (he.run pins s σ H _ I h) fun u s1 hh => ?_)
  obtain ⟨x, H1, I1, rx, ex, ec, dd, fs, v, ed, ea, l, q⟩ := hh
  subst ex
  obtain rfl : u = Value.ref a := rx
  subst ec
  subst ed
  obtain ⟨ha, _⟩ := I1.pin (a, oe) (List.mem_append_left _ hp)
  obtain ⟨vs, hd⟩ := hf
  have hx : ObjOk X.prog X.w H1 s1.heap dd (.xd fs) := I1.hok dd _ ea
  obtain ⟨mA, hns, hr⟩ := hx
  obtain ⟨od, ho, hl⟩ := lookIn_ns hns
  obtain ⟨u, hu, ru⟩ := RelO.some_of (v := v) (o := mA n) (by rw [← l]; exact hr n)
  have J : PySem.W.InstAt s1.heap a oe C (some od) := ⟨ha, hz.1, by unfold PySem.W.notCls; rw [hd] <;> rfl, by rw [hz.2]; exact ho⟩
  exact HandSPX.exc_get I1.kIn J T.ga T.gg T.exC (PySem.W.findObj_own T.hdC hno rfl (by rw [hl, hu])) (handed_of ru) ⟨v, H1, I1.tok _, ru, q⟩
/-- isinstance(e, c), e the pinned exception: its class D has the answer for c -/
theorem kit_pin {X : Cx} {pins : List (Addr × Obj)} {σ : L2.St} {H : Hp} {s : Shared} {a D : Addr} {oe : Obj} {dd : Addr} {l : List (Str × V)} (hp : (a, oe) ∈ X.pn) (C : ExcC X.K D) (hz : Zc (.ref D) (some dd) oe) (hf : ∃ vs, oe.data = .fields vs) (I : Inv X pins σ H s) (hd : H dd = some (.xd l)) :
    ∃ od, PySem.W.KitX X.K (.ref a) (.ref D) (fun h => PySem.W.InstAt h a oe D od) ∧ PySem.W.InstAt s.heap a oe D od := by
  obtain ⟨ha, _⟩ := I.pin (a, oe) (List.mem_append_left _ hp)
  obtain ⟨vs, hv⟩ := hf
  have hx : ObjOk X.prog X.w H s.heap dd (.xd l) := I.hok dd _ hd
  obtain ⟨mA, hns, hr⟩ := hx
  obtain ⟨od, ho, hl⟩ := lookIn_ns hns
  have J : PySem.W.InstAt s.heap a oe D (some od) := ⟨ha, hz.1, by unfold PySem.W.notCls; rw [hv] <;> rfl, by rw [hz.2]; exact ho⟩
  obtain ⟨cd, hc, _⟩ := PySem.W.any_some C.hd
  exact ⟨some od, PySem.W.kitx_exc (by rw [hc]; rfl) C.hg C.hk C.hs C.ha C.hn C.ht C.hm, J⟩
def rIsP (K : PySem.W.Frag) (D a dd : Addr) : List V → Hp → VK → Prop := fun xs H Q => ∃ (c : V) (cv : Value) (b : Bool) (l : List (Str × V)), xs = [.ref a, c] ∧ ClsV c cv ∧ H dd = some (.xd l) ∧ PySem.W.kitOne K (.ref D) cv = some b ∧ Q (.bl b) H
theorem call_isP {X : Cx} {a D dd : Addr} {oe : Obj} (hp : (a, oe) ∈ X.pn) (C : ExcC X.K D) (hz : Zc (.ref D) (some dd) oe) (hf : ∃ vs, oe.data = .fields vs) : CallR X (.builtin "isinstance") (rIsP X.K D a dd) := by
  intro pins s σ H xs us Q I r h
  obtain ⟨c, cv, b, l, rfl, k, hd, e, q⟩ := h
  obtain ⟨u1, u2, rfl, r1, r2⟩ := vals2 r
  have e2 := k.eq r2
  subst e2
  cases (show u1 = Value.ref a from r1)
  obtain ⟨od, Z, J⟩ := kit_pin hp C hz hf I hd
  exact PySem.W.kia_one Z I.kIn J e (fun z => nomatch z) fun tk => ⟨.bl b, H, I.tok tk, rfl, q⟩
/-- slot i holds the exception -/
def exIn (i : Nat) (fr : Fr) : Bool := match fr[i]? with
  | some (some (.tup [.var j])) => j == i
  | _ => false
def eXf (i : Nat) (ko : Option Nat) (fs : List D) : Ev := fun fr => if exIn i fr = true then (match ko.bind (fs[·]?) with
  | some d => .ok d fr
  | none => .bad) else .bad
def eIsE (i : Nat) (b : Bool) : Ev := fun fr => if exIn i fr = true then .ok (.bl b) fr else .bad
theorem exIn_at {B : Bd} {fr : Fr} {σ : L2.St} {H Hv : Hp} (R : Rel B fr σ H Hv) {i : Nat} {a : Addr} (hi : i ∈ B.M) (hex : B.ex = some (i, a)) (h : exIn i fr = true) : σ[i]? = some (some (.ref a)) := by
  unfold exIn at h
  split at h
  · next j e =>
    cases (beq_iff_eq.mp h)
    obtain ⟨e', v, z, hs, hr⟩ := R.box _ _ e rfl hi
    cases z
    rcases hr with hr | ⟨_, b, e2, rfl⟩
    · exact hr.elim
    · rw [hex] at e2
      cases e2
      exact hs
  · cases h
section
variable {X : Cx} {B : Bd} {W : WX} {n c : Nat} {fs : List D} {a dd : Addr} {oe : Obj} {i : Nat} {x : Str} {p q pos : Pos}
theorem HotX.now {fr : Fr} {σ : L2.St} {H Hv : Hp} (h : HotX X B n c fs a dd oe) (R : Rel B fr σ H Hv) : ExcAt B.G H Hv c fs dd := by
  obtain ⟨l, e, hl, r⟩ := h.atx
  refine ⟨l, R.keep dd _ e h.noio h.notab, hl, fun k nm d e1 e2 => ?_⟩
  obtain ⟨v, e3, e4⟩ := r k nm d e1 e2
  exact ⟨v, e3, Rep.mono R.ext0 _ _ e4⟩
/-- e.f in the suite -/
theorem d_xf (h : HotX X B n c fs a dd oe) (hex : B.ex = some (i, a)) (hi : i ∈ B.M) {f : Str} {k : Nat → Option Nat} (hk : ∀ c j, c < n → k c = some j → (B.G.efld c)[j]? = some f ∧ XfC X.K (B.G.ecls c) ∧ PySem.W.findIn X.K (.ref (B.G.ecls c)) f = some none)
    (hN : X.N[i]? = some x := by rfl) (hv : Vis X.env.scope x := by first | exact Or.inl rfl | exact Or.inr (Or.inl rfl) | exact Or.inr (Or.inr rfl)) (hd : (x == ("__debug__" : Str)) = false := by decide)
    (hcd : (x == ("__classdict__" : Str)) = false := by decide) (hb : attributeBase (.Name x p) f X.env (eval (.Name x p) X.env) = eval (.Name x p) X.env := by rfl) : DE X B W (.Attribute (.Name x p) f pos) (eXf i (k c) fs) := by
  cases hkc : k c with
  | none =>
    refine ⟨fun pins s σ H Q I hh => ?_⟩
    obtain ⟨fr, Hv, R, hh⟩ := hh
    unfold eXf at hh
    split at hh
    · exact hh.elim
    · exact hh.elim
  | some j =>
    obtain ⟨h1, h2, h3⟩ := hk c j h.cn hkc
    refine pe_imp (pe_xfP h.pin h2 h3 h.z.zc h.dat (pe_var hN hv hd hcd) hb) fun σ H Q hh => ?_
    obtain ⟨fr, Hv, R, hh⟩ := hh
    unfold eXf at hh
    split at hh
    · next ci =>
      split at hh
      · next d hd' =>
        obtain ⟨l, e1, _, e2⟩ := h.now R
        obtain ⟨v, e3, e4⟩ := e2 j f d h1 hd'
        exact ⟨_, exIn_at R hi hex ci, rfl, rfl, dd, l, v, rfl, e1, e3, hh v H Hv (.refl R) (.of e4)⟩
      · exact hh.elim
    · exact hh.elim
/-- isinstance(e, C), C a class of the program or a built-in one -/
theorem d_isE (h : HotX X B n c fs a dd oe) (hex : B.ex = some (i, a)) (hi : i ∈ B.M) {y : Str} {cv : Value} {t : Nat → Bool} (hy : (X.mg y = some cv ∧ ∃ C, cv = .ref C) ∨ (X.mg y = none ∧ bootBuiltins y = some cv ∧ y ≠ "__name__" ∧ ∃ T, cv = .type T)) (ht : ∀ c, c < n → ExcC X.K (B.G.ecls c) ∧ PySem.W.kitOne X.K (.ref (B.G.ecls c)) cv = some (t c))
    (hm : X.mg "isinstance" = none) (hN : X.N[i]? = some x := by rfl) (hv : Vis X.env.scope x := by first | exact Or.inl rfl | exact Or.inr (Or.inl rfl) | exact Or.inr (Or.inr rfl)) (hd : (x == ("__debug__" : Str)) = false := by decide)
    (hcd : (x == ("__classdict__" : Str)) = false := by decide) (hg : Gl X "isinstance" := by rfl) (hgy : Gl X y := by rfl) (hbv : bootBuiltins "isinstance" = some (.builtin "isinstance") := by decide +kernel) (hn : (("isinstance" : String) : Str) ≠ "__name__" := by decide) (hdb : ((("isinstance" : String) : Str) == ("__debug__" : Str)) = false := by decide) (hdy : (y == ("__debug__" : Str)) = false := by decide)
    (he2 : starEach [.Name y q] X.env = (false, eval (.Name y q) X.env) :: starEach [] X.env := by rfl) (he : starEach [.Name x p, .Name y q] X.env = (false, eval (.Name x p) X.env) :: starEach [.Name y q] X.env := by rfl) (hpl : (backTo pos (starEach [.Name y q] X.env)).any (·.1) = false := by rfl) {ip : Pos} :
    DE X B W (.Call (.Name "isinstance" ip) [.Name x p, .Name y q] [] pos) (eIsE i (t c)) := by
  obtain ⟨hC, hkt⟩ := ht c h.cn
  have key : ∃ v, ClsV v cv ∧ PE X (.Name y q) (tC v) := by
    rcases hy with ⟨h1, C, rfl⟩ | ⟨h1, h2, h3, T, rfl⟩
    · exact ⟨_, .own C, pe_glob hgy h1 (show RelV (.ref C) (.ref C) from rfl) hdy⟩
    · exact ⟨_, .ty T, pe_bltn hgy h1 h2 (show RelV (.ty T) (.type T) from rfl) h3 hdy⟩
  obtain ⟨v, hv1, hv2⟩ := key
  refine pe_imp (pe_callB (call_isP h.pin hC h.z.zc h.dat) hg hm hbv (pa_cons (pe_var hN hv hd hcd) (pa_cons hv2 pa_nil he2) he) hn hdb he hpl) fun σ H Q hh => ?_
  obtain ⟨fr, Hv, R, hh⟩ := hh
  unfold eIsE at hh
  split at hh
  · next ci =>
    obtain ⟨l, e1, _⟩ := h.now R
    exact ⟨_, exIn_at R hi hex ci, v, cv, t c, l, rfl, hv1, e1, hkt, hh (.bl (t c)) H Hv (.refl R) (.of repB)⟩
  · exact hh.elim
end
end KS
namespace KS
open PySem PySem.Spec PyProof.Rows L2 L2H
/-- as FnOk, where no repr is under way -/
structure FnG (P : Program) (w : World) (K : PySem.W.Frag) (mg : Str → Option Value) (base : Heap) (CX : CXT) (k : Nat) (f : Addr) (fd : FuncData) (ps : List Str) (sp : Sp) : Prop where
  len : ∀ vs H Q E, sp vs H Q E → vs.length = ps.length
  run : ∀ (A : Around) (outer : List Env) (s : Shared) (H : Hp) (args : Args) (us : List Value) (vs : List V) (Q : VK) (E : XK), Room k A → A.guards = some [] → Env0 P w K mg base A outer s H → BindsTo s fd args (ps.zip us) → Vals vs us → sp vs H Q E →
    codeAny (model P w) A (.call (.ref f) args) (CR CX outer P w H s Q E) s
theorem FnG.mono {P : Program} {w : World} {K : PySem.W.Frag} {mg : Str → Option Value} {base : Heap} {CX : CXT} {j k : Nat} {f : Addr} {fd : FuncData} {ps : List Str} {sp : Sp} (F : FnG P w K mg base CX j f fd ps sp) (h : j ≤ k) :
    FnG P w K mg base CX k f fd ps sp := ⟨F.len, fun A outer s H args us vs Q E hr => F.run A outer s H args us vs Q E (hr.mono h)⟩
theorem FnG.imp {P : Program} {w : World} {K : PySem.W.Frag} {mg : Str → Option Value} {base : Heap} {CX : CXT} {k : Nat} {f : Addr} {fd : FuncData} {ps : List Str} {sp sp' : Sp} (F : FnG P w K mg base CX k f fd ps sp)
    (h : ∀ vs H Q E, sp' vs H Q E → sp vs H Q E) : FnG P w K mg base CX k f fd ps sp' :=
  ⟨fun vs H Q E q => F.len vs H Q E (h _ _ _ _ q), fun A outer s H args us vs Q E hr hg he hb hv hs => F.run A outer s H args us vs Q E hr hg he hb hv (h _ _ _ _ hs)⟩
theorem FnG.of {P : Program} {w : World} {K : PySem.W.Frag} {mg : Str → Option Value} {base : Heap} {CX : CXT} {k : Nat} {f : Addr} {fd : FuncData} {ps : List Str} {sp : Sp} (F : FnOk P w K mg base CX k f fd ps sp) : FnG P w K mg base CX k f fd ps sp :=
  ⟨F.len, fun A outer s H args us vs Q E hr hg he hb hv hs => F.run A outer s H args us vs Q E hr he hb hv hs⟩
/-- a def by its body, there -/
theorem fn_ofG {CX : CXT} {P : Program} {w : World} {K : PySem.W.Frag} {mg : Str → Option Value} {base : Heap} {k : Nat} {x qual : Str} {st : Stmt} {f : Addr} {fd : FuncData} {N ps : List Str} {sp : Sp} (F : Fun K x qual st f fd) (S : FnScope N ps (defScope st))
    (len : ∀ vs H Q E, sp vs H Q E → vs.length = ps.length)
    (hbody : ∀ (cdv : Value) (A : Around) (outer : List Env) (s : Shared) (H : Hp) (vs : List V) (Q : VK) (E : XK), A.guards = some [] → Room k (A.deeper (envOfC qual (defScope st) s.heap.objs.size f cdv)) → sp vs H Q E →
      ∃ t, PSs (cxOf CX P w K mg base N qual (defScope st) f cdv A outer s H E) (defBody st) t ∧ t { nx := fun _ H' => Q .non H', rt := Q } (L2.start N vs) H) :
    FnG P w K mg base CX (k + 1) f fd ps sp := by
  obtain ⟨oc, od, kV, doc, pm, an, cdv, ct, osl, rfl, lk, hcd⟩ := F.ex
  refine ⟨len, fun A outer s H args us vs Q E hr hgd e0 hb r hsp => ?_⟩
  -- at this A alone: the promise of fn_of, for the reading that only this call has
  have hl := len _ _ _ _ hsp
  have KX : K.In s.heap := e0.mod.kin.keeps fun b o e => (e0.bs b o e).1
  have lim : s.heap.NoLimit := e0.mod.nolimit.keeps fun b o e => (e0.bs b o e).1
  have hkind : ∀ y ∈ ps.zip us, (defScope st).names.lookup y.1 = some .local ∨ ((defScope st).names.lookup y.1 = some .cell ∧ ((cellsFrom (s.heap.objs.size + 1) (defScope st).names []).lookup y.1).isSome = true) := fun ⟨n, v⟩ hy => by
    rcases S.par n (List.of_mem_zip hy).1 with q | q
    · exact .inl q
    · exact .inr ⟨q, PySem.W.cellsFrom_some _ _ _ (.inl q)⟩
  refine codeAny_call_function hr.depth (KX _ _ lk) rfl S.co S.gen rfl (PySem.W.codeRec_of KX hcd) (hb _ _ _ _ ?_)
  refine wpAny_newFunctionEnv_cells S.kind hkind fun env he s1 x => ?_
  subst he
  refine ⟨lim.keeps x.toInCall.keep, codeAny_func ?_⟩
  obtain ⟨t, ht, hq⟩ := hbody cdv A outer s H vs Q E hgd (hr.deeper _) hsp
  have I : Inv (cxOf CX P w K mg base N qual (defScope st) f cdv A outer s H E) [] (L2.start N vs) H s1 := inv_start S hr.hd e0 hl r x
  refine wpAny_mono (ht.run [] s1 (L2.start N vs) H _ I hq) (fun fl s' hs => ?_) fun e s' hs => hs
  have fin : ∀ {σ' : L2.St} {H' : Hp} {v : V} {u : Value}, Inv (cxOf CX P w K mg base N qual (defScope st) f cdv A outer s H E) [] σ' H' s' → RelV v u → Q v H' → CE outer P w H s Q u s' :=
    fun {σ' H' v u} J rv q => ⟨v, H', J.os, J.bare, J.base, J.hok, rv, q⟩
  cases fl with
  | ret u =>
    obtain ⟨v, σ', H', J, rv, q⟩ := hs
    exact fin J rv q
  | next =>
    obtain ⟨σ', H', J, q⟩ := hs
    exact fin (v := V.non) (u := Value.none) J rfl q
  | brk =>
    obtain ⟨_, _, _, q⟩ := hs
    exact False.elim q
  | cont =>
    obtain ⟨_, _, _, q⟩ := hs
    exact False.elim q
section
variable {G : SE} {ms : List Bool} {M : List Nat} {rf : Bool} {g : Sv} {x qual : Str} {st : Stmt} {f : Addr} {fd : FuncData} {N ps : List Str} {k : Nat}
theorem fng_of (F : Fun G.K x qual st f fd) (S : FnScope N ps (defScope st)) (hlen : ms.length = ps.length) (hM : ∀ i, i < ms.length → (i ∈ M ↔ ms[i]? = some true)) (hret : rf = false ∨ ∀ ds fr, g (startF N.length ds) ≠ .ok .nx fr)
    (hbody : ∀ (cdv : Value) (A : Around) (outer : List Env) (s : Shared) (H : Hp) (E : XK) (io : List (Nat × Addr)) (Hv : Hp), (∀ p ∈ io, ms[p.1]? = some true) → A.guards = some [] → Room k (A.deeper (PyProof.Rows.envOfC qual (defScope st) s.heap.objs.size f cdv)) →
      DSs (cxOf (L2N.CX G.P G.w) G.P G.w G.K G.mg G.base N qual (defScope st) f cdv A outer s H E) ⟨G, M, io, H, Hv, none⟩ (fun cls d _ H => E cls d H) rf (defBody st) g) :
    FnG G.P G.w G.K G.mg G.base (L2N.CX G.P G.w) (k + 1) f fd ps (spOf G ms rf (runFn ms.length N.length g)) := by
  have hNl : ms.length ≤ N.length := by
    have := congrArg List.length S.pre
    rw [List.length_take] at this
    omega
  refine fn_ofG F S (fun vs H Q E h => ?_) (fun cdv A outer s H vs Q E hgd hr h => ?_)
  · obtain ⟨ds, Hv, S', _⟩ := h
    rw [S'.lenv, hlen]
  · obtain ⟨ds, Hv, S', h⟩ := h
    refine ⟨_, hbody cdv A outer s H E (ioOf ms vs) Hv (fun p hp => ((mem_ioOf (a := p.2)).mp hp).1) hgd hr, startF N.length ds, Hv, rel_start S' hNl hM, ?_⟩
    unfold runFn at h
    cases hg : g (startF N.length ds) with
    | bad => rw [hg] at h; exact h.elim
    | exc c fs fr =>
      rw [hg] at h
      exact fun dd σ' H' Hv' R _ ex => h dd H' Hv' (fin_of S'.lenv R.fin) ex
    | ok fl fr =>
      rw [hg] at h
      cases fl with
      | nx =>
        rcases hret with hrf | hrf
        · subst hrf
          refine fun σ' H' Hv' R _ => h .non H' Hv' (fin_of S'.lenv R.fin) ?_
          show if false = true then _ else Rep G Hv' .non .non
          rw [if_neg Bool.false_ne_true]
          exact repN
        · exact absurd hg (hrf ds fr)
      | brk => exact h.elim
      | cnt => exact h.elim
      | ret d => exact fun v H' Hv' f' ret => h v H' Hv' (fin_of S'.lenv f') ret
end
section
variable {X : Cx} {CX : CXT} {k : Nat} {f : Addr} {fd : FuncData} {ps : List Str} {sp : Sp} {E : L2.St → XK} {x : Str} {p pos : Pos} {e : Expr} {es : List Expr} {t : TA}
theorem pe_callG (F : FnG X.prog X.w X.K X.mg X.base CX k f fd ps sp) (hr : Room k X.A) (hgd : X.A.guards = some []) (hg : Gl X x) (hm : X.mg x = some (.ref f)) (hk : PySem.W.keepIn X.K (.ref f) = true) (hb : Binds X.K fd ps []) (hx : ∀ σ, PassesAt CX X σ (E σ))
    (ha : PA X (e :: es) t) (hdb : (x == ("__debug__" : Str)) = false := by decide) (he : starEach (e :: es) X.env = (false, eval e X.env) :: starEach es X.env := by rfl) (hpl : (backTo pos (starEach es X.env)).any (·.1) = false := by rfl) :
    PE X (.Call (.Name x p) (e :: es) [] pos) (tCallSD sp [] E t) := by
  refine ⟨fun pins s σ H Q I h => ?_⟩
  refine wpAny_Call_Name_kw (ld_glob I hg hm ?_ hdb)
  refine PySem.W.callWith_K (h₀ := X.base) I.ok.mod.kin hk (thn (ha.run pos pins s σ H _ I h) fun us s1 ⟨vs, H1, I1, r, q⟩ => ⟨I1.kIn, ?_⟩) he hpl
  dsimp only at q
  rw [List.append_nil] at q
  have hl : (us ++ []).length = ps.length := by rw [List.append_nil, ← r.length]; exact F.len _ _ _ _ q
  have hbt := hb s1 us I1.kIn hl
  rw [List.append_nil] at hbt
  refine wpAny_call (codeAny_mono (F.run X.A X.stack s1 H1 ⟨us, []⟩ us vs Q (E σ) hr hgd I1.env0 hbt r q) fun r s' hq => ?_)
  cases r with
  | error e => exact hx σ pins H1 s1 e s' I1 hq
  | ok fl =>
    cases fl with
    | ret u => exact I1.after hq
    | next => exact False.elim hq
    | brk => exact False.elim hq
    | cont => exact False.elim hq
end
section
variable {X : Cx} {B : Bd} {W : WX} {e : Expr} {es : List Expr} {g : Av} {k : Nat} {f : Addr} {fd : FuncData} {ps : List Str} {ms : List Bool} {F : Fn} {x : Str} {p pos : Pos}
theorem d_callG (Fk : FnG X.prog X.w X.K X.mg X.base (L2N.CX X.prog X.w) k f fd ps (spOf B.G ms false F)) (hr : Room k X.A) (hgd : X.A.guards = some []) (hm : X.mg x = some (.ref f)) (hk : PySem.W.keepIn X.K (.ref f) = true) (hb : Binds X.K fd ps []) (tk : ∀ σ, PassesAt (L2N.CX X.prog X.w) X σ (WE W σ))
    (ha : DA X B W (e :: es) g) (hg : Gl X x := by rfl) (hdb : (x == ("__debug__" : Str)) = false := by decide) (he : starEach (e :: es) X.env = (false, eval e X.env) :: starEach es X.env := by rfl) (hpl : (backTo pos (starEach es X.env)).any (·.1) = false := by rfl) :
    DE X B W (.Call (.Name x p) (e :: es) [] pos) (eCall ms F g) := by
  refine pe_imp (pe_callG Fk hr hgd hg hm hk hb tk ha hdb he hpl) fun σ H Q h => ?_
  obtain ⟨fr, Hv, R, h⟩ := h
  exact entCall (P := fun fr H Hv r => PostE B W fr σ H Hv r Q) R (fun c fs fr' h => h) (fun h => h) (fun d fr' h v H1 Hv1 H' Hv' fr1 n m ret => h v H' Hv' (n.trans m) (.of ret)) h
end
structure FnP (P : Program) (w : World) (K : PySem.W.Frag) (mg : Str → Option Value) (base : Heap) (CX : CXT) (k : Nat) (f : Addr) (fd : FuncData) (ps : List Str) (sp : Addr × Obj → Sp) : Prop where
  len : ∀ p vs H Q E, sp p vs H Q E → vs.length = ps.length
  run : ∀ (A : Around) (outer : List Env) (s : Shared) (H : Hp) (args : Args) (us : List Value) (vs : List V) (Q : VK) (E : XK) (p : Addr × Obj), RoomH k A → A.guards = some [] → Hot1 A p → PinOk outer H s p → Env0 P w K mg base A outer s H → BindsTo s fd args (ps.zip us) → Vals vs us → sp p vs H Q E →
    codeAny (model P w) A (.call (.ref f) args) (CR CX outer P w H s Q E) s
theorem fn_ofP {CX : CXT} {P : Program} {w : World} {K : PySem.W.Frag} {mg : Str → Option Value} {base : Heap} {k : Nat} {x qual : Str} {st : Stmt} {f : Addr} {fd : FuncData} {N ps : List Str} {sp : Addr × Obj → Sp} (F : Fun K x qual st f fd) (S : FnScope N ps (defScope st))
    (len : ∀ p vs H Q E, sp p vs H Q E → vs.length = ps.length)
    (hbody : ∀ (cdv : Value) (A : Around) (outer : List Env) (s : Shared) (H : Hp) (vs : List V) (Q : VK) (E : XK) (p : Addr × Obj), A.guards = some [] → Hot1 A p → RoomH k (A.deeper (envOfC qual (defScope st) s.heap.objs.size f cdv)) → sp p vs H Q E →
      ∃ t, PSs (cxH CX P w K mg base N qual (defScope st) f cdv A outer s H E p) (defBody st) t ∧ t { nx := fun _ H' => Q .non H', rt := Q } (L2.start N vs) H) :
    FnP P w K mg base CX (k + 1) f fd ps sp := by
  obtain ⟨oc, od, kV, doc, pm, an, cdv, ct, osl, rfl, lk, hcd⟩ := F.ex
  refine ⟨len, fun A outer s H args us vs Q E p hr hgd hot hpin e0 hb r hsp => ?_⟩
  have hl := len _ _ _ _ _ hsp
  have KX : K.In s.heap := e0.mod.kin.keeps fun b o e => (e0.bs b o e).1
  have lim : s.heap.NoLimit := e0.mod.nolimit.keeps fun b o e => (e0.bs b o e).1
  have hkind : ∀ y ∈ ps.zip us, (defScope st).names.lookup y.1 = some .local ∨ ((defScope st).names.lookup y.1 = some .cell ∧ ((cellsFrom (s.heap.objs.size + 1) (defScope st).names []).lookup y.1).isSome = true) := fun ⟨n, v⟩ hy => by
    rcases S.par n (List.of_mem_zip hy).1 with q | q
    · exact .inl q
    · exact .inr ⟨q, PySem.W.cellsFrom_some _ _ _ (.inl q)⟩
  refine codeAny_call_function hr.depth (KX _ _ lk) rfl S.co S.gen rfl (PySem.W.codeRec_of KX hcd) (hb _ _ _ _ ?_)
  refine wpAny_newFunctionEnv_cells S.kind hkind fun env he s1 x => ?_
  subst he
  refine ⟨lim.keeps x.toInCall.keep, codeAny_func ?_⟩
  obtain ⟨t, ht, hq⟩ := hbody cdv A outer s H vs Q E p hgd hot (hr.deeper _) hsp
  have I : Inv (cxH CX P w K mg base N qual (defScope st) f cdv A outer s H E p) [] (L2.start N vs) H s1 := inv_startH S hpin e0 hl r x
  refine wpAny_mono (ht.run [] s1 (L2.start N vs) H _ I hq) (fun fl s' hs => ?_) fun e s' hs => hs
  have fin : ∀ {σ' : L2.St} {H' : Hp} {v : V} {u : Value}, Inv (cxH CX P w K mg base N qual (defScope st) f cdv A outer s H E p) [] σ' H' s' → RelV v u → Q v H' → CE outer P w H s Q u s' :=
    fun {σ' H' v u} J rv q => ⟨v, H', J.os, J.bare, J.base, J.hok, rv, q⟩
  cases fl with
  | ret u =>
    obtain ⟨v, σ', H', J, rv, q⟩ := hs
    exact fin J rv q
  | next =>
    obtain ⟨σ', H', J, q⟩ := hs
    exact fin (v := V.non) (u := Value.none) J rfl q
  | brk =>
    obtain ⟨_, _, _, q⟩ := hs
    exact False.elim q
  | cont =>
    obtain ⟨_, _, _, q⟩ := hs
    exact False.elim q
theorem pe_callP {X : Cx} {CX : CXT} {k : Nat} {f : Addr} {fd : FuncData} {ps : List Str} {sp : Addr × Obj → Sp} {E : L2.St → XK} {x : Str} {p pos : Pos} {e : Expr} {es : List Expr} {t : TA} {pr : Addr × Obj} (hpr : pr ∈ X.pn) (hot : Hot1 X.A pr)
    (F : FnP X.prog X.w X.K X.mg X.base CX k f fd ps sp) (hr : RoomH k X.A) (hgd : X.A.guards = some []) (hg : Gl X x) (hm : X.mg x = some (.ref f)) (hk : PySem.W.keepIn X.K (.ref f) = true) (hb : Binds X.K fd ps []) (hx : ∀ σ, PassesAt CX X σ (E σ))
    (ha : PA X (e :: es) t) (hdb : (x == ("__debug__" : Str)) = false := by decide) (he : starEach (e :: es) X.env = (false, eval e X.env) :: starEach es X.env := by rfl) (hpl : (backTo pos (starEach es X.env)).any (·.1) = false := by rfl) :
    PE X (.Call (.Name x p) (e :: es) [] pos) (tCallSD (sp pr) [] E t) := by
  refine ⟨fun pins s σ H Q I h => ?_⟩
  refine wpAny_Call_Name_kw (ld_glob I hg hm ?_ hdb)
  refine PySem.W.callWith_K (h₀ := X.base) I.ok.mod.kin hk (thn (ha.run pos pins s σ H _ I h) fun us s1 ⟨vs, H1, I1, r, q⟩ => ⟨I1.kIn, ?_⟩) he hpl
  dsimp only at q
  rw [List.append_nil] at q
  have hl : (us ++ []).length = ps.length := by rw [List.append_nil, ← r.length]; exact F.len _ _ _ _ _ q
  have hbt := hb s1 us I1.kIn hl
  rw [List.append_nil] at hbt
  have P1 := I1.pin pr (List.mem_append_left _ hpr)
  have hpin : PinOk X.stack H1 s1 pr := ⟨P1.1, P1.2.1, fun hm => (List.mem_cons.mp (I1.stkSub pr.1 hm)).elim P1.2.2.1 P1.2.2.2.1, P1.2.2.2.2⟩
  refine wpAny_call (codeAny_mono (F.run X.A X.stack s1 H1 ⟨us, []⟩ us vs Q (E σ) pr hr hgd hot hpin I1.env0 hbt r q) fun r s' hq => ?_)
  cases r with
  | error e => exact hx σ pins H1 s1 e s' I1 hq
  | ok fl =>
    cases fl with
    | ret u => exact I1.after hq
    | next => exact False.elim hq
    | brk => exact False.elim hq
    | cont => exact False.elim hq
/-- what it answers by the exception's class and fields -/
def runX (n : Nat) (g : Nat → List D → Sv) : Nat → List D → Option D := fun c fs => match g c fs (startF n [.tup [.var 0]]) with
  | .ok .nx _ => some .non
  | .ok (.ret d) _ => some d
  | _ => none
def spP (G : SE) (n : Nat) (F : Nat → List D → Option D) : Addr × Obj → Sp := fun p vs H Q _ =>
  ∃ (c : Nat) (fs : List D) (dd : Addr) (Hv : Hp) (d : D), vs = [.ref p.1] ∧ c < n ∧ L2N.Zn (.ref (G.ecls c)) (some dd) p.2 ∧ (∃ us, p.2.data = .fields us) ∧ Sub Hv H ∧ (∀ P ∈ G.tabs, TabH H P ∧ Hv P = none) ∧ dd ∉ G.tabs ∧ ExcAt G H Hv c fs dd ∧ F c fs = some d ∧
    ∀ v H' Hv', FinC G [false] [] [.ref p.1] H Hv H' Hv' → Rep G Hv' d v → Q v H'
section
variable {G : SE} {M : List Nat} {n : Nat} {g : Nat → List D → Sv} {x qual : Str} {st : Stmt} {f : Addr} {fd : FuncData} {N : List Str} {y : Str} {k : Nat}
theorem fnp_of (F : Fun G.K x qual st f fd) (S : FnScope N [y] (defScope st)) (hM : 0 ∈ M)
    (hbody : ∀ (cdv : Value) (A : Around) (outer : List Env) (s : Shared) (H : Hp) (E : XK) (Hv : Hp) (c : Nat) (fs : List D) (a dd : Addr) (oe : Obj), A.guards = some [] → RoomH k (A.deeper (PyProof.Rows.envOfC qual (defScope st) s.heap.objs.size f cdv)) →
      HotX (cxH (L2N.CX G.P G.w) G.P G.w G.K G.mg G.base N qual (defScope st) f cdv A outer s H E (a, oe)) ⟨G, M, [], H, Hv, some (0, a)⟩ n c fs a dd oe →
      DSs (cxH (L2N.CX G.P G.w) G.P G.w G.K G.mg G.base N qual (defScope st) f cdv A outer s H E (a, oe)) ⟨G, M, [], H, Hv, some (0, a)⟩ (fun _ _ _ _ => False) false (defBody st) (g c fs)) :
    FnP G.P G.w G.K G.mg G.base (L2N.CX G.P G.w) (k + 1) f fd [y] (spP G n (runX N.length g)) := by
  have hNl : 1 ≤ N.length := by
    have := congrArg List.length S.pre
    rw [List.length_take] at this
    have e : ([y] : List Str).length = 1 := rfl
    omega
  refine fn_ofP F S (fun p vs H Q E h => ?_) (fun cdv A outer s H vs Q E p hgd hot hr h => ?_)
  · obtain ⟨c, fs, dd, Hv, d, rfl, _⟩ := h
    rfl
  · obtain ⟨c, fs, dd, Hv, d, rfl, hcn, hz, hf, hsub, htab, hnt, hex, hF, h⟩ := h
    obtain ⟨a, oe⟩ := p
    have hx : HotX (cxH (L2N.CX G.P G.w) G.P G.w G.K G.mg G.base N qual (defScope st) f cdv A outer s H E (a, oe)) ⟨G, M, [], H, Hv, some (0, a)⟩ n c fs a dd oe :=
      ⟨List.mem_singleton.mpr rfl, hz, hf, hcn, hex, fun p hp => absurd hp List.not_mem_nil, hnt, hot.1, hot.2⟩
    have hlen : (startF N.length [D.tup [D.var 0]]).length = N.length := by
      unfold startF
      simp only [List.length_append, List.length_map, List.length_replicate, List.length_cons, List.length_nil]
      omega
    have get : ∀ {i : Nat} {e : D}, (startF N.length [D.tup [D.var 0]])[i]? = some (some e) → i = 0 ∧ e = .tup [.var 0] := fun {i e} q => by
      have q' := (startF_get (ds := [D.tup [D.var 0]]) (n := N.length) (by exact hNl)).mp q
      cases i with
      | zero => cases q'; exact ⟨rfl, rfl⟩
      | succ i => cases q'
    have s0 : (L2.start N [V.ref a])[0]? = some (some (V.ref a)) := (start_get (by exact hNl)).mpr rfl
    have R : Rel ⟨G, M, [], H, Hv, some (0, a)⟩ (startF N.length [D.tup [D.var 0]]) (L2.start N [V.ref a]) H Hv := by
      refine ⟨hsub, .refl _, fun b o h => .inl h, fun b o h _ _ => h, ?_, fun i d e hm => ?_, fun i d e hc hm => ?_, fun i d e hm => ?_, fun i j a di dj hi hj hij e1 e2 s1 s2 => ?_, fun p hp => absurd hp List.not_mem_nil, htab⟩
      · rw [hlen]
        unfold L2.start
        simp only [List.length_append, List.length_map, List.length_replicate, List.length_cons, List.length_nil]
        omega
      · obtain ⟨rfl, rfl⟩ := get e
        exact absurd hM hm
      · obtain ⟨rfl, rfl⟩ := get e
        exact ⟨_, _, rfl, s0, .inr ⟨rfl, a, rfl, rfl⟩⟩
      · obtain ⟨rfl, rfl⟩ := get e.1
        cases e.2
      · obtain ⟨rfl, rfl⟩ := get e1.1
        cases e1.2
    refine ⟨_, hbody cdv A outer s H E Hv c fs a dd oe hgd hr hx, startF N.length [D.tup [D.var 0]], Hv, R, ?_⟩
    have finC : ∀ {fr' : Fr} {H' Hv' : Hp}, FinB ⟨G, M, [], H, Hv, some (0, a)⟩ fr' H' Hv' → FinC G [false] [] [.ref a] H Hv H' Hv' := fun F => ⟨F.sub, F.ext0, F.new, fun b o h _ nt => F.keep b o h (fun p hp => absurd hp List.not_mem_nil) nt, F.tab, fun i b h1 h2 => by
      cases i with
      | zero => cases h1
      | succ i => cases h1⟩
    unfold runX at hF
    cases hg : g c fs (startF N.length [D.tup [D.var 0]]) with
    | bad => rw [hg] at hF; cases hF
    | exc c' fs' fr => rw [hg] at hF; cases hF
    | ok fl fr =>
      rw [hg] at hF
      cases fl with
      | nx =>
        cases hF
        exact fun σ' H' Hv' R _ => h .non H' Hv' (finC R.fin) repN
      | brk => cases hF
      | cnt => cases hF
      | ret d' =>
        cases hF
        exact fun v H' Hv' f' ret => h v H' Hv' (finC f') ret
end
/-- the call f(e), e the handled exception -/
def eCallX (i : Nat) (o : Option D) : Ev := fun fr => if exIn i fr = true then (match o with
  | some d => if pers d = true then .ok d fr else .bad
  | none => .bad) else .bad
theorem d_callX {X : Cx} {B : Bd} {W : WX} {n c : Nat} {fs : List D} {a dd : Addr} {oe : Obj} {i k : Nat} {f : Addr} {fd : FuncData} {y : Str} {F : Nat → List D → Option D} {x z : Str} {p q pos : Pos} (h : HotX X B n c fs a dd oe) (hex : B.ex = some (i, a)) (hi : i ∈ B.M)
    (Fk : FnP X.prog X.w X.K X.mg X.base (L2N.CX X.prog X.w) k f fd [y] (spP B.G n F)) (hr : RoomH k X.A) (hgd : X.A.guards = some []) (hm : X.mg z = some (.ref f)) (hk : PySem.W.keepIn X.K (.ref f) = true) (hb : Binds X.K fd [y] [])
    (hN : X.N[i]? = some x := by rfl) (hv : Vis X.env.scope x := by first | exact Or.inl rfl | exact Or.inr (Or.inl rfl) | exact Or.inr (Or.inr rfl)) (hd : (x == ("__debug__" : Str)) = false := by decide)
    (hcd : (x == ("__classdict__" : Str)) = false := by decide) (hg : Gl X z := by rfl) (hdb : (z == ("__debug__" : Str)) = false := by decide) (he : starEach [.Name x p] X.env = (false, eval (.Name x p) X.env) :: starEach [] X.env := by rfl) (hpl : (backTo pos (starEach [] X.env)).any (·.1) = false := by rfl) :
    DE X B W (.Call (.Name z q) [.Name x p] [] pos) (eCallX i (F c fs)) := by
  refine pe_imp (pe_callP (E := fun _ _ _ _ => False) h.pin h.hot Fk hr hgd hg hm hk hb (fun σ pins H s e s' I z => by
    obtain ⟨_, _, _, _, _, _, _, _, _, _, _, _, z⟩ := z
    exact z.elim) (pa_cons (pe_var hN hv hd hcd) pa_nil he) hdb he hpl) fun σ H Q hh => ?_
  obtain ⟨fr, Hv, R, hh⟩ := hh
  unfold eCallX at hh
  split at hh
  · next ci =>
    split at hh
    · next d hd' =>
      split at hh
      · next hp =>
        have ex := h.now R
        refine ⟨_, exIn_at R hi hex ci, c, fs, dd, Hv, d, rfl, h.cn, h.z, h.dat, R.sub, R.tab, h.notab, ex, hd', fun v H' Hv' fin r => ?_⟩
        have nx : Nxt B fr σ H Hv fr H' Hv' := nxt_call (ms := [false]) (ds := [.int 0]) (vs := [.int 0]) (cs := [.int 0]) (outs := [.int 0]) R ⟨_, _, rfl, .of (Rep.int_iff.mpr rfl), rfl⟩ rfl (by decide) rfl
          ⟨fin.sub, fin.ext, fin.new, fun b o h1 h2 h3 => fin.keep b o h1 (fun ⟨j, h4, h5⟩ => by cases j with | zero => cases h4 | succ j => cases h4) h3, fin.tab, fun j b h4 _ => by cases j with | zero => cases h4 | succ j => cases h4⟩
        exact hh v H' Hv' nx (.of r)
      · exact hh.elim
    · exact hh.elim
  · exact hh.elim
theorem law_callG {P : Program} {w : World} {K : PySem.W.Frag} {mg mb : Str → Option Value} {CX : CXT} {k : Nat} {fa a : Addr} {fd : FuncData} {x : Str} {sp : Sp} {s₁ : Shared} {vs : List Value} {ns : List Int}
    (KX : K.In s₁.heap) (hns : s₁.heap.Ns mainGlobals mg) (hb : s₁.heap.Ns builtinsNs mb) (hbb : ∀ x : Str, x ≠ "__name__" → mb x = bootBuiltins x) (hlim : s₁.heap.NoLimit) (hg : s₁.gens = #[])
    (ha : s₁.heap.get? a = some { cls := .type "list", data := .seq vs.toArray }) (hi : IntsAre vs ns) (hl : ns.length ≤ sizeLine) (hr : Room k callerA)
    (F : ∀ base : Heap, K.In base → base.Ns mainGlobals mg → FnG P w K mg base CX k fa fd [x] sp) (hbind : ∀ (s : Shared) (u : Value), BindsTo s fd ⟨[u], []⟩ [(x, u)])
    (hsp : ∀ H : Hp, Only H → SqL K H a (ns.map V.int) → sp [.ref a] H (fun v _ => v = .bl true) fun _ _ _ => False)
    (hCX : ∀ H e s', CX [] H s₁ (fun _ _ _ => False) e s' → False) :
    codeAny (model P w) callerA (.call (.ref fa) ⟨[.ref a], []⟩) (fun r s' => r = .ok (.ret (.bool true)) ∧ OldK s₁.heap s'.heap ∧ s'.os = s₁.os ∧ AllBare s'.gens) s₁ := by
  have rv := vals_ints hi
  have lenV := hi.length
  -- from an abstract heap in which nothing but the script may be tracked
  have core : ∀ H : Hp, Only H → SqL K H a (ns.map V.int) → HOk P w H s₁.heap → (∀ b, H b ≠ none → b = a) → (H a ≠ none → K.lookup a = none) →
      codeAny (model P w) callerA (.call (.ref fa) ⟨[.ref a], []⟩) (fun r s' => r = .ok (.ret (.bool true)) ∧ OldK s₁.heap s'.heap ∧ s'.os = s₁.os ∧ AllBare s'.gens) s₁ := by
    intro H hO hS hok hA hK
    have base_of : ∀ {b : Addr} {o : Obj}, s₁.heap.get? b = some o → H b = none → (hidT s₁.heap H).get? b = some o := fun e n => hidT_get e n
    have noA : ∀ {b : Addr} {o : Obj} {es : Array DictEntry} {ep : Nat}, s₁.heap.get? b = some o → o.data = .dict es ep → H b = none := fun {b o es ep} e d => by
      cases q : H b with
      | none => rfl
      | some u =>
        have e' : b = a := hA b (by rw [q]; simp)
        subst e'
        rw [ha] at e; cases e
        have d' : Data.seq vs.toArray _ = Data.dict es ep := d
        cases d'
    have nsK : ∀ {b : Addr} {m : Str → Option Value}, s₁.heap.Ns b m → (hidT s₁.heap H).Ns b m := fun {b m} ⟨o, es, ep, e, d, r⟩ => ⟨o, es, ep, base_of e (noA e d), d, r⟩
    have hKb : K.In (hidT s₁.heap H) := fun b o e => base_of (KX b o e) (by
      cases q : H b with
      | none => rfl
      | some u =>
        have e' : b = a := hA b (by rw [q]; simp)
        subst e'
        rw [hK (by rw [q]; simp)] at e; cases e)
    have hM : Mod K mg (hidT s₁.heap H) := ⟨hKb, nsK hns, ⟨mb, nsK hb, hbb⟩, let ⟨mc, h1, h2⟩ := hlim; ⟨mc, nsK h1, h2⟩⟩
    have e0 : Env0 P w K mg (hidT s₁.heap H) callerA [] s₁ H := ⟨rfl, hM, fun b o e => of_hidT e, Nat.le_of_eq (hidT_size _ _), trivial, fun b hb => absurd (show b ∈ ([] : List Addr) from hb) (by simp), hok, .of_eq hg⟩
    refine codeAny_mono ((F _ hKb (nsK hns)).run callerA [] s₁ H ⟨[.ref a], []⟩ [.ref a] [.ref a] _ _ hr rfl e0 (hbind s₁ (.ref a)) (.cons rfl .nil) (hsp H hO hS)) fun r s' h => ?_
    cases r with
    | error e => exact (hCX H e s' h).elim
    | ok fl =>
      cases fl with
      | next => exact False.elim h
      | brk => exact False.elim h
      | cont => exact False.elim h
      | ret u =>
        obtain ⟨v, H', os, bare, un, hok', r', q⟩ := h
        have q' : v = .bl true := q
        subst q'
        obtain rfl : u = Value.bool true := r'
        refine ⟨rfl, OldK.of_keep fun b o e => ?_, os, bare⟩
        cases q : H b with
        | none => exact un.keep b o e q (by intro z; exact absurd (show b ∈ ([] : List Addr) from z) (by simp)) (by simp)
        | some u =>
          rcases hO b with z | ⟨ob, xs, z⟩
          · rw [q] at z; cases z
          · have z2 := un.frzs b ob _ z
            obtain ⟨e1, _⟩ := hok b _ z
            obtain ⟨e2, _⟩ := hok' b _ z2
            rw [e] at e1; cases e1
            exact e2
  cases hk : K.lookup a with
  | some o =>
    -- the script is one of the module's own objects
    have e := KX a o hk
    rw [ha] at e
    cases e
    refine core (fun _ => none) (fun _ => .inl rfl) (.inr ⟨_, vs.toArray, _, hk, rfl, rfl, rfl, by rw [List.size_toArray, lenV]; exact hl, by simpa using rv⟩) (fun b u z => by have z' : (none : Option HO) = some u := z; cases z') (fun b z => absurd rfl z) fun z => absurd rfl z
  | none =>
    refine core (fun b => if b = a then some (.frz { cls := .type "list", data := .seq vs.toArray } (.lst (ns.map V.int))) else none) (fun b => ?_) (.inl (.inr ⟨{ cls := .type "list", data := .seq vs.toArray }, if_pos rfl⟩)) (fun b u z => ?_) (fun b z => ?_) fun _ => hk
    · by_cases hb : b = a
      · exact .inr ⟨_, _, if_pos hb⟩
      · exact .inl (if_neg hb)
    · by_cases hb : b = a
      · have z' := (if_pos hb).symm.trans z
        cases z'
        subst hb
        exact ⟨ha, by rw [List.length_map]; exact hl, vs, _, rv, ha⟩
      · have z' := (if_neg hb).symm.trans z
        cases z'
    · by_cases hb : b = a
      · exact hb
      · exact absurd (if_neg hb) z
theorem walk_ofG {l : PySem.W.OpenLaw} {n k : Nat} {q : Program} {loose : List Str} {XP : (Str → Option Value) → Heap → Prop} {YP : World → Heap → Prop} {d : DefRec} {K : Params → PySem.W.Frag} {CX : World → CXT} {sp : World → Sp} {x : Str}
    (hn : l.most = some n) (hn2 : n ≤ sizeLine) (hdf : d.params.defaults = []) (hr : Room k callerA)
    (hY : ∀ (w : World) (h : Heap), YP w h → (K w.params).In h)
    (F : ∀ (w : World) (mg : Str → Option Value) (fa : Addr) (h : Heap), (K w.params).In h → h.Ns mainGlobals mg → mg d.name = some (.ref fa) →
      ∃ fd : FuncData, (∀ (s : Shared) (u : Value), BindsTo s fd ⟨[u], []⟩ [(x, u)]) ∧
        ∀ base : Heap, (K w.params).In base → base.Ns mainGlobals mg → FnG l.prog w (K w.params) mg base (CX w) k fa fd [x] (sp w))
    (hsp : ∀ (w : World) (H : Hp) (a : Addr) (ns : List Int), ns.length ≤ n → (∀ z ∈ ns, Builtin.Int.intBits z ≤ 1048576) → Only H → SqL (K w.params) H a (ns.map V.int) → sp w [.ref a] H (fun v _ => v = .bl true) fun _ _ _ => False)
    (hCX : ∀ (w : World) (H : Hp) (s : Shared) (e : Value) (s' : Shared), CX w [] H s (fun _ _ _ => False) e s' → False) :
    PySem.W.WalkO q loose XP YP l.row.toRowW d [] (fun f vs => PySem.call f vs) := by
  refine Att.attach_callB hn hdf fun w s₀ s₁ mg mb fa o pm cd doc a vs ns G Y ho hd hcd hmg hobj hints hlen hbits hg => ?_
  have KX := hY w _ Y
  obtain ⟨fd, hb, hF⟩ := F w mg fa _ KX G.T.g hmg
  exact law_callG KX G.T.g G.T.b G.T.builtins G.T.nolimit hg hobj hints (Nat.le_trans hlen hn2) hr hF hb (fun H hO hS => hsp w H a ns hlen hbits hO hS) fun H e s' => hCX w H s₁ e s'
end KS
namespace KS
open PySem PySem.Spec PyProof.Rows L2
section
variable {X : Cx} {B : Bd} {W : WX} {a : Expr} {f : Ev} {p pos : Pos}
theorem u64H {k : Nat} {A : Around} (r : L2H.RoomH k A) : A.units + 64 < cLine := by have := r.un; omega
end
end KS
namespace KS
open PySem PySem.Spec PyProof.Rows L2
end KS
namespace KS
open PySem PySem.Spec PyProof.Rows L2
section
variable {X : Cx} {B : Bd} {W : WX} {a b : Expr} {f g : Ev} {pos : Pos}
theorem takesF {X : Cx} : L2N.Takes X (fun _ _ _ _ => False) := fun u s' x => by
  obtain ⟨_, _, _, _, _, _, _, _, _, _, _, _, _, _, _, _, w⟩ := x
  exact False.elim w
theorem roomS {k : Nat} {A : Around} {v : Value} (r : Room k A) : L2H.RoomH k (A.mark (some v)) := ⟨r.dp, r.un⟩
theorem roomM {j k : Nat} {A : Around} (r : L2H.RoomH k A) (h : j ≤ k) : L2H.RoomH j A := r.mono h
end
end KS
namespace KS
open PySem PySem.Spec L2
/-- what stays true through all turns, told from the start of the comprehension -/
structure Com (B : Bd) (σ : L2.St) (fr1 : Fr) (H1 Hv1 : Hp) (D0 : Addr) (fr' : Fr) (H Hv' : Hp) (acc : List V) (ad : List D) : Prop where
  sub : Sub Hv1 Hv'
  at_ : H D0 = some (.lst acc)
  rep : RepL B.G Hv' ad acc
  hv : Hv' D0 = none
  no : ∀ j d, j ∈ B.M → (fr'[j]? = some (some d) ∧ isCell d = true) → σ[j]? ≠ some (some (.ref D0))
  keep : ∀ b o, H1 b = some o → ¬ Own B fr1 σ b → b ∉ B.G.tabs → H b = some o
  shr : Shr B fr1 fr'
  alive : ∀ b o, H1 b = some o → ∃ o', H b = some o'
  newv : ∀ b o, Hv' b = some o → Hv1 b = some o ∨ NewOk H1 b o ∨ Own B fr1 σ b
section
variable {B : Bd} {σ σ2 : L2.St} {fr1 fr' fr2 frx : Fr} {H1 Hv1 H Hv' H' Hv2 Hx Hvx : Hp} {D0 : Addr} {acc : List V} {ad : List D}
/-- an item is yielded (a tuple may be new) -/
theorem Com.yld (C : Com B σ fr1 H1 Hv1 D0 fr' H Hv' acc ad) (R : Rel B frx σ2 H Hv') {d : D} {x : V} (hr : (H' = H ∧ Rep B.G Hv' d x) ∨ (∃ T es us, d = .tup es ∧ x = .ref T ∧ H T = none ∧ H' = upd H T (.tup us) ∧ RepL B.G Hv' es us)) :
    ∃ Hv2, Sub Hv' Hv2 ∧ Rel B frx σ2 H' Hv2 ∧ Rep B.G Hv2 d x ∧ Com B σ fr1 H1 Hv1 D0 fr' H' Hv2 acc ad := by
  rcases hr with ⟨e, r⟩ | ⟨T, es, us, rfl, rfl, hT, rfl, r⟩
  · rw [e]; exact ⟨Hv', .refl _, R, r, C⟩
  · have sT : Sub Hv' (upd Hv' T (.tup us)) := (Sub.refl Hv').put (R.hv_none hT)
    have neT : D0 ≠ T := ne_of_none C.at_ hT
    refine ⟨_, sT, R.layV hT (fun ps z => by cases z), Rep.tup upd_same (RepL.mono sT _ _ r), C.sub.trans sT, by rw [upd_ne neT]; exact C.at_, RepL.mono sT _ _ C.rep, by rw [upd_ne neT]; exact C.hv, C.no, fun b o h no nt => ?_, C.shr, fun b o h => ?_, fun b o h => ?_⟩
    · have := C.keep b o h no nt
      rw [upd_ne (ne_of_none this hT)]; exact this
    · obtain ⟨o', h'⟩ := C.alive b o h
      exact ⟨o', by rw [upd_ne (ne_of_none h' hT)]; exact h'⟩
    · by_cases eb : b = T
      · refine .inr (.inl (.inl ?_))
        cases e : H1 b with
        | none => rfl
        | some u =>
          obtain ⟨u', h'⟩ := C.alive b u e
          rw [eb, hT] at h'; cases h'
      · rw [upd_ne eb] at h
        exact C.newv b o h
end
end KS
namespace KS
open PySem PySem.Spec L2 PyProof.Rows
def rLtT (K : PySem.W.Frag) : R2 := fun x y H Q => ∃ (a b : Addr) (ns ms : List Int), x = .ref a ∧ y = .ref b ∧ SqT K H a (ns.map V.int) ∧ SqT K H b (ms.map V.int) ∧
  Q (.bl (Ob.lexAt (fun j => decide (ns.getD j 0 = ms.getD j 0)) (fun j => decide (ns.getD j 0 < ms.getD j 0)) (decide (ns.length < ms.length)) 0 (min ns.length ms.length))) H
theorem op_ltT {X : Cx} (hu : X.A.units < cLine) : OpR X (compareOp .Lt) (rLtT X.K) := by
  intro pins s σ H x y v u Q I rx ry h
  obtain ⟨a, b, ns, ms, rfl, rfl, ha, hb, q⟩ := h
  cases rx
  cases ry
  obtain ⟨its, r1, p1, _⟩ := I.tuple ha
  obtain ⟨its2, r2, p2, _⟩ := I.tuple hb
  have i1 : IntsAre its ns := Vals.ints r1
  have i2 : IntsAre its2 ms := Vals.ints r2
  have e1 : its.toArray.size = ns.length := by rw [List.size_toArray]; exact i1.length
  have e2 : its2.toArray.size = ms.length := by rw [List.size_toArray]; exact i2.length
  have at1 : ∀ j (h1 : j < its.toArray.size), ∃ t, its.toArray[j] = .int (ns.getD j 0) t := fun j h1 => PyProof.Rows.IntsAre.int_at i1 _ _ (by simp at h1; simp [h1])
  have at2 : ∀ j (h1 : j < its2.toArray.size), ∃ t, its2.toArray[j] = .int (ms.getD j 0) t := fun j h1 => PyProof.Rows.IntsAre.int_at i2 _ _ (by simp at h1; simp [h1])
  have R := Ob.RcOp.tuples_lt (A := X.A) (s := s) (e := fun j => decide (ns.getD j 0 = ms.getD j 0)) (r := fun j => decide (ns.getD j 0 < ms.getD j 0)) p1 p2 hu (fun j h1 h2 => by
    obtain ⟨t, et⟩ := at1 j h1
    obtain ⟨t', et'⟩ := at2 j h2
    rw [et, et']
    have z : (ns.getD j 0 == ms.getD j 0) = decide (ns.getD j 0 = ms.getD j 0) := by
      by_cases q : ns.getD j 0 = ms.getD j 0
      · rw [decide_eq_true q]; exact beq_iff_eq.mpr q
      · rw [decide_eq_false q]; exact beq_eq_false_iff_ne.mpr q
    rw [← z]
    exact SeqAt.EqAt.int_int _ _ _ _) (fun j h1 h2 _ => by
    obtain ⟨t, et⟩ := at1 j h1
    obtain ⟨t', et'⟩ := at2 j h2
    rw [et, et']
    exact Ob.RcOp.lt_int _ _ _ _)
  rw [e1, e2] at R
  have z : wpAny (model X.prog X.w) X.A (compareOp .Lt (.ref a) (.ref b)) (EP X pins σ Q) X.xe s := R X.prog X.w X.xe (EP X pins σ Q) ⟨.bl _, H, I, rfl, q⟩
  exact z
def ltTs (ns ms : List Int) : Bool := Ob.lexAt (fun j => decide (ns.getD j 0 = ms.getD j 0)) (fun j => decide (ns.getD j 0 < ms.getD j 0)) (decide (ns.length < ms.length)) 0 (min ns.length ms.length)
def ltTF : D → D → Option D
  | .tup ds, .tup es => match intsOf ds, intsOf es with
    | some ns, some ms => some (.bl (ltTs ns ms))
    | _, _ => none
  | _, _ => none
section
variable {X : Cx} {B : Bd}
theorem ops_ltT (hK : X.K = B.G.K) : OpS B (rLtT X.K) ltTF := by
  intro fr σ H Hv x y dx dy a b z Q R rx ry hx hy hz k
  unfold ltTF at hz
  split at hz
  · split at hz
    · next ns ms h1 h2 =>
      cases hz
      obtain ⟨p, vs, rfl, q, _, r⟩ := R.tup_of rx hx
      obtain ⟨p2, vs2, rfl, q2, _, r2⟩ := R.tup_of ry hy
      have e1 := ints_rep r h1
      have e2 := ints_rep r2 h2
      subst e1 e2
      exact ⟨p, p2, ns, ms, rfl, rfl, by rw [hK]; exact q, by rw [hK]; exact q2, k _ H Hv (.refl R) repB⟩
    · cases hz
  · cases hz
abbrev ltA : D → D → Option D := orF ltF ltTF
theorem ops_ltA (hK : X.K = B.G.K := by rfl) : OpS B (fun x y H Q => rI0 (fun i j => .bl (decide (i < j))) x y H Q ∨ rLtT X.K x y H Q) ltA := ops_lt.or (ops_ltT hK)
theorem op_ltA (hu : X.A.units < cLine) : OpR X (compareOp .Lt) (fun x y H Q => rI0 (fun i j => .bl (decide (i < j))) x y H Q ∨ rLtT X.K x y H Q) := op_lt.or (op_ltT hu)
end
end KS
namespace KS
open PySem PySem.Spec L2 PyProof.Rows
end KS
namespace KS
open PySem PySem.Spec PyProof.Rows L2
end KS
namespace KS
open PySem PySem.Spec PyProof.Rows L2 GxR
end KS
namespace KS
open PySem PySem.Spec PyProof.Rows L2 GxR
end KS
namespace KS
open PySem PySem.Spec PyProof.Rows L2 GxR
end KS
namespace KS
open PySem PySem.Spec L2
end KS
namespace KS
open PySem PySem.Spec PyProof.Rows L2 L2H
end KS
namespace KS
open PySem PySem.Spec L2
end KS
namespace KS
open PySem PySem.Spec L2
end KS
namespace KS
open PySem PySem.Spec PyProof.Rows L2
theorem pih_imp {X : Cx} {tg iter : Expr} {t t' : TI} (h : L2H.PIH X tg iter t) (i : ∀ σ H R, t' σ H R → t σ H R) : L2H.PIH X tg iter t' := ⟨fun pins s σ H R I hw => h.run pins s σ H R I (i σ H R hw)⟩
section
variable {X : Cx} {B : Bd} {W : WX} {tg a b : Expr} {f g : Ev} {p pos : Pos}
theorem i_range1H (ha : DE X B W a f) (hm : X.mg "range" = none) (hg : Gl X "range" := by rfl) (he : starEach [a] X.env = (false, eval a X.env) :: starEach [] X.env := by rfl) (hs : starEach [a] X.env = [(false, eval a X.env)] := by rfl) : L2H.PIH X tg (.Call (.Name "range" p) [a] [] pos) (dTI B W (iRg1 f)) := by
  refine pih_imp (L2H.pi_range1H hg hm (pa_cons ha pa_nil he) hs) fun σ H R h => ?_
  obtain ⟨fr, Hv, Rl, h⟩ := h
  refine ⟨fr, Hv, Rl, ?_⟩
  unfold iRg1 at h
  cases hf : f fr with
  | bad => rw [hf] at h; exact h.elim
  | exc c fs fr1 => rw [hf] at h; exact h
  | ok d fr1 =>
    rw [hf] at h
    dsimp only [Res.bind] at h
    intro v H1 Hv1 n rw1
    split at h
    · next j hl =>
      split at h
      · next c =>
        obtain ⟨c1, c2⟩ := okI_spec c
        rw [n.rel.int_of rw1 hl]
        exact ⟨j, rfl, c1, c2, h _ H1 Hv1 n dwalk_range⟩
      · exact h.elim
    · exact h.elim
end
section
variable {X : Cx} {B : Bd} {W : WX} {rf : Bool} {tg iter : Expr} {body : List Stmt} {is : List Nat} {t : Tv} {h : Iv} {g : Sv} {pos : Pos}
theorem s_forH (hp : PassesOwn (model X.prog X.w) X.A X.env X.xe) (hc : L2H.HotC X) (hi : L2H.PIH X tg iter (dTI B W h)) (hg : DG X B tg is t) (hb : DSs X B W rf body g) (hs : ∀ x, foldedSetIterable iter X.env x = pure x := by intro _; rfl) :
    DS X B W rf (.For tg iter body [] pos) (sFor h t g) := by
  refine ps_imp (L2H.ps_forH hp hc hi hg.pg hb hs) fun D σ H hh => ?_
  obtain ⟨fr, Hv, R, hh⟩ := hh
  refine ⟨fr, Hv, R, ?_⟩
  unfold sFor at hh
  cases hI : h fr with
  | bad => rw [hI] at hh; exact hh.elim
  | exc c fs fr1 =>
    rw [hI] at hh
    exact fun dd H' Hv' n e => hh dd σ H' Hv' n.rel n.ext e
  | ok ds fr1 =>
    rw [hI] at hh
    dsimp only [Res.bind] at hh
    intro J H1 Hv1 n w
    obtain ⟨S, Y, wk, hS, hY⟩ := w.ex
    refine for_it wk (fun i σ' H' => ∃ fr' Hv', Rel B fr' σ' H' Hv' ∧ Sub Hv1 Hv' ∧ PostS B W rf Hv' (loopF t g (ds.drop i) fr') D) ⟨fr1, Hv1, n.rel, .refl _, PostS.step n.ext hh⟩ (fun i σ' H' _ ⟨fr', Hv', R', s, _⟩ => hS H' Hv' s R'.sub) (fun i x σ' H' H'' hlt p y => ?_) (fun σ' H' p => ?_)
    · obtain ⟨fr', Hv', R', s, P⟩ := p
      obtain ⟨d, hd, hr⟩ := hY i H' Hv' x H'' hlt s R'.sub y
      have hdrop : ds.drop i = d :: ds.drop (i + 1) := by
        obtain ⟨hl, e⟩ := List.getElem?_eq_some_iff.mp hd
        rw [List.drop_eq_getElem_cons hl, e]
      rw [hdrop] at P
      obtain ⟨Hv2, s2, R2, r2⟩ : ∃ Hv2, Sub Hv' Hv2 ∧ Rel B fr' σ' H'' Hv2 ∧ Rep B.G Hv2 d x := by
        rcases hr with ⟨e, r⟩ | ⟨T, es, vs, rfl, rfl, hT, rfl, r⟩
        · rw [e]; exact ⟨Hv', .refl _, R', r⟩
        · have sT : Sub Hv' (upd Hv' T (.tup vs)) := (Sub.refl Hv').put (R'.hv_none hT)
          exact ⟨_, sT, R'.layV hT (fun ps z => by cases z), Rep.tup upd_same (RepL.mono sT _ _ r)⟩
      unfold loopF at P
      cases ht : t d fr' with
      | none => rw [ht] at P; exact P.elim
      | some fr2 =>
        rw [ht] at P
        dsimp only at P
        refine ⟨fr', Hv2, d, fr2, R2, r2, ht, fun σ2 R3 _ _ => ⟨fr2, Hv2, R3, ?_⟩⟩
        cases hgf : g fr2 with
        | bad => rw [hgf] at P; exact P.elim
        | exc c fs fr3 =>
          rw [hgf] at P
          exact fun dd σ' H' Hv' a b => P dd σ' H' Hv' a (s2.trans b)
        | ok fl fr3 =>
          rw [hgf] at P
          cases fl with
          | nx => exact fun σ' H' Hv' a b => ⟨fr3, Hv', a, s.trans (s2.trans b), PostS.step (s2.trans b) P⟩
          | cnt => exact fun σ' H' Hv' a b => ⟨fr3, Hv', a, s.trans (s2.trans b), PostS.step (s2.trans b) P⟩
          | brk => exact fun σ' H' Hv' a b => P σ' H' Hv' a (s2.trans b)
          | ret d => exact P
    · obtain ⟨fr', Hv', R', s, P⟩ := p
      rw [List.drop_length] at P
      exact P σ' H' Hv' R' (.refl _)
end
section
variable {X : Cx} {B : Bd} {W : WX} {rf : Bool} {st : Stmt} {ss : List Stmt} {g : Sv} {js : List Bool} {fr : Fr} {σ : L2.St} {H Hv : Hp}
theorem i_iKH {tg it : Expr} {h : Iv} (hio : ∀ p ∈ B.io, js[p.1]? ≠ some true) (hi : L2H.PIH X tg it (dTI B W h)) : L2H.PIH X tg it (dTI B W (iK js h)) := by
  refine pih_imp hi fun σ H R q => ?_
  obtain ⟨fr, Hv, Rl, q⟩ := q
  refine ⟨fr, Hv, Rl, ?_⟩
  unfold iK at q
  cases hg : h fr with
  | bad => rw [hg] at q; exact q.elim
  | exc c fs fr1 => rw [hg] at q; exact q
  | ok ds fr1 =>
    rw [hg] at q
    exact fun J H1 Hv1 n w => q J H1 Hv1 (n.kill hio) w
end
/-- the handled exception, pinned -/
def PinH (X : Cx) (p : Addr × Obj) : Prop := p ∈ X.pn ∧ L2H.Hot1 X.A p
theorem PinH.hc {X : Cx} {p : Addr × Obj} (h : PinH X p) : L2H.HotC X := ⟨p, h.2, h.1⟩
theorem HotX.ph {X : Cx} {B : Bd} {n c : Nat} {fs : List D} {a dd : Addr} {oe : Obj} (h : HotX X B n c fs a dd oe) : PinH X (a, oe) := ⟨h.pin, h.hot⟩
section
variable {G : SE} {ms : List Bool} {M : List Nat} {rf : Bool} {g : Sv} {x qual : Str} {st : Stmt} {f : Addr} {fd : FuncData} {N ps : List Str} {k : Nat}
/-- a plain def, there -/
theorem fnph_of (F : Fun G.K x qual st f fd) (S : FnScope N ps (defScope st)) (hlen : ms.length = ps.length) (hM : ∀ i, i < ms.length → (i ∈ M ↔ ms[i]? = some true)) (hret : rf = false ∨ ∀ ds fr, g (startF N.length ds) ≠ .ok .nx fr)
    (hbody : ∀ (cdv : Value) (A : Around) (outer : List Env) (s : Shared) (H : Hp) (E : XK) (io : List (Nat × Addr)) (Hv : Hp) (p : Addr × Obj), (∀ p ∈ io, ms[p.1]? = some true) → A.guards = some [] → L2H.RoomH k (A.deeper (PyProof.Rows.envOfC qual (defScope st) s.heap.objs.size f cdv)) →
      PinH (L2H.cxH (L2N.CX G.P G.w) G.P G.w G.K G.mg G.base N qual (defScope st) f cdv A outer s H E p) p →
      DSs (L2H.cxH (L2N.CX G.P G.w) G.P G.w G.K G.mg G.base N qual (defScope st) f cdv A outer s H E p) ⟨G, M, io, H, Hv, none⟩ (fun cls d _ H => E cls d H) rf (defBody st) g) :
    FnP G.P G.w G.K G.mg G.base (L2N.CX G.P G.w) (k + 1) f fd ps (fun _ => spOf G ms rf (runFn ms.length N.length g)) := by
  have hNl : ms.length ≤ N.length := by
    have := congrArg List.length S.pre
    rw [List.length_take] at this
    omega
  refine fn_ofP F S (fun _ vs H Q E h => ?_) (fun cdv A outer s H vs Q E p hgd hot hr h => ?_)
  · obtain ⟨ds, Hv, S', _⟩ := h
    rw [S'.lenv, hlen]
  · obtain ⟨ds, Hv, S', h⟩ := h
    refine ⟨_, hbody cdv A outer s H E (ioOf ms vs) Hv p (fun p hp => ((mem_ioOf (a := p.2)).mp hp).1) hgd hr ⟨List.mem_singleton.mpr rfl, hot.1, hot.2⟩, startF N.length ds, Hv, rel_start S' hNl hM, ?_⟩
    unfold runFn at h
    cases hg : g (startF N.length ds) with
    | bad => rw [hg] at h; exact h.elim
    | exc c fs fr =>
      rw [hg] at h
      exact fun dd σ' H' Hv' R _ ex => h dd H' Hv' (fin_of S'.lenv R.fin) ex
    | ok fl fr =>
      rw [hg] at h
      cases fl with
      | nx =>
        rcases hret with hrf | hrf
        · subst hrf
          refine fun σ' H' Hv' R _ => h .non H' Hv' (fin_of S'.lenv R.fin) ?_
          show if false = true then _ else Rep G Hv' .non .non
          rw [if_neg Bool.false_ne_true]
          exact repN
        · exact absurd hg (hrf ds fr)
      | brk => exact h.elim
      | cnt => exact h.elim
      | ret d => exact fun v H' Hv' f' ret => h v H' Hv' (fin_of S'.lenv f') ret
theorem fnp_bad {sp : Addr × Obj → Sp} {k : Nat} {f : Addr} {fd : FuncData} {ps : List Str} {ms : List Bool} {rf : Bool} : FnP G.P G.w G.K G.mg G.base (L2N.CX G.P G.w) k f fd ps (fun _ => spOf G ms rf fun _ => .bad) :=
  ⟨fun _ vs H Q E h => by
    obtain ⟨ds, Hv, S', h⟩ := h
    exact h.elim, fun A outer s H args us vs Q E p hr hg hot hp e0 hb r h => by
    obtain ⟨ds, Hv, S', h⟩ := h
    exact h.elim⟩
end
section
variable {X : Cx} {B : Bd} {W : WX} {e : Expr} {es : List Expr} {g : Av} {k : Nat} {f : Addr} {fd : FuncData} {ps : List Str} {ms : List Bool} {F : Fn} {x : Str} {p pos : Pos} {pr : Addr × Obj}
theorem d_callP (hp : PinH X pr) (Fk : FnP X.prog X.w X.K X.mg X.base (L2N.CX X.prog X.w) k f fd ps (fun _ => spOf B.G ms false F)) (hr : L2H.RoomH k X.A) (hgd : X.A.guards = some []) (hm : X.mg x = some (.ref f)) (hk : PySem.W.keepIn X.K (.ref f) = true) (hb : Binds X.K fd ps []) (tk : ∀ σ, PassesAt (L2N.CX X.prog X.w) X σ (WE W σ))
    (ha : DA X B W (e :: es) g) (hg : Gl X x := by rfl) (hdb : (x == ("__debug__" : Str)) = false := by decide) (he : starEach (e :: es) X.env = (false, eval e X.env) :: starEach es X.env := by rfl) (hpl : (backTo pos (starEach es X.env)).any (·.1) = false := by rfl) :
    DE X B W (.Call (.Name x p) (e :: es) [] pos) (eCall ms F g) := by
  refine pe_imp (pe_callP hp.1 hp.2 Fk hr hgd hg hm hk hb tk ha hdb he hpl) fun σ H Q h => ?_
  obtain ⟨fr, Hv, R, h⟩ := h
  exact entCall (P := fun fr H Hv r => PostE B W fr σ H Hv r Q) R (fun c fs fr' h => h) (fun h => h) (fun d fr' h v H1 Hv1 H' Hv' fr1 n m ret => h v H' Hv' (n.trans m) (.of ret)) h
end
def runXA (n : Nat) (g : Nat → List D → Sv) : Nat → List D → List D → Option D := fun c fs ds => match g c fs (startF n (.tup [.var 0] :: ds)) with
  | .ok .nx _ => some .non
  | .ok (.ret d) _ => some d
  | _ => none
def spPA (G : SE) (n m : Nat) (F : Nat → List D → List D → Option D) : Addr × Obj → Sp := fun p vs H Q _ =>
  ∃ (c : Nat) (fs : List D) (dd : Addr) (Hv : Hp) (d : D) (ds : List D) (ws : List V), vs = .ref p.1 :: ws ∧ ds.length = m ∧ RepL G Hv ds ws ∧ c < n ∧ L2N.Zn (.ref (G.ecls c)) (some dd) p.2 ∧ (∃ us, p.2.data = .fields us) ∧ Sub Hv H ∧ (∀ P ∈ G.tabs, TabH H P ∧ Hv P = none) ∧ dd ∉ G.tabs ∧ ExcAt G H Hv c fs dd ∧ F c fs ds = some d ∧
    ∀ v H' Hv', FinC G [false] [] [.ref p.1] H Hv H' Hv' → Rep G Hv' d v → Q v H'
section
variable {G : SE} {M : List Nat} {n m : Nat} {g : Nat → List D → Sv} {x qual : Str} {st : Stmt} {f : Addr} {fd : FuncData} {N ps : List Str} {k : Nat}
theorem fnpa_of (F : Fun G.K x qual st f fd) (S : FnScope N ps (defScope st)) (hps : ps.length = m + 1) (hM : 0 ∈ M) (hMd : ((List.range m).all fun i => decide (i + 1 ∉ M)) = true)
    (hbody : ∀ (cdv : Value) (A : Around) (outer : List Env) (s : Shared) (H : Hp) (E : XK) (Hv : Hp) (c : Nat) (fs : List D) (a dd : Addr) (oe : Obj), A.guards = some [] → L2H.RoomH k (A.deeper (PyProof.Rows.envOfC qual (defScope st) s.heap.objs.size f cdv)) →
      HotX (L2H.cxH (L2N.CX G.P G.w) G.P G.w G.K G.mg G.base N qual (defScope st) f cdv A outer s H E (a, oe)) ⟨G, M, [], H, Hv, some (0, a)⟩ n c fs a dd oe →
      DSs (L2H.cxH (L2N.CX G.P G.w) G.P G.w G.K G.mg G.base N qual (defScope st) f cdv A outer s H E (a, oe)) ⟨G, M, [], H, Hv, some (0, a)⟩ (fun _ _ _ _ => False) false (defBody st) (g c fs)) :
    FnP G.P G.w G.K G.mg G.base (L2N.CX G.P G.w) (k + 1) f fd ps (spPA G n m (runXA N.length g)) := by
  have hM1 : ∀ i, 1 ≤ i → i ≤ m → i ∉ M := fun i h1 h2 => by
    have q := List.all_eq_true.mp hMd (i - 1) (List.mem_range.mpr (by omega))
    have e : i - 1 + 1 = i := by omega
    rw [e] at q
    exact of_decide_eq_true q
  have hNl : m + 1 ≤ N.length := by
    have := congrArg List.length S.pre
    rw [List.length_take] at this
    omega
  refine fn_ofP F S (fun p vs H Q E h => ?_) (fun cdv A outer s H vs Q E p hgd hot hr h => ?_)
  · obtain ⟨c, fs, dd, Hv, d, ds, ws, rfl, h1, h2, _⟩ := h
    rw [List.length_cons, h2.length, h1, hps]
  · obtain ⟨c, fs, dd, Hv, d, ds, ws, rfl, hdl, hrl, hcn, hz, hf, hsub, htab, hnt, hex, hF, h⟩ := h
    obtain ⟨a, oe⟩ := p
    have hwl := hrl.length
    have hx : HotX (L2H.cxH (L2N.CX G.P G.w) G.P G.w G.K G.mg G.base N qual (defScope st) f cdv A outer s H E (a, oe)) ⟨G, M, [], H, Hv, some (0, a)⟩ n c fs a dd oe :=
      ⟨List.mem_singleton.mpr rfl, hz, hf, hcn, hex, fun p hp => absurd hp List.not_mem_nil, hnt, hot.1, hot.2⟩
    have hlen : (startF N.length (D.tup [D.var 0] :: ds)).length = N.length := by
      unfold startF
      simp only [List.length_append, List.length_map, List.length_replicate, List.length_cons]
      omega
    have get : ∀ {i : Nat} {e : D}, (startF N.length (D.tup [D.var 0] :: ds))[i]? = some (some e) → (i = 0 ∧ e = .tup [.var 0]) ∨ ∃ j, i = j + 1 ∧ ds[j]? = some e := fun {i e} q => by
      have q' := (startF_get (ds := D.tup [D.var 0] :: ds) (n := N.length) (by rw [List.length_cons]; omega)).mp q
      cases i with
      | zero => cases q'; exact .inl ⟨rfl, rfl⟩
      | succ i => exact .inr ⟨i, rfl, by simpa using q'⟩
    have s0 : (L2.start N (V.ref a :: ws))[0]? = some (some (V.ref a)) := (start_get (by rw [List.length_cons]; omega)).mpr rfl
    have s1 : ∀ {j : Nat} {v : V}, ws[j]? = some v → (L2.start N (V.ref a :: ws))[j + 1]? = some (some v) := fun {j v} e => (start_get (by rw [List.length_cons]; omega)).mpr (by simpa using e)
    have jle : ∀ {j : Nat} {e : D}, ds[j]? = some e → 1 ≤ j + 1 ∧ j + 1 ≤ m := fun {j e} q => by
      have := (List.getElem?_eq_some_iff.mp q).1
      omega
    have R : Rel ⟨G, M, [], H, Hv, some (0, a)⟩ (startF N.length (D.tup [D.var 0] :: ds)) (L2.start N (V.ref a :: ws)) H Hv := by
      refine ⟨hsub, .refl _, fun b o h => .inl h, fun b o h _ _ => h, ?_, fun i d e hm => ?_, fun i d e hc hm => ?_, fun i d e hm => ?_, fun i j a di dj hi hj hij e1 e2 s1 s2 => ?_, fun p hp => absurd hp List.not_mem_nil, htab⟩
      · rw [hlen]
        unfold L2.start
        simp only [List.length_append, List.length_map, List.length_replicate, List.length_cons]
        omega
      · rcases get e with ⟨rfl, rfl⟩ | ⟨j, rfl, q⟩
        · exact absurd hM hm
        · obtain ⟨v, hv, r⟩ := hrl.get q
          exact ⟨v, s1 hv, r⟩
      · rcases get e with ⟨rfl, rfl⟩ | ⟨j, rfl, q⟩
        · exact ⟨_, _, rfl, s0, .inr ⟨rfl, a, rfl, rfl⟩⟩
        · exact absurd hm (hM1 _ (jle q).1 (jle q).2)
      · rcases get e.1 with ⟨rfl, rfl⟩ | ⟨j, rfl, q⟩
        · cases e.2
        · exact absurd hm (hM1 _ (jle q).1 (jle q).2)
      · rcases get e1.1 with ⟨rfl, rfl⟩ | ⟨j, rfl, q⟩
        · cases e1.2
        · exact absurd hi (hM1 _ (jle q).1 (jle q).2)
    refine ⟨_, hbody cdv A outer s H E Hv c fs a dd oe hgd hr hx, startF N.length (D.tup [D.var 0] :: ds), Hv, R, ?_⟩
    have finC : ∀ {fr' : Fr} {H' Hv' : Hp}, FinB ⟨G, M, [], H, Hv, some (0, a)⟩ fr' H' Hv' → FinC G [false] [] [.ref a] H Hv H' Hv' := fun F => ⟨F.sub, F.ext0, F.new, fun b o h _ nt => F.keep b o h (fun p hp => absurd hp List.not_mem_nil) nt, F.tab, fun i b h1 h2 => by
      cases i with
      | zero => cases h1
      | succ i => cases h1⟩
    unfold runXA at hF
    cases hg : g c fs (startF N.length (D.tup [D.var 0] :: ds)) with
    | bad => rw [hg] at hF; cases hF
    | exc c' fs' fr => rw [hg] at hF; cases hF
    | ok fl fr =>
      rw [hg] at hF
      cases fl with
      | nx =>
        cases hF
        exact fun σ' H' Hv' R _ => h .non H' Hv' (finC R.fin) repN
      | brk => cases hF
      | cnt => cases hF
      | ret d' =>
        cases hF
        exact fun v H' Hv' f' ret => h v H' Hv' (finC f') ret
end
/-- the call f(e, ..), e the handled exception -/
def eCallXA (i : Nat) (F : List D → Option D) (m : Nat) (g : Av) : Ev := fun fr => if exIn i fr = true then ((g fr).bind fun ds fr1 => if ds.length = m ∧ ds.all pers = true ∧ exIn i fr1 = true then (match F ds with
  | some d => if pers d = true then .ok d fr1 else .bad
  | none => .bad) else .bad) else .bad
theorem d_callXA {X : Cx} {B : Bd} {W : WX} {n m c : Nat} {fs : List D} {a dd : Addr} {oe : Obj} {i k : Nat} {f : Addr} {fd : FuncData} {ps : List Str} {F : Nat → List D → List D → Option D} {x z : Str} {es : List Expr} {g : Av} {p q pos : Pos} (h : HotX X B n c fs a dd oe) (hex : B.ex = some (i, a)) (hi : i ∈ B.M)
    (Fk : FnP X.prog X.w X.K X.mg X.base (L2N.CX X.prog X.w) k f fd ps (spPA B.G n m F)) (hr : L2H.RoomH k X.A) (hgd : X.A.guards = some []) (hm : X.mg z = some (.ref f)) (hk : PySem.W.keepIn X.K (.ref f) = true) (hb : Binds X.K fd ps []) (ha : DA X B W es g)
    (hN : X.N[i]? = some x := by rfl) (hv : Vis X.env.scope x := by first | exact Or.inl rfl | exact Or.inr (Or.inl rfl) | exact Or.inr (Or.inr rfl)) (hd : (x == ("__debug__" : Str)) = false := by decide)
    (hcd : (x == ("__classdict__" : Str)) = false := by decide) (hg : Gl X z := by rfl) (hdb : (z == ("__debug__" : Str)) = false := by decide) (he : starEach (.Name x p :: es) X.env = (false, eval (.Name x p) X.env) :: starEach es X.env := by rfl) (hpl : (backTo pos (starEach es X.env)).any (·.1) = false := by rfl) :
    DE X B W (.Call (.Name z q) (.Name x p :: es) [] pos) (eCallXA i (F c fs) m g) := by
  refine pe_imp (pe_callP (E := fun _ _ _ _ => False) h.pin h.hot Fk hr hgd hg hm hk hb (fun σ pins H s e s' I z => by
    obtain ⟨_, _, _, _, _, _, _, _, _, _, _, _, z⟩ := z
    exact z.elim) (pa_cons (pe_var hN hv hd hcd) ha he) hdb he hpl) fun σ H Q hh => ?_
  obtain ⟨fr, Hv, R, hh⟩ := hh
  unfold eCallXA at hh
  split at hh
  · next ci =>
    refine ⟨_, exIn_at R hi hex ci, fr, Hv, R, ?_⟩
    cases hgf : g fr with
    | bad => rw [hgf] at hh; exact hh.elim
    | exc c' fs' fr1 => rw [hgf] at hh; exact hh
    | ok ds fr1 =>
      rw [hgf] at hh
      dsimp only [Res.bind] at hh
      intro vs H1 Hv1 n1 rws
      split at hh
      · next hc =>
        obtain ⟨hl, hp, ci1⟩ := hc
        split at hh
        · next d hd' =>
          split at hh
          · next hp2 =>
            have R1 := n1.rel
            have ex := h.now R1
            refine ⟨c, fs, dd, Hv1, d, ds, vs, by rw [List.append_nil], hl, pers_repL rws hp, h.cn, h.z, h.dat, R1.sub, R1.tab, h.notab, ex, hd', fun v H' Hv' fin r => ?_⟩
            have nx : Nxt B fr1 σ H1 Hv1 fr1 H' Hv' := nxt_call (ms := [false]) (ds := [.int 0]) (vs := [.int 0]) (cs := [.int 0]) (outs := [.int 0]) R1 ⟨_, _, rfl, .of (Rep.int_iff.mpr rfl), rfl⟩ rfl (by decide) rfl
              ⟨fin.sub, fin.ext, fin.new, fun b o h1 h2 h3 => fin.keep b o h1 (fun ⟨j, h4, h5⟩ => by cases j with | zero => cases h4 | succ j => cases h4) h3, fin.tab, fun j b h4 _ => by cases j with | zero => cases h4 | succ j => cases h4⟩
            exact hh v H' Hv' (n1.trans nx) (.of r)
          · exact hh.elim
        · exact hh.elim
      · exact hh.elim
  · exact hh.elim
end KS
namespace KS
open PySem PySem.Spec PyProof.Rows L2
def flatD : D → Option V
  | .non => some .non
  | .bl b => some (.bl b)
  | .int i => some (.int i)
  | .str x => some (.str x)
  | _ => none
theorem flatD_rep {G : SE} {H : Hp} {d : D} {v w : V} (h : flatD d = some w) (r : Rep G H d v) : v = w ∧ flatV w = true := by
  cases d <;> simp only [flatD, Option.some.injEq] at h <;> first | (subst h; simp only [Rep] at r; exact ⟨r, rfl⟩) | cases h
theorem flatD_reps {G : SE} {H : Hp} : ∀ {ds : List D} {vs ws : List V}, ds.mapM flatD = some ws → RepL G H ds vs → vs = ws ∧ ws.all flatV = true
  | [], vs, ws, h, r => by
    cases h
    exact ⟨r.nil_inv, rfl⟩
  | d :: ds, vs, ws, h, r => by
    obtain ⟨v, t, rfl, h1, h2⟩ := r.cons_inv
    rw [List.mapM_cons] at h
    cases e1 : flatD d with
    | none => rw [e1] at h; cases h
    | some w =>
      cases e2 : ds.mapM flatD with
      | none => rw [e1, e2] at h; cases h
      | some wt =>
        rw [e1, e2] at h
        cases h
        obtain ⟨a1, a2⟩ := flatD_rep e1 h1
        obtain ⟨b1, b2⟩ := flatD_reps e2 h2
        refine ⟨by rw [a1, b1], ?_⟩
        rw [List.all_cons, a2, b2]; rfl
def cntF : D → D → Option D
  | .lst ds, d => match ds.mapM flatD, flatD d with
    | some ws, some w => some (.int ((ws.countP fun y => eqV y w : Nat) : Int))
    | _, _ => none
  | _, _ => none
def fidx (ws : List V) (w : V) : Option Nat := ws.findIdx? fun y => eqV y w
def idxF : D → D → Option D
  | .lst ds, d => match ds.mapM flatD, flatD d with
    | some ws, some w => (fidx ws w).map fun j => .int (j : Nat)
    | _, _ => none
  | _, _ => none
def rCntF (K : PySem.W.Frag) : V → List V → Hp → VK → Prop := fun x xs H Q => ∃ (a : Addr) (ys : List V) (y : V), x = V.ref a ∧ xs = [y] ∧ SqL K H a ys ∧ flatV y = true ∧ ys.all flatV = true ∧ Q (.int ((ys.countP fun z => eqV z y : Nat) : Int)) H
theorem countP_eqU {y : V} : ∀ {ys : List V} {us : List Value}, Vals ys us → ys.all flatV = true → us.countP (eqU y) = ys.countP fun z => eqV z y
  | _, _, .nil, _ => rfl
  | z :: ys, u :: us, .cons r t, f => by
    rw [List.all_cons, Bool.and_eq_true] at f
    have ih := countP_eqU (y := y) t f.2
    rw [List.countP_cons, List.countP_cons, ih, eqU_of r f.1]
theorem mt_lcountF {X : Cx} : MtR X "list.count" (rCntF X.K) := by
  intro pins s σ H x xs v us Q I rx rxs h
  obtain ⟨p, ys, y, rfl, rfl, hs, fy, fys, q⟩ := h
  cases rx
  obtain ⟨u, rfl, ru⟩ := rxs.one
  obtain ⟨its, rv, ⟨⟨cls, dd, data, sl⟩, n, ho, hc, hdn, hd⟩, hlen⟩ := I.list hs
  simp only at hc hd
  subst hc hd
  refine call_meets PySem.F.slot_list_count ⟨_, ho, rfl⟩ PySem.F.entry_list_count (PySem.F.args_list_count_2 _ _)
    (SeqAt.list_countAt p its.toArray n dd sl u (eqU y)) ⟨ho, fun w hw => mem_eqAt ru fy rv fys w (by simpa using hw), ?_⟩
  have ec : its.toArray.toList.countP (eqU y) = ys.countP fun z => eqV z y := countP_eqU rv fys
  refine ⟨.int ((ys.countP fun z => eqV z y : Nat) : Int), H, I.tok _, ⟨s.toks, ?_⟩, q⟩
  show Value.int ((its.toArray.toList.countP (eqU y) : Nat) : Int) s.toks = Value.int ((ys.countP fun z => eqV z y : Nat) : Int) s.toks
  rw [ec]
theorem fidx_some {ws : List V} {w : V} {j : Nat} (h : fidx ws w = some j) : ∃ z, ws[j]? = some z ∧ eqV z w = true ∧ ∀ (m : Nat) (z' : V), m < j → ws[m]? = some z' → eqV z' w = false := by
  unfold fidx at h
  obtain ⟨hl, h1, h2⟩ := List.findIdx?_eq_some_iff_getElem.mp h
  refine ⟨ws[j], List.getElem?_eq_getElem hl, h1, fun m z' hm hz' => ?_⟩
  obtain ⟨hml, e⟩ := List.getElem?_eq_some_iff.mp hz'
  rw [← e]
  simpa using h2 m hm
/-- a method of a list or tuple that only looks, one argument -/
def eLM (ty : D → Bool) (F : D → D → Option D) (f g : Ev) : Ev := fun fr => (f fr).bind fun x fr1 => match look fr1 x with
  | some a => if ty a = true then (g fr1).bind fun y fr2 => (match look fr2 x, look fr2 y with
    | some a, some b => ofO (F a b) fr2
    | _, _ => .bad) else .bad
  | none => .bad
section
variable {X : Cx} {B : Bd} {W : WX} {o e : Expr} {f g : Ev} {pos apos : Pos}
theorem entLM {r : V → List V → Hp → VK → Prop} {T : String} {ty : D → Bool} {F : D → D → Option D} {σ : L2.St} {H : Hp} {Q : VK} (hT : ∀ {fr : Fr} {H Hv : Hp} {d a : D} {v : V}, Rel B fr σ H Hv → RepW B σ Hv d v → look fr d = some a → ty a = true → tyV X.K T v H)
    (hr : OpS B (fun x y => r x [y]) F) (h : dTE B W (eLM ty F f g) σ H Q) : tBM X.K T r (dTE B W f) (fun σ H K => dTE B W g σ H fun y H' => K [y] H') σ H Q := by
  obtain ⟨fr, Hv, R, h⟩ := h
  refine ⟨fr, Hv, R, ?_⟩
  unfold eLM at h
  cases hf : f fr with
  | bad => rw [hf] at h; exact h.elim
  | exc c fs fr1 => rw [hf] at h; exact h
  | ok x fr1 =>
    rw [hf] at h
    dsimp only [Res.bind] at h
    intro vx H1 Hv1 n1 r1
    split at h
    next a hl =>
      split at h
      next ht =>
        refine ⟨hT n1.rel r1 hl ht, fr1, Hv1, n1.rel, ?_⟩
        cases hg : g fr1 with
        | bad => rw [hg] at h; exact h.elim
        | exc c fs fr2 =>
          rw [hg] at h
          exact fun dd H' Hv' n => h dd H' Hv' (n1.trans n)
        | ok y fr2 =>
          rw [hg] at h
          dsimp only at h
          intro vy H2 Hv2 n2 r2
          cases hx : look fr2 x with
          | none => rw [hx] at h; exact h.elim
          | some a =>
            cases hy : look fr2 y with
            | none => rw [hx, hy] at h; exact h.elim
            | some b =>
              rw [hx, hy] at h
              dsimp only at h
              cases hz : F a b with
              | none => rw [hz] at h; exact h.elim
              | some z =>
                rw [hz] at h
                exact hr fr2 σ H2 Hv2 vx vy x y a b z Q n2.rel (r1.mono n2.ext) r2 hx hy hz fun v H' Hv' n3 r3 => h v H' Hv' ((n1.trans n2).trans n3) (.of r3)
      next => exact h.elim
    next => exact h.elim
theorem ops_cnt (hK : X.K = B.G.K) : OpS B (fun x y => rCntF X.K x [y]) cntF := by
  intro fr σ H Hv x y dx dy a b z Q R rx ry hx hy hz k
  unfold cntF at hz
  split at hz
  · split at hz
    · next ws w h1 h2 =>
      cases hz
      obtain ⟨p, vs, rfl, e, r⟩ := R.list_of rx hx
      obtain ⟨a1, a2⟩ := flatD_reps h1 r
      have ry' : Rep B.G Hv b y := look_scalar R ry hy (by cases b <;> first | rfl | cases h2)
      obtain ⟨b1, b2⟩ := flatD_rep h2 ry'
      subst a1 b1
      exact ⟨p, vs, y, rfl, rfl, .of e, b2, a2, k _ H Hv (.refl R) repI⟩
    · cases hz
  · cases hz
theorem ops_idx (hK : X.K = B.G.K) : OpS B (fun x y => rIndex X.K x [y]) idxF := by
  intro fr σ H Hv x y dx dy a b z Q R rx ry hx hy hz k
  unfold idxF at hz
  split at hz
  · split at hz
    · next ws w h1 h2 =>
      cases hj : fidx ws w with
      | none => rw [hj] at hz; cases hz
      | some j =>
        rw [hj] at hz
        cases hz
        obtain ⟨p, vs, rfl, e, r⟩ := R.list_of rx hx
        obtain ⟨a1, a2⟩ := flatD_reps h1 r
        have ry' : Rep B.G Hv b y := look_scalar R ry hy (by cases b <;> first | rfl | cases h2)
        obtain ⟨b1, b2⟩ := flatD_rep h2 ry'
        subst a1 b1
        obtain ⟨z', z1, z2, z3⟩ := fidx_some hj
        exact ⟨p, vs, y, j, z', rfl, rfl, .of e, b2, a2, z1, z2, z3, k _ H Hv (.refl R) repI⟩
    · cases hz
  · cases hz
theorem ty_lst {σ : L2.St} {fr : Fr} {H Hv : Hp} {d a : D} {v : V} (R : Rel B fr σ H Hv) (r : RepW B σ Hv d v) (h : look fr d = some a) (t : isLstD a = true) : tyV X.K "list" v H := by
  cases a <;> first | cases t | skip
  obtain ⟨p, vs, rfl, e, _⟩ := R.list_of r h
  exact .inl ⟨rfl, vs, .of e⟩
theorem d_count (ho : DE X B W o f) (he : DE X B W e g) (hK : X.K = B.G.K := by rfl) (hs : starEach [e] X.env = (false, eval e X.env) :: starEach [] X.env := by rfl) (hbase : attributeBase o "count" X.env (eval o X.env) = eval o X.env := by rfl)
    (hfew : ((backTo pos (starEach [e] X.env)).all (fun x => !x.1) && (backToKw pos (keywordEach [] X.env)).all (fun x => x.1.isSome)
      && decide ([e].length + ([] : List Keyword).length + (if ([] : List Keyword).isEmpty then 0 else 1) < 30)) = true := by rfl)
    (hline : (apos.endLine == pos.line) = true := by rfl) (hpl : (backTo pos (starEach [] X.env)).any (·.1) = false := by rfl) :
    DE X B W (.Call (.Attribute o "count" apos) [e] [] pos) (eLM isLstD cntF f g) :=
  pe_imp (pe_bm PySem.F.plainAttrs_list PySem.F.slot_list_count PySem.F.type_list_count mt_lcountF ho (pa_cons he pa_nil hs) hbase hfew hline hs hpl) fun σ H Q h => entLM (fun R r l t => ty_lst R r l t) (ops_cnt hK) h
theorem d_index (ho : DE X B W o f) (he : DE X B W e g) (hK : X.K = B.G.K := by rfl) (hs : starEach [e] X.env = (false, eval e X.env) :: starEach [] X.env := by rfl) (hbase : attributeBase o "index" X.env (eval o X.env) = eval o X.env := by rfl)
    (hfew : ((backTo pos (starEach [e] X.env)).all (fun x => !x.1) && (backToKw pos (keywordEach [] X.env)).all (fun x => x.1.isSome)
      && decide ([e].length + ([] : List Keyword).length + (if ([] : List Keyword).isEmpty then 0 else 1) < 30)) = true := by rfl)
    (hline : (apos.endLine == pos.line) = true := by rfl) (hpl : (backTo pos (starEach [] X.env)).any (·.1) = false := by rfl) :
    DE X B W (.Call (.Attribute o "index" apos) [e] [] pos) (eLM isLstD idxF f g) :=
  pe_imp (pe_bm PySem.F.plainAttrs_list PySem.F.slot_list_index PySem.F.type_list_index mt_index ho (pa_cons he pa_nil hs) hbase hfew hline hs hpl) fun σ H Q h => entLM (fun R r l t => ty_lst R r l t) (ops_idx hK) h
end
end KS
namespace KS
open PySem PySem.Spec L2
end KS
namespace KS
open PySem PySem.Spec PyProof.Rows L2
end KS
namespace KS
open PySem PySem.Spec L2
end KS
namespace KS
open PySem PySem.Spec L2 PyProof.Rows
end KS
namespace KS
open PySem PySem.Spec L2 PyProof.Rows
end KS
namespace KS
open PySem PySem.Spec L2 PyProof.Rows
end KS
namespace KS
open PySem PySem.Spec L2 PyProof.Rows
end KS
namespace KS
open PySem PySem.Spec L2 PyProof.Rows
end KS
namespace KS
open PySem PySem.Spec L2 PyProof.Rows
def isBF : D → D → Option D
  | .bl a, .bl b => some (.bl (decide (a = b)))
  | _, _ => none
section
variable {X : Cx} {B : Bd} {W : WX} {a b : Expr} {f g : Ev} {pos : Pos}
theorem op_isB : OpR X (compareOp .Is) (fun x y H Q => ∃ i j, x = .bl i ∧ y = .bl j ∧ Q (.bl (decide (i = j))) H) := by
  intro pins s σ H x y v u Q I rx ry h
  obtain ⟨i, j, rfl, rfl, q⟩ := h
  cases rx
  cases ry
  refine wpAny_is_plain rfl (fin_bl I q ?_)
  cases i <;> cases j <;> rfl
theorem ops_isB : OpS B (fun x y H Q => ∃ i j, x = .bl i ∧ y = .bl j ∧ Q (.bl (decide (i = j))) H) isBF := by
  intro fr σ H Hv x y dx dy a b z Q R rx ry hx hy hz k
  unfold isBF at hz
  split at hz
  · cases hz
    exact ⟨_, _, R.bl_of rx hx, R.bl_of ry hy, k _ H Hv (.refl R) repB⟩
  · cases hz
end
end KS
namespace KS
open PySem PySem.Spec L2 PyProof.Rows
end KS
namespace KS
open PySem PySem.Spec L2 PyProof.Rows
end KS
namespace KS
open PySem PySem.Spec L2 PyProof.Rows
end KS
namespace KS
open PySem PySem.Spec L2
end KS
namespace KS
open PySem PySem.Spec L2
def rgLF : D → Option D
  | .int j => if okI j = true ∧ j.toNat ≤ 16777216 then some (.lst (rangeD 0 j.toNat)) else none
  | _ => none
def rgTF : D → Option D
  | .int j => if okI j = true ∧ j.toNat ≤ 16777216 then some (.tup (rangeD 0 j.toNat)) else none
  | _ => none
theorem repL_rg {G : SE} {Hv : Hp} {a : Int} : ∀ l : List Nat, RepL G Hv (l.map fun k => D.int (a + (k : Nat))) (l.map fun k => V.int (a + (k : Nat)))
  | [] => .nil
  | k :: l => .cons repI (repL_rg l)
section
variable {X : Cx} {B : Bd} {W : WX} {a : Expr} {f : Ev} {p p2 q pos : Pos}
theorem d_listRg (ha : DE X B W a f) (hm : X.mg "list" = none) (hm2 : X.mg "range" = none) (hc : X.calm = true := by rfl) (hg : Gl X "list" := by rfl) (hg2 : Gl X "range" := by rfl)
    (he : starEach [a] X.env = (false, eval a X.env) :: starEach [] X.env := by rfl) (he2 : starEach [.Call (.Name "range" p2) [a] [] q] X.env = (false, eval (.Call (.Name "range" p2) [a] [] q) X.env) :: starEach [] X.env := by rfl) :
    DF X B W (.Call (.Name "list" p) [.Call (.Name "range" p2) [a] [] q] [] pos) (eOp1 rgLF f) := by
  refine pe_imp (pe_listRg hc hg hm (prg_1 hg2 hm2 ha he) he2) fun σ H Q h => ?_
  obtain ⟨fr, Hv, R, h⟩ := h
  refine ⟨fr, Hv, R, ?_⟩
  unfold eOp1 at h
  cases hf : f fr with
  | bad => rw [hf] at h; exact h.elim
  | exc c fs fr1 => rw [hf] at h; exact h
  | ok x fr1 =>
    rw [hf] at h
    dsimp only [Res.bind] at h
    intro vx H1 Hv1 n1 r1
    cases hx : look fr1 x with
    | none => rw [hx] at h; exact h.elim
    | some d =>
      rw [hx] at h
      dsimp only at h
      unfold rgLF at h
      split at h
      · next j =>
        split at h
        · next hk =>
          obtain ⟨c1, c2⟩ := okI_spec hk.1
          have hk2 := hk.2
          rw [n1.rel.int_of r1 hx]
          refine ⟨j, rfl, ⟨by omega, by omega, by omega, by omega, by omega⟩, fun t ht => ?_⟩
          refine lay_own (ds := rangeD 0 j.toNat) n1.rel ht ?_ fun p H' Hv' n hp q => h p H' Hv' (n1.trans n) (n1.none R hp) q
          unfold rgV rangeD
          rw [Int.sub_zero]
          exact repL_rg _
        · exact h.elim
      · exact h.elim
theorem d_tupRg (ha : DE X B W a f) (hm : X.mg "tuple" = none) (hm2 : X.mg "range" = none) (hc : X.calm = true := by rfl) (hg : Gl X "tuple" := by rfl) (hg2 : Gl X "range" := by rfl)
    (he : starEach [a] X.env = (false, eval a X.env) :: starEach [] X.env := by rfl) (he2 : starEach [.Call (.Name "range" p2) [a] [] q] X.env = (false, eval (.Call (.Name "range" p2) [a] [] q) X.env) :: starEach [] X.env := by rfl) :
    DE X B W (.Call (.Name "tuple" p) [.Call (.Name "range" p2) [a] [] q] [] pos) (eOp1 rgTF f) := by
  refine pe_imp (pe_tupRg hc hg hm (prg_1 hg2 hm2 ha he) he2) fun σ H Q h => ?_
  obtain ⟨fr, Hv, R, h⟩ := h
  refine ⟨fr, Hv, R, ?_⟩
  unfold eOp1 at h
  cases hf : f fr with
  | bad => rw [hf] at h; exact h.elim
  | exc c fs fr1 => rw [hf] at h; exact h
  | ok x fr1 =>
    rw [hf] at h
    dsimp only [Res.bind] at h
    intro vx H1 Hv1 n1 r1
    cases hx : look fr1 x with
    | none => rw [hx] at h; exact h.elim
    | some d =>
      rw [hx] at h
      dsimp only at h
      unfold rgTF at h
      split at h
      · next j =>
        split at h
        · next hk =>
          obtain ⟨c1, c2⟩ := okI_spec hk.1
          have hk2 := hk.2
          rw [n1.rel.int_of r1 hx]
          refine ⟨j, rfl, ⟨by omega, by omega, by omega, by omega, by omega⟩, fun t ht => ?_⟩
          refine lay_tup (ds := rangeD 0 j.toNat) n1.rel ht ?_ fun v H' Hv' n q => h v H' Hv' (n1.trans n) (.of q)
          unfold rgV rangeD
          rw [Int.sub_zero]
          exact repL_rg _
        · exact h.elim
      · exact h.elim
end
end KS
namespace KS
open PySem PySem.Spec L2 PyProof.Rows
/-- each once -/
def dd : List Int → List Int
  | [] => []
  | x :: l => if x ∈ l then dd l else x :: dd l
theorem mem_dd : ∀ {l : List Int} {x : Int}, x ∈ dd l ↔ x ∈ l
  | [], x => .rfl
  | y :: l, x => by
    unfold dd
    split
    · next h => rw [mem_dd, List.mem_cons]; exact ⟨.inr, fun q => q.elim (fun e => e ▸ h) id⟩
    · rw [List.mem_cons, List.mem_cons, mem_dd]
theorem dd_nodup : ∀ l : List Int, (dd l).Nodup
  | [] => .nil
  | y :: l => by
    unfold dd
    split
    · exact dd_nodup l
    · next h => exact List.nodup_cons.2 ⟨fun q => h (mem_dd.1 q), dd_nodup l⟩
theorem nodup_le1 {α : Type} [DecidableEq α] : ∀ {l l' : List α}, l.Nodup → (∀ x ∈ l, x ∈ l') → l.length ≤ l'.length
  | [], _, _, _ => Nat.zero_le _
  | a :: t, l', nd, h => by
    have ha := h a (.head _)
    have hn := List.nodup_cons.1 nd
    have := nodup_le1 (l := t) (l' := l'.erase a) hn.2 fun x hx => (List.mem_erase_of_ne (by rintro rfl; exact hn.1 hx)).2 (h x (.tail _ hx))
    rw [List.length_erase_of_mem ha] at this
    have : 0 < l'.length := List.length_pos_of_mem ha
    simp only [List.length_cons]; omega
theorem dd_len {l m : List Int} (nd : m.Nodup) (h : ∀ x, x ∈ m ↔ x ∈ l) : m.length = (dd l).length :=
  Nat.le_antisymm (nodup_le1 nd fun x hx => mem_dd.2 ((h x).1 hx)) (nodup_le1 (dd_nodup l) fun x hx => (h x).2 (mem_dd.1 hx))
theorem dd_le (l : List Int) : (dd l).length ≤ l.length := nodup_le1 (dd_nodup l) fun _ h => mem_dd.1 h
theorem fm_nodup (val : Nat → Int) : ∀ i, (firstMet val i).Nodup
  | 0 => .nil
  | i + 1 => by
    rw [firstMet_succ]
    unfold step_dedup
    split
    · exact fm_nodup val i
    · next h =>
      refine List.nodup_append.2 ⟨fm_nodup val i, by simp, fun x hx y hy => ?_⟩
      rw [List.mem_singleton.1 hy]
      rintro rfl
      exact h (List.any_eq_true.2 ⟨_, hx, by simp⟩)
theorem fm_mem (ns : List Int) (x : Int) : x ∈ firstMet (fun i => ns.getD i 0) ns.length ↔ x ∈ ns := by
  have e := firstMet_any (fun i => ns.getD i 0) ns.length x
  have e2 : (List.range ns.length).map (fun i => ns.getD i 0) = ns := by
    refine List.ext_getElem (by simp) fun i h1 h2 => by simp [List.getD, h2]
  rw [e2] at e
  have h3 : ∀ l : List Int, (l.any (· == x)) = true ↔ x ∈ l := fun l => by
    rw [List.any_eq_true]; simp
  rw [← h3, ← h3, e]
def rLenSet (K : PySem.W.Frag) (x : V) (H : Hp) (Q : VK) : Prop := ∃ (l : Addr) (ns : List Int), x = .ref l ∧ (SqL K H l (ns.map V.int) ∨ SqT K H l (ns.map V.int)) ∧ ns.length ≤ 1000 ∧ Q (.int ((dd ns).length : Nat)) H
def tLenSet (K : PySem.W.Frag) (ta : TE) : TE := fun σ H Q => ta σ H fun x H1 => rLenSet K x H1 Q
theorem ints_vals : ∀ {ns : List Int} {us : List Value}, Vals (ns.map V.int) us → IntsAre us ns
  | [], _, .nil => .nil
  | n :: ns, _, .cons r t => by
    obtain ⟨k, rfl⟩ := r
    exact .cons n k (ints_vals t)
theorem pe_lenSet {X : Cx} {a : Expr} {ta : TE} {p p2 q pos : Pos} (hc : X.calm = true) (hg : Gl X "len") (hm : X.mg "len" = none) (hg2 : Gl X "set") (hm2 : X.mg "set" = none) (ha : PE X a ta)
    (na : starEach [a] X.env = (false, eval a X.env) :: starEach [] X.env := by rfl) : PE X (.Call (.Name "len" p) [.Call (.Name "set" p2) [a] [] q] [] pos) (tLenSet X.K ta) := by
  refine ⟨fun pins s σ H Q I h => ?_⟩
  refine Call_ (ld_blt I hg hm PySem.boot_len ?_)
  refine callWith_builtin1 (args_cons ?_ rfl) rfl rfl
  refine Call_ (ld_blt I hg2 hm2 boot_set ?_)
  refine callWith_type1 (args_cons (thn (ha.run pins s σ H _ I h) fun v s1 ⟨x, H1, I1, r1, q1⟩ => args_nil ?_) na) na rfl
  obtain ⟨l, ns, rfl, hq, hl, q1⟩ := q1
  cases r1
  rcases hq with hq | hq
  · obtain ⟨its, r, pl, hz⟩ := I1.list hq
    have hlen : its.toArray.size = ns.length := by rw [List.size_toArray, ← r.length, List.length_map]
    refine call_set_list (I1.ok.hd hc) pl.isList (ns := ns) (by simpa using ints_vals r) (by rw [hlen]; unfold scanBound; omega) fun h' tk hS hk => ?_
    refine args_nil ?_
    rw [hlen] at hS
    have hd0 : (firstMet (fun i => ns.getD i 0) ns.length).length = (dd ns).length := dd_len (fm_nodup _ _) (fm_mem ns)
    have dl := dd_le ns
    obtain ⟨o, es, ep, t, ho, hex, hd, _, _, _, hf, hn⟩ := hS
    have I2 : Inv X pins σ H1 { s1 with heap := h', toks := tk } := I1.kept fun b o e => hk b o (Heap.lt_size e) e
    exact call_len_set ho hex hd hf (by rw [hn] <;> omega) ⟨.int (dd ns).length, H1, I2.tok _, ⟨_, by rw [hn, hd0]⟩, q1⟩
  · obtain ⟨its, r, pt, hz⟩ := I1.tuple hq
    have hi : IntsAre its.toArray.toList ns := by simpa using ints_vals r
    refine L2.call_set_tupI ns (I1.ok.hd hc) (show s1.heap.IsTuple l its.toArray from pt) hi (by unfold scanBound; omega) fun h' tk c R1 hcn k => ?_
    refine args_nil ?_
    obtain ⟨o, es, ep, t, ho, hex, hdt, g, nd, hm3, hb, hf, hn, hr, hl2⟩ := R1
    have dl := dd_le ns
    have hd0 : c = (dd ns).length := by
      rw [← hn]
      have := dd_len (l := ns) (m := es.toList.map L2.keyOf) nd fun x => by rw [← hm3 x, decide_eq_true_iff]
      simpa using this
    have I2 : Inv X pins σ H1 { s1 with heap := h', toks := tk } := I1.kept k
    exact call_len_set ho hex hdt hf (by rw [hn] <;> omega) ⟨.int (dd ns).length, H1, I2.tok _, ⟨_, by rw [hn, hd0]⟩, q1⟩
def lenSetF : D → Option D
  | .tup ds => match intsOf ds with
    | some ns => if ns.length ≤ 1000 then some (.int ((dd ns).length : Nat)) else none
    | none => none
  | .lst ds => match intsOf ds with
    | some ns => if ns.length ≤ 1000 then some (.int ((dd ns).length : Nat)) else none
    | none => none
  | _ => none
theorem uns_lenSet {B : Bd} {K : PySem.W.Frag} (hK : K = B.G.K) : UnS B (rLenSet K) lenSetF := by
  intro fr σ H Hv x dx a z Q R rx hx hz k
  unfold lenSetF at hz
  split at hz
  · next ds =>
    split at hz
    · next ns e =>
      split at hz
      · next hl =>
        cases hz
        obtain ⟨p, vs, rfl, q, qv, r⟩ := R.tup_of rx hx
        rw [ints_rep r e] at q
        exact ⟨p, ns, rfl, .inr (by rw [hK]; exact q), hl, k _ H Hv (.refl R) repI⟩
      · cases hz
    · cases hz
  · next ds =>
    split at hz
    · next ns e =>
      split at hz
      · next hl =>
        cases hz
        obtain ⟨p, vs, rfl, q, r⟩ := R.list_of rx hx
        rw [ints_rep r e] at q
        exact ⟨p, ns, rfl, .inl (SqL.of q), hl, k _ H Hv (.refl R) repI⟩
      · cases hz
    · cases hz
  · cases hz
theorem d_lenSet {X : Cx} {B : Bd} {W : WX} {a : Expr} {f : Ev} {p p2 q pos : Pos} (ha : DE X B W a f) (hm : X.mg "len" = none) (hm2 : X.mg "set" = none) (hK : X.K = B.G.K := by rfl) (hc : X.calm = true := by rfl) (hg : Gl X "len" := by rfl) (hg2 : Gl X "set" := by rfl)
    (he : starEach [a] X.env = (false, eval a X.env) :: starEach [] X.env := by rfl) : DE X B W (.Call (.Name "len" p) [.Call (.Name "set" p2) [a] [] q] [] pos) (eOp1 lenSetF f) :=
  pe_imp (pe_lenSet hc hg hm hg2 hm2 ha he) fun _ _ _ h => ent1 (uns_lenSet hK) h
end KS
namespace KS
open PySem PySem.Spec L2 PyProof.Rows
section
variable {prog : Program} {w : World} {A : Around} {E : Value → Shared → Prop} {s : Shared}
theorem adjust_rev (n : Nat) : Builtin.Slice.sliceAdjust none none (-1) (n : Int) = ((n : Int) - 1, -1) := by
  unfold Builtin.Slice.sliceAdjust
  simp
theorem places_rev (n : Nat) : Builtin.Slice.slicePlaces ((n : Int) - 1) (-1) (-1) = n := by
  unfold Builtin.Slice.slicePlaces
  have h1 : ¬ (-1 : Int) > 0 := by omega
  simp only [h1, if_false]
  split
  · rw [show (-(-1) : Int) = 1 by decide, Int.ediv_one]; omega
  · omega
theorem sliceApplied_rev {sl : Addr} {vl vu vs : Value} {n : Nat} {Q : Int × Int × Nat → Shared → Prop} (hs : s.heap.IsSliceOf sl vl vu vs) (pl : IsPart vl none) (pu : IsPart vu none) (ps : IsPart vs (some (-1)))
    (h : Q ((n : Int) - 1, -1, n) s) : wpAny (model prog w) A (Builtin.Slice.sliceApplied (.ref sl) (pure (n : Int))) Q E s := by
  obtain ⟨os, hos, hcs, hds⟩ := id hs
  unfold Builtin.Slice.sliceApplied Builtin.Slice.sliceFields
  refine wpAny_bind (wpAny_bind (wpAny_field hos hds (x := vl) rfl (wpAny_bind (wpAny_field hos hds (x := vu) rfl (wpAny_bind (wpAny_field hos hds (x := vs) rfl (wpAny_pure ?_)))))))
  refine wpAny_bind (HT.slicePart_ ps ?_)
  show wpAny _ _ (if ((-1 : Int) == 0) = true then _ else _) _ _ s
  rw [if_neg (by decide)]
  refine wpAny_bind (HT.slicePart_ pl (wpAny_bind (HT.slicePart_ pu (wpAny_bind (wpAny_pure ?_)))))
  show wpAny _ _ (match Builtin.Slice.sliceAdjust none none (-1) (n : Int) with | (lo, hi) => pure (lo, (-1 : Int), Builtin.Slice.slicePlaces lo hi (-1))) _ _ s
  rw [adjust_rev]
  show wpAny _ _ (pure ((n : Int) - 1, (-1 : Int), Builtin.Slice.slicePlaces ((n : Int) - 1) (-1) (-1))) _ _ s
  rw [places_rev]
  exact wpAny_pure h
theorem pick_rev (xs : Array Value) : ((List.range xs.size).filterMap fun (m : Nat) => xs[(((xs.size : Int) - 1) + (m : Int) * (-1)).toNat]?).toArray = xs.toList.reverse.toArray := by
  have e : ((List.range xs.size).filterMap fun (m : Nat) => xs[(((xs.size : Int) - 1) + (m : Int) * (-1)).toNat]?) = ((List.range xs.size).map fun k => xs.size - 1 - k).filterMap (xs[·]?) := by
    rw [List.filterMap_map]
    have : ∀ l : List Nat, (∀ m ∈ l, m < xs.size) → l.filterMap (fun (m : Nat) => xs[(((xs.size : Int) - 1) + (m : Int) * (-1)).toNat]?) = l.filterMap ((fun x => xs[x]?) ∘ fun k => xs.size - 1 - k) := by
      intro l
      induction l with
      | nil => intro _; rfl
      | cons m l ih =>
        intro h
        have hm := h m (.head _)
        rw [List.filterMap_cons, List.filterMap_cons, ih fun x hx => h x (.tail _ hx)]
        have : (((xs.size : Int) - 1) + (m : Int) * (-1)).toNat = xs.size - 1 - m := by omega
        rw [this]; rfl
    exact this _ fun m hm => List.mem_range.1 hm
  rw [e, PySem.W.krv_range, List.filterMap_reverse, PySem.W.krv_all]
theorem getItem_tuple_rev {t sl : Addr} {items : Array Value} {vl vu vs : Value} {Q : Value → Shared → Prop} (ht : IsTup s.heap t items) (hs : s.heap.IsSliceOf sl vl vu vs) (pl : IsPart vl none) (pu : IsPart vu none) (ps : IsPart vs (some (-1)))
    (h : Q (.ref s.heap.objs.size) { s with heap := s.heap.push { cls := .type "tuple", data := .seq items.toList.reverse.toArray } })
    (hsz : items.size ≤ sizeLine) : wpAny (model prog w) A (getItem (.ref t) (.ref sl)) Q E s := by
  have htake : sizeOk (.seq items.toList.reverse.toArray) := by
    show items.toList.reverse.toArray.size ≤ sizeLine
    rw [List.size_toArray, List.length_reverse, Array.length_toList]
    exact hsz
  obtain ⟨os, hos, hcs, hds⟩ := id hs
  have hTs : s.TypeIs (.ref sl) "slice" := ⟨os, hos, hcs⟩
  unfold getItem
  try with_reducible refine wpAny_holding ?_
  first | refine wpAny_bind (wpAny_pure ?_) | skip
  refine wpAny_bind (wpAny_sequenceKey ht.typeIs (by decide) ?_)
  refine wpAny_bind (wpAny_callSpecial?_slot (name := Str.ofString "__getitem__") ht.typeIs PyProof.Rows.slot_tuple_getitem
    (wpAny_call_entry PyProof.Rows.slot_tuple_getitem ht.typeIs entry_tuple_getitem ?_ (args_tuple_getitem _ _)))
  show wpAny _ _ (Builtin.Tuple.tupleItemsOf (.ref t) >>= _) _ _ s
  refine wpAny_bind (PyProof.Rows.tupleItemsOf_ ht ?_)
  refine wpAny_bind (wpAny_typeOf hTs ?_)
  rw [if_pos (by decide)]
  refine wpAny_bind (sliceApplied_rev hs pl pu ps ?_)
  show wpAny _ _ (if ((((items.size : Nat) : Int) - 1) == 0 && (-1 : Int) == 1 && items.size == items.size) = true then _ else _) _ _ s
  rw [if_neg (by simp), pick_rev]
  first
    | exact wpAny_bind (m := Builtin.Tuple.tupleExact _) (wpAny_newObj_type (wpAny_pure ⟨_, rfl, wpAny_pure h⟩) htake)
    | exact wpAny_bind (m := Builtin.Tuple.tupleExact _) (wpAny_newObj_type (wpAny_bind (wpAny_pure (wpAny_pure ⟨_, rfl, wpAny_pure h⟩))) htake)
    | exact wpAny_bind (wpAny_bind (m := Builtin.Tuple.tupleExact _) (wpAny_newObj_type (wpAny_pure (wpAny_pure ⟨_, rfl, wpAny_pure h⟩)) htake))
    | exact wpAny_bind (wpAny_bind (m := Builtin.Tuple.tupleExact _) (wpAny_newObj_type (wpAny_pure ⟨_, rfl, wpAny_pure h⟩) htake))
end
def tRevA (K : PySem.W.Frag) (te : TE) : TE := fun σ H Q => te σ H fun x H1 => (∃ a xs, x = .ref a ∧ SqL K H1 a xs ∧ ∀ p, H1 p = none → Q (.ref p) (upd H1 p (.lst xs.reverse))) ∨ (∃ a xs, x = .ref a ∧ SqT K H1 a xs ∧ ∀ p, H1 p = none → Q (.ref p) (upd H1 p (.tup xs.reverse)))
theorem pe_revA {X : Cx} {e : Expr} {te : TE} {k : Nat} {p1 p2 p3 pos : Pos} (he : PE X e te) : PE X (.Subscript e (.Slice none none (some (.UnaryOp .USub (.Constant (.int 1) k p1) p2)) p3) pos) (tRevA X.K te) := by
  refine ⟨fun pins s σ H Q I h => ?_⟩
  refine Subscript_ (thn (he.run pins s σ H _ I h) fun v s1 ⟨x, H1, I1, r1, q1⟩ => ?_)
  have hst : PO X (some (.UnaryOp .USub (.Constant (.int 1) k p1) p2)) (tPart (tUn (rU fun i => .int (-i)) (tC (.int 1)))) := po_some (pe_un un_neg pe_int)
  refine wpAny_Slice (thn (po_none.run pins s1 σ H1 (fun o H2 => o = none ∧ H2 = H1) I1 ⟨rfl, rfl⟩) fun vl s2 ⟨l, H2, I2, pl, el, e2⟩ => ?_)
  subst el e2
  refine thn (po_none.run pins s2 σ H2 (fun o H3 => o = none ∧ H3 = H2) I2 ⟨rfl, rfl⟩) fun vu s3 ⟨u, H3, I3, pu, eu, e3⟩ => ?_
  subst eu e3
  refine thn (hst.run pins s3 σ H3 (fun o H4 => o = some (-1) ∧ H4 = H3) I3 ⟨1, rfl, -1, rfl, rfl, rfl⟩) fun vs s4 ⟨o, H4, I4, ps, eo, e4⟩ => ?_
  subst eo e4
  have I5 : Inv X pins σ H4 { s4 with heap := s4.heap.push { cls := .type "slice", data := .fields #[vl, vu, vs] } } := I4.kept (t' := s4.toks) fun b ob q => Heap.get?_push_of_some _ q
  rcases q1 with ⟨a, xs, ex, hx, q⟩ | ⟨a, xs, ex, hx, q⟩
  · subst ex
    cases r1
    obtain ⟨its, r, ht, hz⟩ := I5.list hx
    have hlen := r.length
    show wpAny (model X.prog X.w) X.A (subscriptTail e (.Slice none none (some (.UnaryOp .USub (.Constant (.int 1) k p1) p2)) p3) (.ref a) (.ref s4.heap.objs.size)) (EP X pins σ Q) X.xe { s4 with heap := s4.heap.push { cls := .type "slice", data := .fields #[vl, vu, vs] } }
    refine tail_any (ops := [.ref a, .ref s4.heap.objs.size]) ht.isList.typeIs (PySem.slot_list_getitem.lookup) ?_ (by with_unfolding_all rfl)
    refine wpAny_getItem_list_slice ht.isList (Heap.IsSliceOf.new _ vl vu vs) pl pu ps (by decide) ?_ (by rw [List.size_toArray]; omega)
    rw [PySem.W.krv_pick]
    refine ⟨.ref _, _, I5.laid (t' := s4.toks) (o := .lst xs.reverse) (fun b ob q => Heap.get?_push_of_some _ q) (Nat.le_refl _) ?_, rfl, q _ (I5.hok.fresh (Nat.le_refl _))⟩
    exact ⟨by rw [List.length_reverse]; exact hz, _, 0, r.reverse, Heap.get?_push_size _ rfl⟩
  · subst ex
    cases r1
    obtain ⟨its, r, ht, hz⟩ := I5.tuple hx
    have hlen := r.length
    show wpAny (model X.prog X.w) X.A (subscriptTail e (.Slice none none (some (.UnaryOp .USub (.Constant (.int 1) k p1) p2)) p3) (.ref a) (.ref s4.heap.objs.size)) (EP X pins σ Q) X.xe { s4 with heap := s4.heap.push { cls := .type "slice", data := .fields #[vl, vu, vs] } }
    refine tail_any (ops := [.ref a, .ref s4.heap.objs.size]) ht.typeIs (PyProof.Rows.slot_tuple_getitem.lookup) ?_ (by with_unfolding_all rfl)
    refine getItem_tuple_rev ht (Heap.IsSliceOf.new _ vl vu vs) pl pu ps ?_ (by rw [List.size_toArray]; omega)
    refine ⟨.ref _, _, I5.laid (t' := s4.toks) (o := .tup xs.reverse) (fun b ob q => Heap.get?_push_of_some _ q) (Nat.le_refl _) ?_, rfl, q _ (I5.hok.fresh (Nat.le_refl _))⟩
    exact ⟨by rw [List.length_reverse]; exact hz, _, r.reverse, IsTup.new _ _⟩
def revF : D → Option D
  | .lst ds => some (.lst ds.reverse)
  | .tup ds => some (.tup ds.reverse)
  | _ => none
theorem RepL.rev {G : SE} {H : Hp} {ds : List D} {vs : List V} (h : RepL G H ds vs) : RepL G H ds.reverse vs.reverse := by
  induction ds generalizing vs with
  | nil => rw [h.nil_inv]; exact .nil
  | cons d ds ih =>
    obtain ⟨v, r, rfl, h1, h2⟩ := h.cons_inv
    rw [List.reverse_cons, List.reverse_cons]
    exact (ih h2).append (.cons h1 .nil)
section
variable {X : Cx} {B : Bd} {W : WX} {a : Expr} {f : Ev} {k : Nat} {p1 p2 p3 pos : Pos}
theorem d_rev (ha : DE X B W a f) (hK : X.K = B.G.K := by rfl) : DE X B W (.Subscript a (.Slice none none (some (.UnaryOp .USub (.Constant (.int 1) k p1) p2)) p3) pos) (eOp1 revF f) := by
  refine pe_imp (pe_revA ha) fun σ H Q h => ?_
  obtain ⟨fr, Hv, R, h⟩ := h
  refine ⟨fr, Hv, R, ?_⟩
  unfold eOp1 at h
  cases hf : f fr with
  | bad => rw [hf] at h; exact h.elim
  | exc c fs fr1 => rw [hf] at h; exact h
  | ok x fr1 =>
    rw [hf] at h
    dsimp only [Res.bind] at h
    intro vx H1 Hv1 n1 r1
    cases hx : look fr1 x with
    | none => rw [hx] at h; exact h.elim
    | some d =>
      rw [hx] at h
      dsimp only at h
      unfold revF at h
      split at h
      · next ds =>
        obtain ⟨p, vs, rfl, q, r⟩ := n1.rel.list_of r1 hx
        exact .inl ⟨p, vs, rfl, SqL.of q, fun t ht => lay_lst n1.rel ht r.rev fun v H' Hv' n q => h v H' Hv' (n1.trans n) (.of q)⟩
      · next ds =>
        obtain ⟨p, vs, rfl, q, qv, r⟩ := n1.rel.tup_of r1 hx
        exact .inr ⟨p, vs, rfl, by rw [hK]; exact q, fun t ht => lay_tup n1.rel ht r.rev fun v H' Hv' n q => h v H' Hv' (n1.trans n) (.of q)⟩
      · exact h.elim
end
end KS
namespace KS
open PySem PySem.Spec L2
def isiOF (u : Tn) (cs : List Nat) : D → Option D
  | .obj c _ _ => if c ∈ cs then some (.bl false) else none
  | d => isiF u d
theorem kitOne_cls {K : PySem.W.Frag} {C : Addr} {T : String} (hm : PySem.W.mroIn K C (.type T) = some false) (hk : PySem.W.kitMeta T = true := by decide +kernel) : PySem.W.kitOne K (.ref C) (.type T) = some false := by
  unfold PySem.W.kitOne
  rw [if_neg (by simp)]
  unfold PySem.W.kitCls
  dsimp only
  rw [if_pos hk]
  exact hm
section
variable {X : Cx} {B : Bd} {W : WX} {a : Expr} {f : Ev} {p q pos tpos : Pos} {x : Str}
theorem d_isiO (u : Tn) (cs : List Nat) (ha : DE X B W a f) (hm : X.mg "isinstance" = none) (hmx : X.mg x = none) (hx : bootBuiltins x = some (.type u.nm)) (hcs : ∀ c ∈ cs, C8.InsC X.K (B.G.cls c) ∧ PySem.W.kitOne X.K (.ref (B.G.cls c)) (.type u.nm) = some false) (hK : X.K = B.G.K := by rfl) (hg : Gl X "isinstance" := by rfl) (hgx : Gl X x := by rfl) (hv : bootBuiltins "isinstance" = some (.builtin "isinstance") := by decide +kernel) (hn : (("isinstance" : String) : Str) ≠ "__name__" := by decide) (hdb : ((("isinstance" : String) : Str) == ("__debug__" : Str)) = false := by decide)
    (hnx : x ≠ "__name__" := by decide) (hdx : (x == ("__debug__" : Str)) = false := by decide)
    (he2 : starEach [.Name x q] X.env = (false, eval (.Name x q) X.env) :: starEach [] X.env := by rfl) (he : starEach [a, .Name x q] X.env = (false, eval a X.env) :: starEach [.Name x q] X.env := by rfl) (hpl : (backTo pos (starEach [.Name x q] X.env)).any (·.1) = false := by rfl) :
    DE X B W (.Call (.Name "isinstance" p) [a, .Name x q] [] pos) (eOp1 (isiOF u cs) f) := by
  refine pe_imp (pe_callB call_isi hg hm hv (pa_cons ha (pa_cons (pe_bltn hgx hmx hx (show RelV (.ty u.nm) (.type u.nm) from rfl) hnx hdx) pa_nil he2) he) hn hdb he hpl) fun σ H Q h => ?_
  have e := ent1 (r := fun x1 H1 Q => rIsi X.K [x1, .ty u.nm] H1 Q) ?_ h
  · exact e
  · intro fr σ H Hv y dy b z Q R ry hy hz k
    cases b with
    | obj c ns fs =>
      unfold isiOF at hz
      dsimp only at hz
      split at hz
      · next hc =>
        cases hz
        obtain ⟨I, hkit⟩ := hcs c hc
        obtain ⟨pp, dx, vs, rfl, e, _, _⟩ := obj_of R ry hy
        exact ⟨_, .ty u.nm, .ref (B.G.cls c), .type u.nm, false, rfl, .ty _, .base (.ins e I.cl I.ha I.hn I.htk I.hm), hkit, k _ H Hv (.refl R) repB⟩
      · cases hz
    | _ =>
      unfold isiOF at hz
      dsimp only at hz
      unfold isiF at hz
      simp only [Option.map_eq_some_iff] at hz
      obtain ⟨t, ht, rfl⟩ := hz
      exact ⟨y, .ty u.nm, .type t.nm, .type u.nm, isT t u, rfl, .ty _, tyx_of hK R ry hy ht, kit_tn _ _ _, k _ H Hv (.refl R) repB⟩
end
end KS
namespace KT
open PySem KS
/-- a value of any form, without owned slots -/
inductive DV where
  | non | bl (b : Bool) | int (i : Int) | str (x : Str)
  | tup (ds : List DV) | lst (ds : List DV) | scr (ns : List Int)
  | obj (c : Nat) (ns : List Nat) (fs : List DV)
  | dct (ks vs : List DV)
mutual
def toD : DV → D
  | .non => .non | .bl b => .bl b | .int i => .int i | .str x => .str x
  | .tup ds => .tup (toDs ds) | .lst ds => .lst (toDs ds) | .scr ns => .scr ns
  | .obj c ns fs => .obj c ns (toDs fs) | .dct ks vs => .dct (toDs ks) (toDs vs)
def toDs : List DV → List D
  | [] => []
  | d :: ds => toD d :: toDs ds
end
theorem toDs_eq : ∀ l : List DV, toDs l = l.map toD
  | [] => rfl
  | d :: ds => by rw [toDs, List.map_cons, toDs_eq ds]
theorem toDs_map {α : Type} (e : α → DV) (l : List α) : toDs (l.map e) = l.map fun a => toD (e a) := by
  rw [toDs_eq, List.map_map]; rfl
theorem toDs_length (l : List DV) : (toDs l).length = l.length := by rw [toDs_eq, List.length_map]
theorem pers_toD (v : DV) : pers (toD v) = true := by cases v <;> rfl
theorem look_toD (fr : Fr) (v : DV) : look fr (toD v) = some (toD v) := by cases v <;> rfl
theorem all_pers_toDs (l : List DV) : (toDs l).all pers = true := by
  rw [toDs_eq, List.all_map, List.all_eq_true]
  exact fun v _ => pers_toD v
theorem toDs_append (l m : List DV) : toDs (l ++ m) = toDs l ++ toDs m := by rw [toDs_eq, toDs_eq, toDs_eq, List.map_append]
theorem toDs_get (l : List DV) (i : Nat) : (toDs l)[i]? = (l[i]?).map toD := by rw [toDs_eq, List.getElem?_map]
/-- an end of a typed function: a value, an exception (class, fields, what the handed-in objects are then), or what is not told -/
inductive O (α : Type) where
  | ok (a : α) | exc (c : Nat) (fs : List DV) (st : List DV) | bad
namespace O
def bind {α β : Type} (t : O α) (k : α → O β) : O β := match t with
  | .ok a => k a
  | .exc c fs st => .exc c fs st
  | .bad => .bad
def lt {α β : Type} (a : α) (k : α → O β) : O β := k a
@[simp] theorem bind_ok {α β : Type} (a : α) (k : α → O β) : (O.ok a).bind k = k a := rfl
@[simp] theorem bind_exc {α β : Type} (c : Nat) (fs st : List DV) (k : α → O β) : (O.exc c fs st).bind k = .exc c fs st := rfl
@[simp] theorem bind_bad {α β : Type} (k : α → O β) : (O.bad : O α).bind k = .bad := rfl
@[simp] theorem lt_eq {α β : Type} (a : α) (k : α → O β) : O.lt a k = k a := rfl
def opt {α : Type} : Option α → O α
  | some a => .ok a
  | none => .bad
/-- a check -/
def ck {α : Type} (c : Prop) [Decidable c] (t : O α) : O α := if c then t else .bad
end O
/-- how a block ends inside a loop -/
inductive Fw (ρ σ : Type) where
  | nx (s : σ) | brk (s : σ) | ret (r : ρ)
def foldT {α σ : Type} (l : List α) (s : σ) (b : α → σ → O σ) : O σ := match l with
  | [] => .ok s
  | a :: l => (b a s).bind fun s => foldT l s b
def loopT {α ρ σ : Type} (l : List α) (s : σ) (b : α → σ → O (Fw ρ σ)) : O (Fw ρ σ) := match l with
  | [] => .ok (.nx s)
  | a :: l => (b a s).bind fun w => match w with
    | .nx s => loopT l s b
    | .brk s => .ok (.nx s)
    | .ret r => .ok (.ret r)
def whileT {ρ σ : Type} (n : Nat) (c : σ → O Bool) (b : σ → O (Fw ρ σ)) (s : σ) : O (Fw ρ σ) := match n with
  | 0 => .bad
  | n + 1 => (c s).bind fun k => if k = true then (b s).bind fun w => match w with
    | .nx s => whileT n c b s
    | .brk s => .ok (.nx s)
    | .ret r => .ok (.ret r) else .ok (.nx s)
/-- behind a loop, at the def's own level -/
def O.aft {α ρ σ : Type} (t : O (Fw ρ σ)) (k : σ → O α) (r : ρ → O α) : O α := t.bind fun w => match w with
  | .nx s => k s
  | .brk s => k s
  | .ret x => r x
/-- a comprehension -/
def compT {α β σ : Type} (l : List α) (s : σ) (b : α → σ → O (Option β × σ)) : O (List β × σ) := match l with
  | [] => .ok ([], s)
  | a :: l => (b a s).bind fun p => (compT l p.2 b).bind fun q => .ok ((match p.1 with | some y => y :: q.1 | none => q.1), q.2)
@[reducible] def RfD {σ δ α : Type} (r : Res σ δ) (t : O α) (K : α → δ → σ → Prop) (KE : List DV → σ → Prop) : Prop := match t with
  | .ok a => ∃ d s, r = .ok d s ∧ K a d s
  | .exc c fs st => ∃ s, r = .exc c (toDs fs) s ∧ KE st s
  | .bad => True
structure Rf {σ δ α : Type} (r : Res σ δ) (t : O α) (K : α → δ → σ → Prop) (KE : List DV → σ → Prop) : Prop where
  h : RfD r t K KE
section
variable {σ δ δ' α β : Type} {KE : List DV → σ → Prop}
theorem Rf.ok {r : Res σ δ} {a : α} {K : α → δ → σ → Prop} {d : δ} {s : σ} (h : r = .ok d s) (k : K a d s) : Rf r (.ok a) K KE := ⟨d, s, h, k⟩
theorem Rf.bad {r : Res σ δ} {K : α → δ → σ → Prop} : Rf r .bad K KE := ⟨trivial⟩
theorem Rf.bind {r : Res σ δ} {t : O α} {K1 : α → δ → σ → Prop} {k : δ → σ → Res σ δ'} {tk : α → O β} {K : β → δ' → σ → Prop} (h : Rf r t K1 KE) (hk : ∀ a d s, K1 a d s → Rf (k d s) (tk a) K KE) : Rf (r.bind k) (t.bind tk) K KE := by
  cases t with
  | ok a => obtain ⟨d, s, e, q⟩ := h; rw [e]; exact hk a d s q
  | exc c fs st => obtain ⟨s, e, q⟩ := h; rw [e]; exact ⟨s, rfl, q⟩
  | bad => exact ⟨trivial⟩
theorem Rf.imp {r : Res σ δ} {t : O α} {K K' : α → δ → σ → Prop} (h : Rf r t K KE) (i : ∀ a d s, K a d s → K' a d s) : Rf r t K' KE := by
  cases t with
  | ok a => obtain ⟨d, s, e, q⟩ := h; exact ⟨d, s, e, i _ _ _ q⟩
  | exc c fs st => exact ⟨h.h⟩
  | bad => exact ⟨trivial⟩
theorem Rf.ck {r : Res σ δ} {t : O α} {K : α → δ → σ → Prop} {c : Prop} [Decidable c] (h : c → Rf r t K KE) : Rf r (O.ck c t) K KE := by
  unfold O.ck
  split
  · next hc => exact h hc
  · exact ⟨trivial⟩
theorem Rf.opt {r : Res σ δ} {o : Option α} {tk : α → O β} {K : β → δ → σ → Prop} (h : ∀ a, o = some a → Rf r (tk a) K KE) : Rf r ((O.opt o).bind tk) K KE := by
  cases o with
  | none => exact ⟨trivial⟩
  | some a => exact h a rfl
end
/-- the value v, handed over -/
def V (fr : Fr) (e : Ev) (v : DV) : Prop := e fr = .ok (toD v) fr
/-- the value v, or the object of a slot that bears it -/
def L (fr : Fr) (e : Ev) (v : DV) : Prop := ∃ x, e fr = .ok x fr ∧ look fr x = some (toD v)
def VB (fr : Fr) (t : Bv) (b : Bool) : Prop := t fr = .ok b fr
def VA (fr : Fr) (g : Av) (vs : List DV) : Prop := g fr = .ok (toDs vs) fr
def VI {α : Type} (fr : Fr) (h : Iv) (l : List α) (e : α → DV) (fr' : Fr) : Prop := h fr = .ok (l.map fun a => toD (e a)) fr'
section
variable {fr : Fr} {e f g : Ev} {v w z : DV} {t u : Bv} {a b : Bool}
theorem V.l (h : V fr e v) : L fr e v := ⟨_, h, look_toD fr v⟩
theorem v_var {i : Nat} (h : fr[i]? = some (some (toD v))) : V fr (eVar i) v := by
  unfold V eVar
  rw [h]
theorem l_pl {i : Nat} (h : fr[i]? = some (some (toD v))) (c : isCell (toD v) = true) : L fr (ePl i) v := by
  refine ⟨.var i, ?_, ?_⟩
  · unfold ePl
    rw [h]
    dsimp only
    rw [if_pos c]
  · unfold look
    dsimp only
    rw [h]
    dsimp only
    rw [if_pos c]
theorem v_cI {i : Int} : V fr (eC (.int i)) (.int i) := rfl
theorem v_cB {i : Bool} : V fr (eC (.bl i)) (.bl i) := rfl
theorem v_cS {i : Str} : V fr (eC (.str i)) (.str i) := rfl
theorem v_cN : V fr (eC .non) .non := rfl
/-- what an operation on values gives -/
def F1 (F : D → Option D) (v z : DV) : Prop := F (toD v) = some (toD z)
def F2 (F : D → D → Option D) (v w z : DV) : Prop := F (toD v) (toD w) = some (toD z)
theorem v_op1 {F : D → Option D} (hf : L fr f v) (h : F1 F v z) : V fr (eOp1 F f) z := by
  obtain ⟨x, h1, h2⟩ := hf
  unfold V eOp1
  rw [h1]
  show (match look fr x with | some a => ofO (F a) fr | _ => .bad) = _
  rw [h2]
  show ofO (F (toD v)) fr = _
  rw [h]
  rfl
theorem v_op2 {F : D → D → Option D} (hf : L fr f v) (hg : L fr g w) (h : F2 F v w z) : V fr (eOp2 F f g) z := by
  obtain ⟨x, h1, h2⟩ := hf
  obtain ⟨y, h3, h4⟩ := hg
  unfold V eOp2
  rw [h1]
  show ((g fr).bind fun y fr2 => match look fr2 x, look fr2 y with | some a, some b => ofO (F a b) fr2 | _, _ => .bad) = _
  rw [h3]
  show (match look fr x, look fr y with | some a, some b => ofO (F a b) fr | _, _ => .bad) = _
  rw [h2, h4]
  show ofO (F (toD v) (toD w)) fr = _
  rw [h]
  rfl
theorem vb_E (h : V fr e (.bl a)) : VB fr (bE e) a := by
  unfold VB bE
  rw [h]
  rfl
theorem vb_and (h : VB fr t a) (k : VB fr u b) : VB fr (bAnd t u) (a && b) := by
  unfold VB bAnd
  rw [h]
  cases a
  · rfl
  · exact k
theorem vb_or (h : VB fr t a) (k : VB fr u b) : VB fr (bOr t u) (a || b) := by
  unfold VB bOr
  rw [h]
  cases a
  · exact k
  · rfl
theorem vb_not (h : VB fr t a) : VB fr (bNot t) (!a) := by
  unfold VB bNot
  rw [h]
  rfl
theorem vb_tru (h : L fr e v) (k : truB (toD v) = some a) : VB fr (bTru e) a := by
  obtain ⟨x, h1, h2⟩ := h
  unfold VB bTru
  rw [h1]
  show (match look fr x with | some a => (match truB a with | some b => Res.ok b fr | none => Res.bad) | none => Res.bad) = _
  rw [h2]
  show (match truB (toD v) with | some b => Res.ok b fr | none => Res.bad) = _
  rw [k]
theorem v_not (h : V fr f (.bl a)) : V fr (eNot f) (.bl (!a)) := by
  unfold V eNot
  rw [h]
  rfl
theorem v_chain {F F' : D → D → Option D} {h : Ev} {y : DV} (hf : L fr f v) (hg : L fr g w) (hh : L fr h y) (h1 : F2 F v w (.bl a)) (h2 : F2 F' w y (.bl b)) : V fr (eChain F F' f g h) (.bl (a && b)) := by
  obtain ⟨x1, p1, q1⟩ := hf
  obtain ⟨x2, p2, q2⟩ := hg
  obtain ⟨x3, p3, q3⟩ := hh
  unfold V eChain
  rw [p1, Res.bind, p2, Res.bind, q1, q2]
  show (match F (toD v) (toD w) with
    | some (.bl true) => (h fr).bind fun z fr3 => match look fr3 x2, look fr3 z with
      | some b', some c => ofO (F' b' c) fr3
      | _, _ => .bad
    | some (.bl false) => .ok (.bl false) fr
    | _ => .bad) = _
  rw [show F (toD v) (toD w) = some (.bl a) from h1]
  cases a
  · rfl
  · show ((h fr).bind fun z fr3 => match look fr3 x2, look fr3 z with
      | some b', some c => ofO (F' b' c) fr3
      | _, _ => .bad) = _
    rw [p3, Res.bind, q2, q3]
    show ofO (F' (toD w) (toD y)) fr = _
    rw [h2]
    rfl
theorem va_nil : VA fr aNil [] := rfl
theorem va_cons {g : Av} {vs : List DV} (h : V fr e v) (k : VA fr g vs) : VA fr (aCons e g) (v :: vs) := by
  unfold VA aCons
  rw [h, Res.bind, k]
  rfl
theorem v_tup {g : Av} {vs : List DV} (h : VA fr g vs) (hl : Nat.ble vs.length 64 = true) : V fr (eTup g) (.tup vs) := by
  unfold V eTup
  rw [h, Res.bind, if_pos ⟨by rw [toDs_length]; exact Nat.le_trans (Nat.le_of_ble_eq_true hl) (by decide), all_pers_toDs vs⟩]
  rfl
theorem v_lst {g : Av} {vs : List DV} (h : VA fr g vs) (hl : Nat.ble vs.length 64 = true) : V fr (eLst g) (.lst vs) := by
  unfold V eLst
  rw [h, Res.bind, if_pos ⟨by rw [toDs_length]; exact Nat.le_trans (Nat.le_of_ble_eq_true hl) (by decide), all_pers_toDs vs⟩]
  rfl
end
end KT
namespace KT
open PySem KS
abbrev eI : Int → DV := .int
abbrev eB : Bool → DV := .bl
abbrev eS : Str → DV := .str
abbrev eU : Unit → DV := fun _ => .non
abbrev eY : DV → DV := fun v => v
abbrev eSc : List Int → DV := .scr
abbrev eL {α : Type} (e : α → DV) : List α → DV := fun l => .lst (l.map e)
abbrev eT {α : Type} (e : α → DV) : List α → DV := fun l => .tup (l.map e)
abbrev eP2 {α β : Type} (e : α → DV) (f : β → DV) : α × β → DV := fun p => .tup [e p.1, f p.2]
abbrev eP3 {α β γ : Type} (e : α → DV) (f : β → DV) (g : γ → DV) : α × β × γ → DV := fun p => .tup [e p.1, f p.2.1, g p.2.2]
def eO {α : Type} (e : α → DV) : Option α → DV
  | none => .non
  | some a => e a
def mulC (i j : Int) : Prop := (-18446744073709551616 < i ∧ i < 18446744073709551616) ∨ (-18446744073709551616 < j ∧ j < 18446744073709551616)
instance (i j : Int) : Decidable (mulC i j) := by unfold mulC; infer_instance
def divC (j : Int) : Prop := 0 < j ∧ j < 1073741824
instance (j : Int) : Decidable (divC j) := by unfold divC; infer_instance
def powC (i j : Int) : Prop := 0 ≤ j ∧ j ≤ 1000000 ∧ i.natAbs < 2 ^ 64
instance (i j : Int) : Decidable (powC i j) := by unfold powC; infer_instance
theorem f_add {i j : Int} : F2 addF (.int i) (.int j) (.int (i + j)) := rfl
theorem f_sub {i j : Int} : F2 subF (.int i) (.int j) (.int (i - j)) := rfl
theorem f_mul {i j : Int} (h : mulC i j) : F2 mulF (.int i) (.int j) (.int (i * j)) := if_pos h
theorem mul_r {i j : Int} (h : decide (-18446744073709551616 < j ∧ j < 18446744073709551616) = true) : mulC i j := .inr (of_decide_eq_true h)
theorem f_div {i j : Int} (h : divC j) : F2 fdivF (.int i) (.int j) (.int (i / j)) := if_pos h
theorem f_mod {i j : Int} (h : 0 < j) : F2 modF (.int i) (.int j) (.int (i % j)) := if_pos h
theorem f_pow {i j : Int} (h : powC i j) : F2 powF (.int i) (.int j) (.int (i ^ j.toNat)) := if_pos h
theorem f_neg {i : Int} : F1 negF (.int i) (.int (-i)) := rfl
theorem f_abs {i : Int} : F1 absF (.int i) (.int (if i < 0 then -i else i)) := rfl
theorem f_int {i : Int} : F1 intF (.int i) (.int i) := rfl
theorem f_min2 {i j : Int} : F2 min2F (.int i) (.int j) (.int (if j < i then j else i)) := rfl
theorem f_le {i j : Int} : F2 leA (.int i) (.int j) (.bl (decide (i ≤ j))) := rfl
theorem f_gt {i j : Int} : F2 gtF (.int i) (.int j) (.bl (decide (j < i))) := rfl
theorem f_ge {i j : Int} : F2 geF (.int i) (.int j) (.bl (decide (j ≤ i))) := rfl
theorem f_isN {v : DV} : F2 isNF v .non (.bl (isNon (toD v))) := rfl
theorem f_isNO {α : Type} {e : α → DV} {o : Option α} (h : ∀ a, isNon (toD (e a)) = false) : F2 isNF (eO e o) .non (.bl o.isNone) := by
  cases o with
  | none => rfl
  | some a => show some (D.bl (isNon (toD (e a)))) = _; rw [h]; rfl
theorem f_isNnO {α : Type} {e : α → DV} {o : Option α} (h : ∀ a, isNon (toD (e a)) = false) : F2 notNF (eO e o) .non (.bl o.isSome) := by
  cases o with
  | none => rfl
  | some a => show some (D.bl (!isNon (toD (e a)))) = _; rw [h]; rfl
structure Dat {α : Type} [DecidableEq α] (e : α → DV) (n : Nat) where
  p : α → PyData
  py : ∀ a, pyOf (toD (e a)) = some (p a)
  cl : ∀ a, (p a).canLay0 = true
  dp : ∀ a, (p a).depth ≤ n
  eq : ∀ a b, PyData.eqv (p a) (p b) = decide (a = b)
def dat_I : Dat eI 0 := ⟨.int, fun _ => rfl, fun _ => by simp only [PyData.canLay0], fun _ => by simp only [PyData.depth]; exact Nat.le_refl 0, fun a b => by simp only [PyData.eqv]; rw [Bool.eq_iff_iff]; simp⟩
section
variable {α β : Type} [DecidableEq α] [DecidableEq β] {e : α → DV} {f : β → DV} {n m : Nat}
theorem pyOfL_eq (A : Dat e n) : ∀ l : List α, pyOfL (toDs (l.map e)) = some (l.map A.p)
  | [] => rfl
  | a :: l => by
    show (match pyOf (toD (e a)), pyOfL (toDs (l.map e)) with | some p, some ps => some (p :: ps) | _, _ => none) = _
    rw [A.py, pyOfL_eq A l]
    rfl
theorem layL (A : Dat e n) : ∀ l : List α, PyData.canLayAll0 (l.map A.p) = true
  | [] => by simp [PyData.canLayAll0]
  | a :: l => by simp [PyData.canLayAll0, A.cl a, layL A l]
theorem depL (A : Dat e n) : ∀ l : List α, PyData.depthAll (l.map A.p) ≤ n
  | [] => by simp [PyData.depthAll]
  | a :: l => by
    have h1 := A.dp a
    have h2 := depL A l
    simp only [List.map_cons, PyData.depthAll]
    omega
theorem eqvL (A : Dat e n) : ∀ l k : List α, PyData.eqvAll (l.map A.p) (k.map A.p) = decide (l = k)
  | [], [] => by simp [PyData.eqvAll]
  | [], b :: k => by simp [PyData.eqvAll]
  | a :: l, [] => by simp [PyData.eqvAll]
  | a :: l, b :: k => by
    simp only [List.map_cons, PyData.eqvAll, A.eq, eqvL A l k]
    rw [Bool.eq_iff_iff]
    simp
def dat_L (A : Dat e n) : Dat (eL e) (n + 1) := ⟨fun l => .list (l.map A.p), fun l => by
    show (pyOfL (toDs (l.map e))).map PyData.list = _
    rw [pyOfL_eq A]; rfl, fun l => by simp only [PyData.canLay0]; exact layL A l, fun l => by simp only [PyData.depth]; exact Nat.succ_le_succ (depL A l), fun l k => by simp only [PyData.eqv]; exact eqvL A l k⟩
def dat_T (A : Dat e n) : Dat (eT e) (n + 1) := ⟨fun l => .tuple (l.map A.p), fun l => by
    show (pyOfL (toDs (l.map e))).map PyData.tuple = _
    rw [pyOfL_eq A]; rfl, fun l => by simp only [PyData.canLay0]; exact layL A l, fun l => by simp only [PyData.depth]; exact Nat.succ_le_succ (depL A l), fun l k => by simp only [PyData.eqv]; exact eqvL A l k⟩
def dat_P (A : Dat e n) (B : Dat f m) : Dat (eP2 e f) (max n m + 1) := ⟨fun p => .tuple [A.p p.1, B.p p.2], fun p => by
    show (match pyOf (toD (e p.1)), (match pyOf (toD (f p.2)), some ([] : List PyData) with | some p, some ps => some (p :: ps) | _, _ => none) with | some p, some ps => some (p :: ps) | _, _ => none).map PyData.tuple = _
    rw [A.py, B.py]; rfl, fun p => by simp [PyData.canLay0, PyData.canLayAll0, A.cl, B.cl], fun p => by
    have h1 := A.dp p.1
    have h2 := B.dp p.2
    simp only [PyData.depth, PyData.depthAll]
    omega, fun p q => by
    simp only [PyData.eqv, PyData.eqvAll, A.eq, B.eq]
    rw [Bool.eq_iff_iff]
    simp [Prod.ext_iff]⟩
theorem shp (A : Dat e n) (hn : n ≤ 64) (a : α) : SeqAt.shaped (A.p a) = true := by
  unfold SeqAt.shaped
  rw [Bool.and_eq_true]
  exact ⟨A.cl a, decide_eq_true (Nat.le_trans (A.dp a) hn)⟩
/-- == of values of one form -/
def Eqb (e : α → DV) : Prop := ∀ a b, eqB (toD (e a)) (toD (e b)) = some (decide (a = b))
theorem eqb_I : Eqb eI := fun _ _ => rfl
theorem eqb_B : Eqb eB := fun _ _ => rfl
theorem f_eq (h : Eqb e) {a b : α} : F2 eqF (e a) (e b) (.bl (decide (a = b))) := by
  unfold F2 eqF
  rw [h]
  rfl
theorem f_ne (h : Eqb e) {a b : α} : F2 neF (e a) (e b) (.bl (!decide (a = b))) := by
  unfold F2 neF
  rw [h]
  rfl
/-- == of any values: what is told -/
def eqY (v w : DV) : Option Bool := eqB (toD v) (toD w)
theorem f_eqY {v w : DV} {k : Bool} (h : eqY v w = some k) : F2 eqF v w (.bl k) := by
  unfold F2 eqF
  rw [show eqB (toD v) (toD w) = some k from h]
  rfl
/-- membership, as == tells -/
def memT {α : Type} [DecidableEq α] (a : α) (l : List α) : Bool := l.any fun b => decide (b = a)
theorem any_eq (A : Dat e n) (a : α) : ∀ l : List α, ((l.map A.p).any fun z => PyData.eqv z (A.p a)) = memT a l
  | [] => rfl
  | b :: l => by
    rw [List.map_cons, List.any_cons, any_eq A a l, A.eq]; rfl
theorem inB_L (A : Dat e n) (hn : n + 1 ≤ 64) (a : α) (l : List α) : inB (toD (e a)) (toD (eL e l)) = some (memT a l) := by
  unfold inB
  rw [A.py, (dat_L A).py]
  show (if (SeqAt.shaped (A.p a) && SeqAt.shaped ((dat_L A).p l)) = true then some ((l.map A.p).any fun z => PyData.eqv z (A.p a)) else none) = _
  rw [shp A (by omega), shp (dat_L A) hn, any_eq A]
  rfl
theorem inA_L (A : Dat e n) (hn : n + 1 ≤ 64) {a : α} {l : List α} : inA (toD (e a)) (toD (eL e l)) = some (.bl (memT a l)) := by
  unfold inA orF inF
  rw [inB_L A hn]
  rfl
theorem f_in (A : Dat e n) (hn : n + 1 ≤ 64) {a : α} {l : List α} : F2 inA2 (e a) (eL e l) (.bl (memT a l)) := by
  unfold F2 inA2 orF
  rw [inA_L A hn]
  rfl
theorem f_nin (A : Dat e n) (hn : n + 1 ≤ 64) {a : α} {l : List α} : F2 notInA2 (e a) (eL e l) (.bl (!memT a l)) := by
  unfold F2 notInA2 orF notInF
  rw [inB_L A hn]
  rfl
theorem inTB_T (A : Dat e n) (hn : n + 1 ≤ 64) (a : α) (l : List α) : inTB (toD (e a)) (toD (eT e l)) = some (memT a l) := by
  unfold inTB
  rw [A.py, (dat_T A).py]
  show (if (SeqAt.shaped (A.p a) && SeqAt.shaped ((dat_T A).p l)) = true then some ((l.map A.p).any fun z => PyData.eqv z (A.p a)) else none) = _
  rw [shp A (by omega), shp (dat_T A) hn, any_eq A]
  rfl
theorem inB_T (A : Dat e n) (a : α) (l : List α) : inB (toD (e a)) (toD (eT e l)) = none := by
  unfold inB
  rw [A.py, (dat_T A).py]
  rfl
theorem f_inT (A : Dat e n) (hn : n + 1 ≤ 64) {a : α} {l : List α} : F2 inA2 (e a) (eT e l) (.bl (memT a l)) := by
  have h1 : inA (toD (e a)) (toD (eT e l)) = none := by
    unfold inA orF inF
    rw [inB_T A]
    show inSF (toD (e a)) (.tup _) = none
    cases toD (e a) <;> rfl
  unfold F2 inA2 orF
  rw [h1]
  show inTF _ _ = _
  unfold inTF
  rw [inTB_T A hn]
  rfl
theorem f_ninT (A : Dat e n) (hn : n + 1 ≤ 64) {a : α} {l : List α} : F2 notInA2 (e a) (eT e l) (.bl (!memT a l)) := by
  unfold F2 notInA2 orF notInF
  rw [inB_T A]
  show notInTF _ _ = _
  unfold notInTF
  rw [inTB_T A hn]
  rfl
end
section
variable {α β : Type} {e : α → DV} {f : β → DV}
theorem atI_m (g : α → D) (l : List α) (i : Int) : L2.atI (l.map g) i = (L2.atI l i).map g := atI_map g
theorem toDs_m (l : List α) : toDs (l.map e) = l.map fun a => toD (e a) := toDs_map e l
theorem f_ixL {l : List α} {i : Int} {a : α} (h : L2.atI l i = some a) : F2 ixF (eL e l) (.int i) (e a) := by
  show L2.atI (toDs (l.map e)) i = _
  rw [toDs_m, atI_m, h]; rfl
theorem f_ixT {l : List α} {i : Int} {a : α} (h : L2.atI l i = some a) : F2 ixF (eT e l) (.int i) (e a) := by
  show L2.atI (toDs (l.map e)) i = _
  rw [toDs_m, atI_m, h]; rfl
theorem f_ixP {vs : List DV} {i : Int} {v : DV} (h : L2.atI vs i = some v) : F2 ixF (.tup vs) (.int i) v := by
  show L2.atI (toDs vs) i = _
  rw [toDs_eq, atI_m, h]; rfl
theorem f_lenL {l : List α} : F1 lenF (eL e l) (.int l.length) := by
  show some (D.int (toDs (l.map e)).length) = _
  rw [toDs_length, List.length_map]; rfl
theorem f_lenT {l : List α} : F1 lenF (eT e l) (.int l.length) := by
  show some (D.int (toDs (l.map e)).length) = _
  rw [toDs_length, List.length_map]; rfl
theorem f_lenX {x : Str} (h : x.length ≤ 16777216) : F1 lenF (.str x) (.int x.length) := by
  show (if x.length ≤ sizeLine then some (D.int x.length) else none) = _
  rw [if_pos (Nat.le_trans h (by decide))]; rfl
def catC {α : Type} (a b : List α) : Prop := a.length + b.length ≤ 16777216
instance (a b : List α) : Decidable (catC a b) := by unfold catC; infer_instance
theorem f_addT {a b : List α} (h : catC a b) : F2 addF (eT e a) (eT e b) (eT e (a ++ b)) := by
  show (if (toDs (a.map e)).length + (toDs (b.map e)).length ≤ sizeLine then some (D.tup (toDs (a.map e) ++ toDs (b.map e))) else none) = _
  rw [toDs_length, toDs_length, List.length_map, List.length_map, if_pos (Nat.le_trans h (by decide)), ← toDs_append, ← List.map_append]; rfl
theorem f_catL {a b : List α} (h : catC a b) : F2 catF (eL e a) (eL e b) (eL e (a ++ b)) := by
  show (if (toDs (a.map e)).length + (toDs (b.map e)).length ≤ sizeLine then some (D.lst (toDs (a.map e) ++ toDs (b.map e))) else none) = _
  rw [toDs_length, toDs_length, List.length_map, List.length_map, if_pos (Nat.le_trans h (by decide)), ← toDs_append, ← List.map_append]; rfl
theorem f_tupL {l : List α} : F1 tupF (eL e l) (eT e l) := rfl
theorem f_lstL {l : List α} : F1 lstF (eL e l) (eL e l) := rfl
theorem f_lstT {l : List α} : F1 lstF (eT e l) (eL e l) := rfl
theorem bls_m : ∀ l : List Bool, blsOf (toDs (l.map eB)) = some l
  | [] => rfl
  | b :: l => by
    show (blsOf (toDs (l.map eB))).map (b :: ·) = _
    rw [bls_m l]; rfl
theorem ints_m : ∀ l : List Int, intsOf (toDs (l.map eI)) = some l
  | [] => rfl
  | b :: l => by
    show (intsOf (toDs (l.map eI))).map (b :: ·) = _
    rw [ints_m l]; rfl
theorem f_all {l : List Bool} : F1 allF (eL eB l) (.bl (l.all id)) := by
  show (blsOf (toDs (l.map eB))).map (fun bs => D.bl (bs.all id)) = _
  rw [bls_m]; rfl
theorem f_any {l : List Bool} : F1 anyF (eL eB l) (.bl (l.any id)) := by
  show (blsOf (toDs (l.map eB))).map (fun bs => D.bl (bs.any id)) = _
  rw [bls_m]; rfl
theorem tru_L {l : List α} : truB (toD (eL e l)) = some (!l.isEmpty) := by
  show some (!(toDs (l.map e)).isEmpty) = _
  cases l <;> rfl
/-- a cut -/
def cutT {α : Type} (l : List α) (lo hi : Option Int) : List α := cutD l lo hi
theorem cut_m (g : α → D) (l : List α) (lo hi : Option Int) : cutD (l.map g) lo hi = (cutD l lo hi).map g := by
  unfold cutD
  rw [List.length_map, List.map_take, List.map_drop]
abbrev VO (fr : Fr) (o : Ov) (i : Option Int) : Prop := o fr = .ok i fr
theorem vo_none {fr : Fr} : VO fr oNone none := rfl
theorem vo_some {fr : Fr} {g : Ev} {i : Int} (h : L fr g (.int i)) : VO fr (oSome g) (some i) := by
  obtain ⟨x, h1, h2⟩ := h
  unfold VO oSome
  rw [h1]
  show (match look fr x with | some (.int i) => Res.ok (some i) fr | _ => Res.bad) = _
  rw [h2]
  rfl
theorem v_slLF {fr : Fr} {g : Ev} {l : List α} {lo hi : Ov} {a b : Option Int} (h : L fr g (eL e l)) (h1 : VO fr lo a) (h2 : VO fr hi b) : V fr (eSlF g lo hi) (eL e (cutT l a b)) := by
  obtain ⟨x, p, q⟩ := h
  unfold V eSlF
  rw [p, Res.bind, h1, Res.bind, h2, Res.bind, q]
  show ofO (some (D.lst (cutD (toDs (l.map e)) a b))) fr = _
  rw [toDs_m, cut_m, ← toDs_m]; rfl
theorem v_slT {fr : Fr} {g : Ev} {l : List α} {lo hi : Ov} {a b : Option Int} (h : L fr g (eT e l)) (h1 : VO fr lo a) (h2 : VO fr hi b) : V fr (eSl g lo hi) (eT e (cutT l a b)) := by
  obtain ⟨x, p, q⟩ := h
  unfold V eSl
  rw [p, Res.bind, h1, Res.bind, h2, Res.bind, q]
  show ofO (some (D.tup (cutD (toDs (l.map e)) a b))) fr = _
  rw [toDs_m, cut_m, ← toDs_m]; rfl
theorem vi_L {fr : Fr} {g : Ev} {l : List α} (h : V fr g (eL e l)) : VI fr (iVal g) l e fr := by
  unfold VI iVal
  rw [h, Res.bind, if_pos (pers_toD _)]
  show Res.ok (toDs (l.map e)) fr = _
  rw [toDs_m]
theorem vi_T {fr : Fr} {g : Ev} {l : List α} (h : V fr g (eT e l)) : VI fr (iVal g) l e fr := by
  unfold VI iVal
  rw [h, Res.bind, if_pos (pers_toD _)]
  show Res.ok (toDs (l.map e)) fr = _
  rw [toDs_m]
theorem vi_S {fr : Fr} {g : Ev} {l : List Int} (h : V fr g (.scr l)) : VI fr (iVal g) l eI fr := by
  unfold VI iVal
  rw [h]
  rfl
def rngT (i : Int) (n : Int) : List Int := (List.range (n - i).toNat).map fun (k : Nat) => i + (k : Int)
def okR (j : Int) : Prop := -4611686018427387904 ≤ j ∧ j < 4611686018427387904
instance (j : Int) : Decidable (okR j) := by unfold okR; infer_instance
theorem okI_of {j : Int} (h : okR j) : okI j = true := decide_eq_true h
theorem rangeD_eq (i : Int) (n : Int) : rangeD i (n - i).toNat = (rngT i n).map fun a => toD (eI a) := by
  unfold rangeD rngT
  rw [List.map_map]; rfl
theorem vi_rg1 {fr : Fr} {g : Ev} {n : Int} (h : L fr g (.int n)) (c : okR n) : VI fr (iRg1 g) (rngT 0 n) eI fr := by
  obtain ⟨x, p, q⟩ := h
  unfold VI iRg1
  rw [p, Res.bind, q, ← rangeD_eq]
  show (if okI n = true then Res.ok (rangeD 0 n.toNat) fr else Res.bad) = _
  rw [if_pos (okI_of c), Int.sub_zero]
def enumT {α : Type} (l : List α) : List (Int × α) := l.zipIdx.map fun p => ((p.2 : Int), p.1)
theorem iota_eq (l : List α) : iotaD (l.map fun a => toD (e a)) = (enumT l).map fun p => toD (eP2 eI e p) := by
  unfold iotaD enumT
  rw [List.zipIdx_map, List.map_map, List.map_map]; rfl
theorem vi_enL {fr : Fr} {g : Ev} {l : List α} (h : V fr g (eL e l)) : VI fr (iEn g) (enumT l) (eP2 eI e) fr := by
  unfold VI iEn
  rw [h, Res.bind, if_pos (pers_toD _)]
  show Res.ok (iotaD (toDs (l.map e))) fr = _
  rw [toDs_m, iota_eq]
theorem vi_enT {fr : Fr} {g : Ev} {l : List α} (h : V fr g (eT e l)) : VI fr (iEn g) (enumT l) (eP2 eI e) fr := by
  unfold VI iEn
  rw [h, Res.bind, if_pos (pers_toD _)]
  show Res.ok (iotaD (toDs (l.map e))) fr = _
  rw [toDs_m, iota_eq]
theorem zip_eq (l : List α) (k : List β) : zipD (l.map fun a => toD (e a)) (k.map fun a => toD (f a)) = (l.zip k).map fun p => toD (eP2 e f p) := by
  unfold zipD
  rw [List.zip_map, List.map_map]; rfl
end
end KT
namespace KT
open PySem KS
section
variable {β δ : Type} {K : β → δ → Fr → Prop} {KE : List DV → Fr → Prop} {fr fr1 : Fr} {t : O β}
variable {e f g : Ev} {k : D → Fr → Res Fr δ} {v w z : DV}
theorem x_v (h : V fr e v) (q : Rf (k (toD v) fr) t K KE) : Rf ((e fr).bind k) t K KE := by rw [h]; exact q
def kOp1 (F : D → Option D) (k : D → Fr → Res Fr δ) : D → Fr → Res Fr δ := fun x fr1 => (match look fr1 x with
  | some a => ofO (F a) fr1
  | _ => .bad).bind k
theorem x_op1 {F : D → Option D} (q : Rf ((f fr).bind (kOp1 F k)) t K KE) : Rf ((eOp1 F f fr).bind k) t K KE := by
  unfold eOp1
  cases h : f fr with
  | ok x fr1 => rw [h] at q; exact q
  | exc c fs fr1 => rw [h] at q; exact q
  | bad => rw [h] at q; exact q
theorem k_op1 {F : D → Option D} (h : F1 F v z) (q : Rf (k (toD z) fr) t K KE) : Rf (kOp1 F k (toD v) fr) t K KE := by
  unfold kOp1
  rw [look_toD]
  show Rf ((ofO (F (toD v)) fr).bind k) t K KE
  rw [h]; exact q
def kOp2b (F : D → D → Option D) (x : D) (k : D → Fr → Res Fr δ) : D → Fr → Res Fr δ := fun y fr2 => (match look fr2 x, look fr2 y with
  | some a, some b => ofO (F a b) fr2
  | _, _ => .bad).bind k
def kOp2a (F : D → D → Option D) (g : Ev) (k : D → Fr → Res Fr δ) : D → Fr → Res Fr δ := fun x fr1 => (g fr1).bind (kOp2b F x k)
theorem x_op2 {F : D → D → Option D} (q : Rf ((f fr).bind (kOp2a F g k)) t K KE) : Rf ((eOp2 F f g fr).bind k) t K KE := by
  unfold eOp2
  cases h : f fr with
  | ok x fr1 =>
    rw [h] at q
    have q : Rf ((g fr1).bind (kOp2b F x k)) t K KE := q
    show Rf (((g fr1).bind fun y fr2 => match look fr2 x, look fr2 y with | some a, some b => ofO (F a b) fr2 | _, _ => .bad).bind k) t K KE
    cases h2 : g fr1 with
    | ok y fr2 => rw [h2] at q; exact q
    | exc c fs fr1 => rw [h2] at q; exact q
    | bad => rw [h2] at q; exact q
  | exc c fs fr1 => rw [h] at q; exact q
  | bad => rw [h] at q; exact q
theorem k_op2b {F : D → D → Option D} {x : D} (hx : look fr x = some (toD v)) (h : F2 F v w z) (q : Rf (k (toD z) fr) t K KE) : Rf (kOp2b F x k (toD w) fr) t K KE := by
  unfold kOp2b
  rw [hx, look_toD]
  show Rf ((ofO (F (toD v) (toD w)) fr).bind k) t K KE
  rw [h]; exact q
theorem k_op2bl {F : D → D → Option D} {x y : D} (hx : look fr x = some (toD v)) (hy : look fr y = some (toD w)) (h : F2 F v w z) (q : Rf (k (toD z) fr) t K KE) : Rf (kOp2b F x k y fr) t K KE := by
  unfold kOp2b
  rw [hx, hy]
  show Rf ((ofO (F (toD v) (toD w)) fr).bind k) t K KE
  rw [h]; exact q
/-- left value, right a doing -/
theorem x_op2r {F : D → D → Option D} (h : V fr f v) (q : Rf ((g fr).bind (kOp2b F (toD v) k)) t K KE) : Rf ((eOp2 F f g fr).bind k) t K KE := x_op2 (x_v h q)
/-- left a doing that ended, right looks only -/
theorem k_op2a {F : D → D → Option D} (hg : L fr g w) (h : F2 F v w z) (q : Rf (k (toD z) fr) t K KE) : Rf (kOp2a F g k (toD v) fr) t K KE := by
  unfold kOp2a
  obtain ⟨y, h1, h2⟩ := hg
  rw [h1]
  exact k_op2bl (look_toD _ _) h2 h q
variable {u u2 : Bv} {kb : Bool → Fr → Res Fr δ}
theorem x_vb {b : Bool} (h : VB fr u b) (q : Rf (kb b fr) t K KE) : Rf ((u fr).bind kb) t K KE := by rw [h]; exact q
def kE (kb : Bool → Fr → Res Fr δ) : D → Fr → Res Fr δ := fun d fr1 => (match d with
  | .bl b => Res.ok b fr1
  | _ => Res.bad).bind kb
theorem x_bE (q : Rf ((e fr).bind (kE kb)) t K KE) : Rf ((bE e fr).bind kb) t K KE := by
  unfold bE
  cases h : e fr with
  | ok x fr1 => rw [h] at q; exact q
  | exc c fs fr1 => rw [h] at q; exact q
  | bad => rw [h] at q; exact q
theorem k_E {b : Bool} (q : Rf (kb b fr) t K KE) : Rf (kE kb (toD (.bl b)) fr) t K KE := q
theorem x_not (q : Rf ((u fr).bind fun b fr1 => kb (!b) fr1) t K KE) : Rf ((bNot u fr).bind kb) t K KE := by
  unfold bNot
  cases h : u fr with
  | ok x fr1 => rw [h] at q; exact q
  | exc c fs fr1 => rw [h] at q; exact q
  | bad => rw [h] at q; exact q
/-- a test's end, joined -/
abbrev KB {σ : Type} (F : σ → Fr) : Bool × σ → Bool → Fr → Prop := fun p b fr => b = p.1 ∧ fr = F p.2
theorem x_tail {α : Type} {r : Res Fr α} {K : β → α → Fr → Prop} (q : Rf (r.bind fun d s => .ok d s) t K KE) : Rf r t K KE := by
  cases r with
  | ok x fr1 => exact q
  | exc c fs fr1 => exact q
  | bad => exact q
theorem x_and {σ : Type} {F : σ → Fr} {a : Bool} {s : σ} {tb : O (Bool × σ)} (h : VB fr u a) (hs : fr = F s) (q : a = true → Rf (u2 fr) tb (KB F) KE) : Rf (bAnd u u2 fr) (if a = true then tb else .ok (false, s)) (KB F) KE := by
  unfold bAnd
  rw [h]
  cases a
  · exact ⟨false, fr, rfl, rfl, hs⟩
  · exact q rfl
theorem x_or {σ : Type} {F : σ → Fr} {a : Bool} {s : σ} {tb : O (Bool × σ)} (h : VB fr u a) (hs : fr = F s) (q : a = false → Rf (u2 fr) tb (KB F) KE) : Rf (bOr u u2 fr) (if a = true then .ok (true, s) else tb) (KB F) KE := by
  unfold bOr
  rw [h]
  cases a
  · exact q rfl
  · exact ⟨true, fr, rfl, rfl, hs⟩
theorem x_join {σ : Type} {F : σ → Fr} {tb : O (Bool × σ)} {tk : Bool × σ → O β} (h : Rf (u fr) tb (KB F) KE) (q : ∀ p, Rf (kb p.1 (F p.2)) (tk p) K KE) : Rf ((u fr).bind kb) (tb.bind tk) K KE :=
  Rf.bind h fun p b fr1 hp => by obtain ⟨rfl, rfl⟩ := hp; exact q p
theorem kb_ok {σ : Type} {F : σ → Fr} {b : Bool} {s : σ} (hs : fr = F s) : Rf (Res.ok (σ := Fr) b fr) (.ok (b, s)) (KB F) KE := ⟨b, fr, rfl, rfl, hs⟩
abbrev KV {α : Type} (e : α → DV) (F : α → Fr) : α → D → Fr → Prop := fun a d fr => d = toD (e a) ∧ fr = F a
theorem x_joinV {α : Type} {E : α → DV} {F : α → Fr} {ta : O α} {tk : α → O β} (h : Rf (e fr) ta (KV E F) KE) (q : ∀ a, Rf (k (toD (E a)) (F a)) (tk a) K KE) : Rf ((e fr).bind k) (ta.bind tk) K KE :=
  Rf.bind h fun p b fr1 hp => by obtain ⟨rfl, rfl⟩ := hp; exact q p
theorem kv_ok {α : Type} {E : α → DV} {F : α → Fr} {a : α} {v : DV} (hv : v = E a) (hs : fr = F a) : Rf (Res.ok (σ := Fr) (toD v) fr) (.ok a) (KV E F) KE := ⟨_, fr, rfl, by rw [hv], hs⟩
def kA (es : Av) (ka : List D → Fr → Res Fr δ) : D → Fr → Res Fr δ := fun d fr1 => (es fr1).bind fun ds fr2 => ka (d :: ds) fr2
theorem x_cons {es : Av} {ka : List D → Fr → Res Fr δ} (q : Rf ((e fr).bind (kA es ka)) t K KE) : Rf ((aCons e es fr).bind ka) t K KE := by
  unfold aCons
  cases h : e fr with
  | ok x fr1 =>
    rw [h] at q
    have q : Rf ((es fr1).bind fun ds fr2 => ka (x :: ds) fr2) t K KE := q
    show Rf (((es fr1).bind fun ds fr2 => Res.ok (x :: ds) fr2).bind ka) t K KE
    cases h2 : es fr1 with
    | ok y fr2 => rw [h2] at q; exact q
    | exc c fs fr1 => rw [h2] at q; exact q
    | bad => rw [h2] at q; exact q
  | exc c fs fr1 => rw [h] at q; exact q
  | bad => rw [h] at q; exact q
theorem k_A {es : Av} {ka : List D → Fr → Res Fr δ} {d : D} (q : Rf ((es fr).bind fun ds fr2 => ka (d :: ds) fr2) t K KE) : Rf (kA es ka d fr) t K KE := q
theorem x_nil {ka : List D → Fr → Res Fr δ} (q : Rf (ka [] fr) t K KE) : Rf ((aNil fr).bind ka) t K KE := q
theorem x_va {es : Av} {vs : List DV} {ka : List D → Fr → Res Fr δ} (h : VA fr es vs) (q : Rf (ka (toDs vs) fr) t K KE) : Rf ((es fr).bind ka) t K KE := by rw [h]; exact q
def kTup (k : D → Fr → Res Fr δ) : List D → Fr → Res Fr δ := fun ds fr1 => if ds.length ≤ sizeLine ∧ ds.all pers = true then k (.tup ds) fr1 else .bad
theorem x_tup {es : Av} (q : Rf ((es fr).bind (kTup k)) t K KE) : Rf ((eTup es fr).bind k) t K KE := by
  unfold eTup
  cases h : es fr with
  | ok x fr1 =>
    rw [h] at q
    have q : Rf (if x.length ≤ sizeLine ∧ x.all pers = true then k (.tup x) fr1 else .bad) t K KE := q
    show Rf ((if x.length ≤ sizeLine ∧ x.all pers = true then Res.ok (D.tup x) fr1 else Res.bad).bind k) t K KE
    split
    · next c => rw [if_pos c] at q; exact q
    · next c => rw [if_neg c] at q; exact q
  | exc c fs fr1 => rw [h] at q; exact q
  | bad => rw [h] at q; exact q
theorem k_tup {vs : List DV} (hl : Nat.ble vs.length 64 = true) (q : Rf (k (toD (.tup vs)) fr) t K KE) : Rf (kTup k (toDs vs) fr) t K KE := by
  unfold kTup
  rw [if_pos ⟨by rw [toDs_length]; exact Nat.le_trans (Nat.le_of_ble_eq_true hl) (by decide), all_pers_toDs vs⟩]
  exact q
def kLst (k : D → Fr → Res Fr δ) : List D → Fr → Res Fr δ := fun ds fr1 => if ds.length ≤ sizeLine ∧ ds.all pers = true then k (.lst ds) fr1 else .bad
theorem x_lst {es : Av} (q : Rf ((es fr).bind (kLst k)) t K KE) : Rf ((eLst es fr).bind k) t K KE := by
  unfold eLst
  cases h : es fr with
  | ok x fr1 =>
    rw [h] at q
    have q : Rf (if x.length ≤ sizeLine ∧ x.all pers = true then k (.lst x) fr1 else .bad) t K KE := q
    show Rf ((if x.length ≤ sizeLine ∧ x.all pers = true then Res.ok (D.lst x) fr1 else Res.bad).bind k) t K KE
    split
    · next c => rw [if_pos c] at q; exact q
    · next c => rw [if_neg c] at q; exact q
  | exc c fs fr1 => rw [h] at q; exact q
  | bad => rw [h] at q; exact q
theorem k_lst {vs : List DV} (hl : Nat.ble vs.length 64 = true) (q : Rf (k (toD (.lst vs)) fr) t K KE) : Rf (kLst k (toDs vs) fr) t K KE := by
  unfold kLst
  rw [if_pos ⟨by rw [toDs_length]; exact Nat.le_trans (Nat.le_of_ble_eq_true hl) (by decide), all_pers_toDs vs⟩]
  exact q
def kCall (ms : List Bool) (F : Fn) (k : D → Fr → Res Fr δ) : List D → Fr → Res Fr δ := fun ds fr1 => (match argC fr1 ms ds with
  | none => Res.bad
  | some cs => if (ioV ms ds).Nodup then (match F cs with
    | .ok d outs => if outs.length = ms.length then .ok d (setP fr1 (ioP ms ds outs)) else .bad
    | .exc c fs outs => if outs.length = ms.length then .exc c fs (setP fr1 (ioP ms ds outs)) else .bad
    | .bad => .bad) else .bad).bind k
theorem x_call {ms : List Bool} {F : Fn} {es : Av} (q : Rf ((es fr).bind (kCall ms F k)) t K KE) : Rf ((eCall ms F es fr).bind k) t K KE := by
  unfold eCall
  cases h : es fr with
  | ok x fr1 => rw [h] at q; exact q
  | exc c fs fr1 => rw [h] at q; exact q
  | bad => rw [h] at q; exact q
/-- what a def does, told: its value, what the handed-in objects are then -/
abbrev KF {α : Type} (e : α → DV) (n : Nat) (os : α → List (Nat × DV)) : α → D → List D → Prop := fun a d outs => d = toD (e a) ∧ outs.length = n ∧ ∀ p ∈ os a, outs[p.1]? = some (toD p.2)
abbrev KX (n : Nat) (os : List DV → List (Nat × DV)) : List DV → List D → Prop := fun st outs => outs.length = n ∧ ∀ p ∈ os st, outs[p.1]? = some (toD p.2)
def falses (n : Nat) : List Bool := List.replicate n false
theorem argC_vals {fr : Fr} : ∀ vs : List DV, argC fr (falses vs.length) (toDs vs) = some (toDs vs)
  | [] => rfl
  | v :: vs => by
    show (if pers (toD v) = true then (argC fr (falses vs.length) (toDs vs)).map (toD v :: ·) else none) = _
    rw [if_pos (pers_toD v), argC_vals vs]; rfl
theorem ioV_vals : ∀ vs : List DV, ioV (falses vs.length) (toDs vs) = []
  | [] => rfl
  | v :: vs => by
    have := ioV_vals vs
    cases v <;> exact this
theorem ioP_vals : ∀ (vs : List DV) (os : List D), ioP (falses vs.length) (toDs vs) os = []
  | [], os => by cases os <;> rfl
  | v :: vs, [] => by cases v <;> rfl
  | v :: vs, o :: os => by
    have := ioP_vals vs os
    cases v <;> exact this
/-- a call with values alone -/
theorem k_call {α : Type} {F : Fn} {vs : List DV} {E : α → DV} {ta : O α} {tk : α → O β} {ms : List Bool} {n : Nat} {os : α → List (Nat × DV)} {ox : List DV → List (Nat × DV)} (hF : Rf (F (toDs vs)) ta (KF E n os) (KX n ox)) (hm : ms = falses vs.length) (hn : n = vs.length) (hE : ∀ c fs st, ta = .exc c fs st → KE st fr)
    (q : ∀ a, Rf (k (toD (E a)) fr) (tk a) K KE) : Rf (kCall ms F k (toDs vs) fr) (ta.bind tk) K KE := by
  subst hm hn
  unfold kCall
  rw [argC_vals]
  dsimp only
  rw [if_pos (by rw [ioV_vals]; exact List.nodup_nil)]
  cases ta with
  | bad => exact ⟨trivial⟩
  | ok a =>
    obtain ⟨d, outs, e, rfl, hl, _⟩ := hF
    rw [e]
    dsimp only
    rw [if_pos (by rw [hl]; simp [falses]), ioP_vals]
    exact q a
  | exc c fs st =>
    obtain ⟨outs, e, hl, _⟩ := hF
    rw [e]
    dsimp only
    rw [if_pos (by rw [hl]; simp [falses]), ioP_vals]
    exact ⟨fr, rfl, hE c fs st rfl⟩
/-- a call that is only looked at -/
theorem v_call {fr : Fr} {α : Type} {F : Fn} {vs : List DV} {E : α → DV} {ta : O α} {es : Av} {ms : List Bool} {n : Nat} {os : α → List (Nat × DV)} {ox : List DV → List (Nat × DV)} {a : α} (hF : Rf (F (toDs vs)) ta (KF E n os) (KX n ox)) (ha : ta = .ok a) (hm : ms = falses vs.length) (hn : n = vs.length) (h : VA fr es vs) : V fr (eCall ms F es) (E a) := by
  have q := x_call (K := KV E fun _ => fr) (KE := fun _ _ => True) (k := fun d s => Res.ok d s) (x_va h (k_call (tk := O.ok) hF hm hn (fun _ _ _ _ => trivial) fun a => ⟨_, _, rfl, rfl, rfl⟩))
  subst ha
  obtain ⟨d, s, e, rfl, hs⟩ := q
  have hs : s = fr := hs
  rw [hs] at e
  unfold V
  cases h2 : eCall ms F es fr with
  | ok x fr1 => rw [h2] at e; exact e
  | exc c fs fr1 => rw [h2] at e; cases e
  | bad => rw [h2] at e; cases e
/-- a call whose doing is left out where it raises -/
def O.no {α : Type} (t : O α) : O α := match t with
  | .ok a => .ok a
  | _ => .bad
theorem Rf.no {α σ δ : Type} {r : Res σ δ} {ta : O α} {tk : α → O β} {K : β → δ → σ → Prop} {KE : List DV → σ → Prop} (h : ∀ a, ta = .ok a → Rf r (tk a) K KE) : Rf r (ta.no.bind tk) K KE := by
  cases ta with
  | ok a => exact h a rfl
  | exc c fs st => exact ⟨trivial⟩
  | bad => exact ⟨trivial⟩
/-- one object is handed in at place i of the list of arguments, from slot j -/
theorem argC_io {fr : Fr} {ms : List Bool} {ds cs : List D} {j : Nat} {v : DV} (hj : fr[j]? = some (some (toD v))) (hc : isCell (toD v) = true) (h : argC fr ms ds = some cs) : argC fr (true :: ms) (.var j :: ds) = some (toD v :: cs) := by
  unfold argC
  rw [hj]
  dsimp only
  rw [if_pos hc, h]
  rfl
theorem argC_v {fr : Fr} {ms : List Bool} {ds cs : List D} {v : DV} (h : argC fr ms ds = some cs) : argC fr (false :: ms) (toD v :: ds) = some (toD v :: cs) := by
  unfold argC
  rw [if_pos (pers_toD v), h]
  rfl
end
end KT
namespace KT
open PySem KS
section
variable {β σ ρ : Type} {K : β → Fl → Fr → Prop} {KE : List DV → Fr → Prop} {fr fr1 : Fr} {t : O β} {b g h : Sv} {e f : Ev} {v w z : DV}
def kQ (b : Sv) : Fl → Fr → Res Fr Fl := fun fl fr1 => match fl with
  | .nx => b fr1
  | fl => .ok fl fr1
theorem s_nx (q : Rf (b fr) t K KE) : Rf (sSeq sNx b fr) t K KE := q
/-- the last statement of a suite stands ahead of nothing -/
theorem s_end (q : K a .nx fr) : Rf (sNx fr) (.ok a) K KE := ⟨_, _, rfl, q⟩
def kX (b : Sv) : D → Fr → Res Fr Fl := fun _ fr1 => b fr1
theorem s_x (q : Rf ((e fr).bind (kX b)) t K KE) : Rf (sSeq (sX e) b fr) t K KE := by
  unfold sSeq sX
  cases h : e fr with
  | ok x fr1 => rw [h] at q; exact q
  | exc c fs fr1 => rw [h] at q; exact q
  | bad => rw [h] at q; exact q
theorem k_X {d : D} (q : Rf (b fr) t K KE) : Rf (kX b d fr) t K KE := q
def kSet (i : Nat) (b : Sv) : D → Fr → Res Fr Fl := fun d fr1 => if pers d = true then b (fr1.set i (some d)) else .bad
theorem s_set {i : Nat} (q : Rf ((e fr).bind (kSet i b)) t K KE) : Rf (sSeq (sSet i e) b fr) t K KE := by
  unfold sSeq sSet
  cases h : e fr with
  | ok x fr1 =>
    rw [h] at q
    have q : Rf (if pers x = true then b (fr1.set i (some x)) else .bad) t K KE := q
    show Rf ((if pers x = true then Res.ok Fl.nx (fr1.set i (some x)) else Res.bad).bind _) t K KE
    split
    · next c => rw [if_pos c] at q; exact q
    · next c => rw [if_neg c] at q; exact q
  | exc c fs fr1 => rw [h] at q; exact q
  | bad => rw [h] at q; exact q
theorem k_Set {i : Nat} {fr' : Fr} (hf : fr.set i (some (toD v)) = fr') (q : Rf (b fr') t K KE) : Rf (kSet i b (toD v) fr) t K KE := by
  unfold kSet
  rw [if_pos (pers_toD v), hf]
  exact q
/-- .. under a name -/
theorem k_SetN {α : Type} {E : α → DV} {a : α} {tk : α → O β} {i : Nat} {fr' : α → Fr} (hf : ∀ x, fr.set i (some (toD (E x))) = fr' x) (q : ∀ x, Rf (b (fr' x)) (tk x) K KE) : Rf (kSet i b (toD (E a)) fr) (O.lt a tk) K KE := k_Set (hf a) (q a)
def kSetF (i : Nat) (b : Sv) : D → Fr → Res Fr Fl := fun d fr1 => b (fr1.set i (some d))
theorem s_setF {i : Nat} (q : Rf ((e fr).bind (kSetF i b)) t K KE) : Rf (sSeq (sSetF i e) b fr) t K KE := by
  unfold sSeq sSetF
  cases h : e fr with
  | ok x fr1 => rw [h] at q; exact q
  | exc c fs fr1 => rw [h] at q; exact q
  | bad => rw [h] at q; exact q
theorem k_SetF {i : Nat} {d : D} {fr' : Fr} (hf : fr.set i (some d) = fr') (q : Rf (b fr') t K KE) : Rf (kSetF i b d fr) t K KE := by subst hf; exact q
theorem k_SetFN {α : Type} {E : α → DV} {a : α} {tk : α → O β} {i : Nat} {fr' : α → Fr} (hf : ∀ x, fr.set i (some (toD (E x))) = fr' x) (q : ∀ x, Rf (b (fr' x)) (tk x) K KE) : Rf (kSetF i b (toD (E a)) fr) (O.lt a tk) K KE := by
  have := q a
  rw [← hf] at this
  exact this
def kRet : D → Fr → Res Fr Fl := fun d fr1 => if pers d = true then .ok (.ret d) fr1 else .bad
theorem s_ret (q : Rf ((e fr).bind kRet) t K KE) : Rf (sSeq (sRet e) b fr) t K KE := by
  unfold sSeq sRet
  cases h : e fr with
  | ok x fr1 =>
    rw [h] at q
    have q : Rf (if pers x = true then Res.ok (Fl.ret x) fr1 else .bad) t K KE := q
    show Rf ((if pers x = true then Res.ok (Fl.ret x) fr1 else Res.bad).bind _) t K KE
    split
    · next c => rw [if_pos c] at q; exact q
    · next c => rw [if_neg c] at q; exact q
  | exc c fs fr1 => rw [h] at q; exact q
  | bad => rw [h] at q; exact q
theorem k_Ret {a : β} (q : K a (.ret (toD v)) fr) : Rf (kRet (toD v) fr) (.ok a) K KE := by
  unfold kRet
  rw [if_pos (pers_toD v)]
  exact ⟨_, _, rfl, q⟩
theorem s_retV {a : β} (h : V fr e v) (q : K a (.ret (toD v)) fr) : Rf (sSeq (sRet e) b fr) (.ok a) K KE := s_ret (x_v h (k_Ret q))
/-- an owned object is handed back -/
theorem s_retO {a : β} {i : Nat} (h : fr[i]? = some (some (toD v))) (c : isCell (toD v) = true) (q : K a (.ret (toD v)) fr) : Rf (sSeq (sRetV i) b fr) (.ok a) K KE := by
  refine ⟨.ret (toD v), fr, ?_, q⟩
  unfold sSeq sRetV
  rw [h]
  dsimp only
  rw [if_pos c]
  rfl
theorem s_brk {a : β} (q : K a .brk fr) : Rf (sSeq sBrk b fr) (.ok a) K KE := ⟨_, _, rfl, q⟩
theorem s_raise {c n : Nat} {es : Av} {vs : List DV} {st : List DV} (h : VA fr es vs) (hn : n = vs.length) (q : KE st fr) : Rf (sSeq (sRaise c n es) b fr) (.exc c vs st) K KE := by
  refine ⟨fr, ?_, q⟩
  unfold sSeq sRaise
  rw [h, Res.bind, if_pos ⟨all_pers_toDs vs, by rw [toDs_length, hn]⟩]
  rfl
theorem seq_assoc (a b c : Sv) : sSeq (sSeq a b) c = sSeq a (sSeq b c) := by
  funext fr
  unfold sSeq
  cases a fr with
  | ok fl fr1 => cases fl <;> rfl
  | exc c fs fr1 => rfl
  | bad => rfl
variable {u : Bv} {a : Bool}
theorem s_seqE {g b c : Sv} (q : Rf (sSeq g (sSeq b c) fr) t K KE) : Rf (sSeq (sSeq g b) c fr) t K KE := by rw [seq_assoc]; exact q
def kIf (g h : Sv) (b : Sv) : Bool → Fr → Res Fr Fl := fun a fr1 => if a = true then sSeq g b fr1 else sSeq h b fr1
theorem s_ifX {h : Sv} (q : Rf ((u fr).bind (kIf g h b)) t K KE) : Rf (sSeq (sIf u g h) b fr) t K KE := by
  unfold sSeq sIf
  cases hu : u fr with
  | ok x fr1 =>
    rw [hu] at q
    have q : Rf (if x = true then sSeq g b fr1 else sSeq h b fr1) t K KE := q
    cases x
    · exact q
    · exact q
  | exc c fs fr1 => rw [hu] at q; exact q
  | bad => rw [hu] at q; exact q
theorem k_If {h : Sv} {ta tb : O β} (p : Rf (sSeq g b fr) ta K KE) (q : Rf (sSeq h b fr) tb K KE) : Rf (kIf g h b a fr) (if a = true then ta else tb) K KE := by
  unfold kIf
  cases a
  · exact q
  · exact p
/-- both ways run through, and meet -/
abbrev KN (F : σ → Fr) : σ → Fl → Fr → Prop := fun s fl fr => fl = .nx ∧ fr = F s
theorem s_if {F : σ → Fr} {h : Sv} {ta tb : O σ} {tk : σ → O β} {js : List Bool} (hu : VB fr u a) (p : Rf (g fr) ta (fun s fl fr => fl = .nx ∧ killF fr js = F s) KE) (q : Rf (h fr) tb (fun s fl fr => fl = .nx ∧ killF fr js = F s) KE) (r : ∀ s, Rf (b (F s)) (tk s) K KE) :
    Rf (sSeq (sKn js (sIf u g h)) b fr) ((if a = true then ta else tb).bind tk) K KE := by
  have m : Rf (sKn js (sIf u g h) fr) (if a = true then ta else tb) (KN F) KE := by
    unfold sKn sIf
    rw [hu]
    cases a
    · rw [if_neg Bool.false_ne_true]
      have : Rf (h fr) tb (fun s fl fr => fl = .nx ∧ killF fr js = F s) KE := q
      show Rf ((h fr).bind _) tb (KN F) KE
      cases tb with
      | bad => exact ⟨trivial⟩
      | exc c fs st => obtain ⟨s, e, z⟩ := this; rw [e]; exact ⟨s, rfl, z⟩
      | ok s => obtain ⟨fl, fr2, e, rfl, z⟩ := this; rw [e]; exact ⟨.nx, _, rfl, rfl, z⟩
    · rw [if_pos rfl]
      have : Rf (g fr) ta (fun s fl fr => fl = .nx ∧ killF fr js = F s) KE := p
      show Rf ((g fr).bind _) ta (KN F) KE
      cases ta with
      | bad => exact ⟨trivial⟩
      | exc c fs st => obtain ⟨s, e, z⟩ := this; rw [e]; exact ⟨s, rfl, z⟩
      | ok s => obtain ⟨fl, fr2, e, rfl, z⟩ := this; rw [e]; exact ⟨.nx, _, rfl, rfl, z⟩
  refine Rf.bind (K1 := KN F) m fun s fl fr2 hs => ?_
  obtain ⟨rfl, rfl⟩ := hs
  exact r s
/-- .. behind a test that does something -/
theorem s_ifXJ {τ : Type} {G : τ → Fr} {F : σ → Fr} {h : Sv} {tt : O (Bool × τ)} {ta : τ → O σ} {tb : τ → O σ} {tk : σ → O β} {js : List Bool} (hu : Rf (u fr) tt (KB G) KE) (p : ∀ x, Rf (g (G x)) (ta x) (fun s fl fr => fl = .nx ∧ killF fr js = F s) KE) (q : ∀ x, Rf (h (G x)) (tb x) (fun s fl fr => fl = .nx ∧ killF fr js = F s) KE) (r : ∀ s, Rf (b (F s)) (tk s) K KE) :
    Rf (sSeq (sKn js (sIf u g h)) b fr) ((tt.bind fun x => if x.1 = true then ta x.2 else tb x.2).bind tk) K KE := by
  have m : Rf (sKn js (sIf u g h) fr) (tt.bind fun x => if x.1 = true then ta x.2 else tb x.2) (KN F) KE := by
    unfold sKn sIf
    cases tt with
    | bad => exact ⟨trivial⟩
    | exc c fs st => obtain ⟨s, e, z⟩ := hu; rw [e]; exact ⟨s, rfl, z⟩
    | ok x =>
      obtain ⟨bb, fr2, e, rfl, rfl⟩ := hu
      rw [e]
      obtain ⟨bb, x⟩ := x
      cases bb
      · show Rf ((h (G x)).bind _) (tb x) (KN F) KE
        have := q x
        cases hb : tb x with
        | bad => exact ⟨trivial⟩
        | exc c fs st => rw [hb] at this; obtain ⟨s, e, z⟩ := this; rw [e]; exact ⟨s, rfl, z⟩
        | ok s => rw [hb] at this; obtain ⟨fl, fr2, e, rfl, z⟩ := this; rw [e]; exact ⟨.nx, _, rfl, rfl, z⟩
      · show Rf ((g (G x)).bind _) (ta x) (KN F) KE
        have := p x
        cases hb : ta x with
        | bad => exact ⟨trivial⟩
        | exc c fs st => rw [hb] at this; obtain ⟨s, e, z⟩ := this; rw [e]; exact ⟨s, rfl, z⟩
        | ok s => rw [hb] at this; obtain ⟨fl, fr2, e, rfl, z⟩ := this; rw [e]; exact ⟨.nx, _, rfl, rfl, z⟩
  refine Rf.bind (K1 := KN F) m fun s fl fr2 hs => ?_
  obtain ⟨rfl, rfl⟩ := hs
  exact r s
section
variable {α : Type} {E : α → DV} {F : σ → Fr} {G : α → σ → Fr} {tg : Tv} {js : List Bool}
theorem fold_r {tb : α → σ → O σ} (ht : ∀ a s, tg (toD (E a)) (F s) = some (G a s)) (hb : ∀ a s, Rf (g (G a s)) (tb a s) (fun s fl fr => (fl = .nx ∨ fl = .cnt) ∧ killF fr js = F s) KE) :
    ∀ (l : List α) (s : σ), Rf (loopF tg (sK js g) (l.map fun a => toD (E a)) (F s)) (foldT l s tb) (KN F) KE
  | [], s => ⟨_, _, rfl, rfl, rfl⟩
  | a :: l, s => by
    have ih := fold_r ht hb l
    have h1 := hb a s
    show Rf (match tg (toD (E a)) (F s) with
      | none => Res.bad
      | some fr1 => (sK js g fr1).bind fun fl fr2 => match fl with
        | .nx => loopF tg (sK js g) (l.map fun a => toD (E a)) fr2
        | .cnt => loopF tg (sK js g) (l.map fun a => toD (E a)) fr2
        | .brk => Res.ok Fl.nx fr2
        | .ret d => Res.ok (Fl.ret d) fr2) ((tb a s).bind fun s => foldT l s tb) (KN F) KE
    rw [ht]
    dsimp only
    unfold sK
    cases hq : tb a s with
    | bad => exact ⟨trivial⟩
    | exc c fs st => rw [hq] at h1; obtain ⟨s2, e, z⟩ := h1; rw [e]; exact ⟨s2, rfl, z⟩
    | ok s2 =>
      rw [hq] at h1
      obtain ⟨fl, fr2, e, hfl, z⟩ := h1
      rw [e]
      rcases hfl with rfl | rfl
      · show Rf (loopF tg _ _ (killF fr2 js)) _ _ _
        rw [z]; exact ih s2
      · show Rf (loopF tg _ _ (killF fr2 js)) _ _ _
        rw [z]; exact ih s2
theorem loop_r {KR : ρ → Fl → Fr → Prop} {tb : α → σ → O (Fw ρ σ)} (ht : ∀ a s, tg (toD (E a)) (F s) = some (G a s))
    (hb : ∀ a s, Rf (g (G a s)) (tb a s) (fun w fl fr => match w with | .nx s => (fl = .nx ∨ fl = .cnt) ∧ killF fr js = F s | .brk s => fl = .brk ∧ killF fr js = F s | .ret r => (∃ d, fl = .ret d) ∧ KR r fl fr) KE) :
    ∀ (l : List α) (s : σ), Rf (loopF tg (sK js g) (l.map fun a => toD (E a)) (F s)) (loopT l s tb) (fun w fl fr => match w with | .nx s => fl = .nx ∧ fr = F s | .brk s => False | .ret r => (∃ d, fl = .ret d) ∧ KR r fl fr) KE
  | [], s => ⟨_, _, rfl, rfl, rfl⟩
  | a :: l, s => by
    have ih := loop_r ht hb l
    have h1 := hb a s
    unfold loopT
    rw [List.map_cons, loopF]
    rw [ht]
    dsimp only
    unfold sK
    cases hq : tb a s with
    | bad => exact ⟨trivial⟩
    | exc c fs st => rw [hq] at h1; obtain ⟨s2, e, z⟩ := h1; rw [e]; exact ⟨s2, rfl, z⟩
    | ok w =>
      rw [hq] at h1
      obtain ⟨fl, fr2, e, z⟩ := h1
      rw [e]
      cases w with
      | nx s2 =>
        obtain ⟨hfl, z⟩ := z
        rcases hfl with rfl | rfl
        · show Rf (loopF tg _ _ (killF fr2 js)) _ _ _
          rw [z]; exact ih s2
        · show Rf (loopF tg _ _ (killF fr2 js)) _ _ _
          rw [z]; exact ih s2
      | brk s2 =>
        obtain ⟨rfl, z⟩ := z
        exact ⟨.nx, killF fr2 js, rfl, rfl, z⟩
      | ret r =>
        obtain ⟨⟨d, rfl⟩, z⟩ := z
        exact ⟨.ret d, fr2, rfl, ⟨d, rfl⟩, z⟩
theorem s_for {hI : Iv} {l : List α} {s0 : σ} {fr0 : Fr} {tb : α → σ → O σ} {tk : σ → O β} (hi : VI fr hI l E fr0) (h0 : fr0 = F s0) (ht : ∀ a s, tg (toD (E a)) (F s) = some (G a s))
    (hb : ∀ a s, Rf (g (G a s)) (tb a s) (fun s fl fr => (fl = .nx ∨ fl = .cnt) ∧ killF fr js = F s) KE) (r : ∀ s, Rf (b (F s)) (tk s) K KE) : Rf (sSeq (sFor hI tg (sK js g)) b fr) ((foldT l s0 tb).bind tk) K KE := by
  have m : Rf (sFor hI tg (sK js g) fr) (foldT l s0 tb) (KN F) KE := by
    unfold sFor
    rw [hi, Res.bind, h0]
    exact fold_r ht hb l s0
  refine Rf.bind (K1 := KN F) m fun s fl fr2 hs => ?_
  obtain ⟨rfl, rfl⟩ := hs
  exact r s
theorem while_r {KR : ρ → Fl → Fr → Prop} {tc : σ → O Bool} {tb : σ → O (Fw ρ σ)} (hc : ∀ s, Rf (u (F s)) (tc s) (fun a b fr => b = a ∧ fr = F s) KE)
    (hb : ∀ s, Rf (g (F s)) (tb s) (fun w fl fr => match w with | .nx s => (fl = .nx ∨ fl = .cnt) ∧ killF fr js = F s | .brk s => fl = .brk ∧ killF fr js = F s | .ret r => (∃ d, fl = .ret d) ∧ KR r fl fr) KE) :
    ∀ (n : Nat) (s : σ), Rf (whileF u (sK js g) n (F s)) (whileT n tc tb s) (fun w fl fr => match w with | .nx s => fl = .nx ∧ fr = F s | .brk s => False | .ret r => (∃ d, fl = .ret d) ∧ KR r fl fr) KE
  | 0, s => ⟨trivial⟩
  | n + 1, s => by
    have ih := while_r hc hb n
    unfold whileF whileT
    refine Rf.bind (hc s) fun k bb fr1 hk => ?_
    obtain ⟨rfl, rfl⟩ := hk
    cases bb with
    | false => exact ⟨_, _, rfl, rfl, rfl⟩
    | true =>
      rw [if_pos rfl, if_pos rfl]
      have h1 := hb s
      unfold sK
      cases hq : tb s with
      | bad => exact ⟨trivial⟩
      | exc c fs st => rw [hq] at h1; obtain ⟨s2, e, z⟩ := h1; rw [e]; exact ⟨s2, rfl, z⟩
      | ok w =>
        rw [hq] at h1
        obtain ⟨fl, fr2, e, z⟩ := h1
        rw [e]
        cases w with
        | nx s2 =>
          obtain ⟨hfl, z⟩ := z
          rcases hfl with rfl | rfl
          · show Rf (whileF u _ n (killF fr2 js)) _ _ _
            rw [z]; exact ih s2
          · show Rf (whileF u _ n (killF fr2 js)) _ _ _
            rw [z]; exact ih s2
        | brk s2 =>
          obtain ⟨rfl, z⟩ := z
          exact ⟨.nx, killF fr2 js, rfl, rfl, z⟩
        | ret r =>
          obtain ⟨⟨d, rfl⟩, z⟩ := z
          exact ⟨.ret d, fr2, rfl, ⟨d, rfl⟩, z⟩
theorem s_while {KR : ρ → Fl → Fr → Prop} {tc : σ → O Bool} {tb : σ → O (Fw ρ σ)} {s0 : σ} {tk : σ → O β} {tr : ρ → O β} (h0 : killF fr js = F s0) (hc : ∀ s, Rf (u (F s)) (tc s) (fun a b fr => b = a ∧ fr = F s) KE)
    (hb : ∀ s, Rf (g (F s)) (tb s) (fun w fl fr => match w with | .nx s => (fl = .nx ∨ fl = .cnt) ∧ killF fr js = F s | .brk s => fl = .brk ∧ killF fr js = F s | .ret r => (∃ d, fl = .ret d) ∧ KR r fl fr) KE) (r : ∀ s, Rf (b (F s)) (tk s) K KE)
    (hr : ∀ x d fr, KR x (.ret d) fr → Rf (Res.ok (Fl.ret d) fr) (tr x) K KE) : Rf (sSeq (kS js (sWhile u (sK js g))) b fr) ((whileT 1000000000 tc tb s0).aft tk tr) K KE := by
  have m : Rf (kS js (sWhile u (sK js g)) fr) (whileT 1000000000 tc tb s0) (fun w fl fr => match w with | .nx s => fl = .nx ∧ fr = F s | .brk s => False | .ret r => (∃ d, fl = .ret d) ∧ KR r fl fr) KE := by
    unfold kS sWhile
    rw [h0]
    exact while_r hc hb _ s0
  refine Rf.bind m fun w fl fr2 hs => ?_
  cases w with
  | nx s => obtain ⟨rfl, rfl⟩ := hs; exact r s
  | brk s => exact hs.elim
  | ret x => obtain ⟨⟨d, rfl⟩, z⟩ := hs; exact hr x d fr2 z
end
section
variable {α γ : Type} {E : α → DV} {E2 : γ → DV} {vs : List Nat} {tg : Tv} {c : Bv}
theorem compL_v {fra : α → Fr} {p : α → Bool} {q : α → γ} (ht : ∀ a, tg (toD (E a)) (wipeF fr vs) = some (fra a)) (hw : ∀ a, wipeF (fra a) vs = wipeF fr vs) (hc : ∀ a, VB (fra a) c (p a)) (he : ∀ a, p a = true → V (fra a) e (E2 (q a))) :
    ∀ (l : List α) (fr0 : Fr), wipeF fr0 vs = wipeF fr vs → ∃ fr2, compL vs tg c e (l.map fun a => toD (E a)) fr0 = .ok (((l.filter p).map q).map fun a => toD (E2 a)) fr2 ∧ (fr2 = fr0 ∨ ∃ a, fr2 = fra a)
  | [], fr0, _ => ⟨fr0, rfl, .inl rfl⟩
  | a :: l, fr0, h0 => by
    obtain ⟨fr2, ih, hfr⟩ := compL_v ht hw hc he l (fra a) (hw a)
    have hfr' : fr2 = fr0 ∨ ∃ a, fr2 = fra a := .inr (hfr.elim (fun z => ⟨a, z⟩) id)
    refine ⟨fr2, ?_, hfr'⟩
    show (match tg (toD (E a)) (wipeF fr0 vs) with
      | none => Res.bad
      | some fr1 => (c fr1).bind fun b fr2 => if b = true then ((e fr2).bind fun y fr3 => if pers y = true then ((compL vs tg c e (l.map fun a => toD (E a)) fr3).bind fun r fr4 => .ok (y :: r) fr4) else .bad) else compL vs tg c e (l.map fun a => toD (E a)) fr2) = _
    rw [h0, ht]
    dsimp only
    rw [hc a, Res.bind]
    cases hp : p a with
    | false =>
      rw [if_neg Bool.false_ne_true, List.filter_cons_of_neg (by rw [hp]; exact Bool.false_ne_true)]
      exact ih
    | true =>
      rw [if_pos rfl, List.filter_cons_of_pos hp, he a hp, Res.bind, if_pos (pers_toD _), ih]
      rfl
theorem restF_at (fr1 fr2 : Fr) : ∀ (vs : List Nat) (j : Nat), (restF fr1 fr2 vs)[j]? = if j ∈ vs then (fr2[j]?).map (fun _ => (fr1[j]?).join) else fr2[j]?
  | [], j => by simp [restF]
  | v :: vs, j => by
    have ih := restF_at fr1 fr2 vs j
    unfold restF
    by_cases h : j = v
    · subst h
      rw [List.getElem?_set_self', if_pos (List.mem_cons_self ..), ih]
      split
      · cases fr2[j]? <;> rfl
      · cases fr2[j]? <;> rfl
    · rw [List.getElem?_set_ne (Ne.symm h), ih]
      simp [h]
theorem wipeF_at (fr : Fr) : ∀ (vs : List Nat) (j : Nat), (wipeF fr vs)[j]? = if j ∈ vs then (fr[j]?).map (fun _ => none) else fr[j]?
  | [], j => by simp [wipeF]
  | v :: vs, j => by
    have ih := wipeF_at fr vs j
    unfold wipeF
    by_cases h : j = v
    · subst h
      rw [List.getElem?_set_self', if_pos (List.mem_cons_self ..), ih]
      split
      · cases fr[j]? <;> rfl
      · cases fr[j]? <;> rfl
    · rw [List.getElem?_set_ne (Ne.symm h), ih]
      simp [h]
theorem restF_wipe (fr1 : Fr) {fr2 fr3 : Fr} {vs : List Nat} (h : wipeF fr2 vs = wipeF fr3 vs) : restF fr1 fr2 vs = restF fr1 fr3 vs := by
  refine List.ext_getElem? fun j => ?_
  have q : (wipeF fr2 vs)[j]? = (wipeF fr3 vs)[j]? := by rw [h]
  rw [wipeF_at, wipeF_at] at q
  rw [restF_at, restF_at]
  split
  · next c =>
    rw [if_pos c, if_pos c] at q
    cases h2 : fr2[j]? <;> cases h3 : fr3[j]? <;> rw [h2, h3] at q <;> first | rfl | cases q
  · next c =>
    rw [if_neg c, if_neg c] at q
    exact q
theorem restF_self (fr : Fr) (vs : List Nat) : restF fr fr vs = fr := by
  refine List.ext_getElem? fun j => ?_
  rw [restF_at]
  split
  · cases fr[j]? with
    | none => rfl
    | some x => cases x <;> rfl
  · rfl
/-- the target's names are among vs -/
def TgIn (tg : Tv) (vs : List Nat) : Prop := ∀ d fr fr', tg d fr = some fr' → wipeF fr' vs = wipeF fr vs
theorem wipeF_set {fr : Fr} {vs : List Nat} {i : Nat} {x : Option D} (h : i ∈ vs) : wipeF (fr.set i x) vs = wipeF fr vs := by
  refine List.ext_getElem? fun j => ?_
  rw [wipeF_at, wipeF_at]
  by_cases e : j = i
  · subst e
    rw [if_pos h, if_pos h, List.getElem?_set_self']
    cases fr[j]? <;> rfl
  · rw [List.getElem?_set_ne (Ne.symm e)]
theorem wipeF_setL {vs : List Nat} : ∀ (is : List Nat) (ds : List D) (fr : Fr), (∀ i ∈ is, i ∈ vs) → wipeF (setL fr is ds) vs = wipeF fr vs
  | [], ds, fr, _ => rfl
  | i :: is, [], fr, _ => rfl
  | i :: is, d :: ds, fr, h => by
    show wipeF (setL (fr.set i (some d)) is ds) vs = _
    rw [wipeF_setL is ds _ fun j hj => h j (List.mem_cons_of_mem _ hj), wipeF_set (h i (List.mem_cons_self ..))]
theorem tgIn_N {i : Nat} {vs : List Nat} (h : decide (i ∈ vs) = true) : TgIn (tgN i) vs := fun d fr fr' e => by
  cases e
  exact wipeF_set (of_decide_eq_true h)
theorem tgIn_T {is vs : List Nat} (h : (is.all fun i => decide (i ∈ vs)) = true) : TgIn (tgT is) vs := fun d fr fr' e => by
  unfold tgT at e
  split at e
  · split at e
    · cases e
      exact wipeF_setL is _ fr fun i hi => of_decide_eq_true (List.all_eq_true.mp h i hi)
    · cases e
  · cases e
theorem wipeF_wipe (fr : Fr) (vs : List Nat) : wipeF (wipeF fr vs) vs = wipeF fr vs := by
  refine List.ext_getElem? fun j => ?_
  rw [wipeF_at, wipeF_at]
  split
  · cases fr[j]? <;> rfl
  · rfl
/-- a turn's frame -/
def tgF (tg : Tv) (vs : List Nat) (v : DV) (fr : Fr) : Fr := (tg (toD v) (wipeF fr vs)).getD []
theorem tgF_eq {tg : Tv} {vs : List Nat} {v : DV} {fr : Fr} (h : (tg (toD v) (wipeF fr vs)).isSome = true) : tg (toD v) (wipeF fr vs) = some (tgF tg vs v fr) := by
  unfold tgF
  cases e : tg (toD v) (wipeF fr vs) with
  | none => rw [e] at h; cases h
  | some x => rfl
/-- a comprehension that only looks -/
theorem v_comp {hI : Iv} {l : List α} {p : α → Bool} {q : α → γ} (hi : VI fr hI l E fr) (hl : l.length ≤ 16777216) (ht : ∀ a, (tg (toD (E a)) (wipeF fr vs)).isSome = true) (hg : TgIn tg vs) (hc : ∀ a, VB (tgF tg vs (E a) fr) c (p a)) (he : ∀ a, p a = true → V (tgF tg vs (E a) fr) e (E2 (q a))) :
    V fr (eComp vs hI tg c e) (eL E2 ((l.filter p).map q)) := by
  have hw : ∀ a, wipeF (tgF tg vs (E a) fr) vs = wipeF fr vs := fun a => (hg _ _ _ (tgF_eq (ht a))).trans (wipeF_wipe fr vs)
  have h1 := restF_self fr vs
  have h2 : ∀ a, restF fr (tgF tg vs (E a) fr) vs = fr := fun a => (restF_wipe fr (hw a)).trans h1
  obtain ⟨fr2, e1, hfr⟩ := compL_v (fun a => tgF_eq (ht a)) hw hc he l fr rfl
  unfold V eComp
  rw [hi, Res.bind, if_pos (by rw [List.length_map]; exact Nat.le_trans hl (by decide)), e1]
  have : restF fr fr2 vs = fr := by
    rcases hfr with rfl | ⟨a, rfl⟩
    · exact h1
    · exact h2 a
  show Res.ok (D.lst _) (restF fr fr2 vs) = _
  rw [this, ← toDs_map]
  rfl
/-- .. without a test -/
theorem v_comp0 {hI : Iv} {l : List α} {q : α → γ} (hi : VI fr hI l E fr) (hl : l.length ≤ 16777216) (ht : ∀ a, (tg (toD (E a)) (wipeF fr vs)).isSome = true) (hg : TgIn tg vs) (he : ∀ a, V (tgF tg vs (E a) fr) e (E2 (q a))) :
    V fr (eComp vs hI tg bYes e) (eL E2 (l.map q)) := by
  have := v_comp (c := bYes) (p := fun _ => true) hi hl ht hg (fun _ => rfl) (fun a _ => he a)
  rw [List.filter_eq_self.mpr fun _ _ => rfl] at this
  exact this
/-- one turn -/
def turnF (c : Bv) (e : Ev) : Fr → Res Fr (Option D) := fun fr1 => (c fr1).bind fun b fr2 => if b = true then ((e fr2).bind fun y fr3 => if pers y = true then .ok (some y) fr3 else .bad) else .ok none fr2
theorem compL_turn (ds : List D) (d : D) (fr0 : Fr) : compL vs tg c e (d :: ds) fr0 = match tg d (wipeF fr0 vs) with
    | none => .bad
    | some fr1 => (turnF c e fr1).bind fun o fr3 => (compL vs tg c e ds fr3).bind fun r fr4 => .ok (match o with | some y => y :: r | none => r) fr4 := by
  show (match tg d (wipeF fr0 vs) with
      | none => Res.bad
      | some fr1 => (c fr1).bind fun b fr2 => if b = true then ((e fr2).bind fun y fr3 => if pers y = true then ((compL vs tg c e ds fr3).bind fun r fr4 => .ok (y :: r) fr4) else .bad) else compL vs tg c e ds fr2) = _
  cases tg d (wipeF fr0 vs) with
  | none => rfl
  | some fr1 =>
    unfold turnF
    dsimp only
    cases c fr1 with
    | bad => rfl
    | exc c fs s => rfl
    | ok b fr2 =>
      cases b with
      | false =>
        show compL vs tg c e ds fr2 = (compL vs tg c e ds fr2).bind fun r fr4 => .ok r fr4
        cases compL vs tg c e ds fr2 <;> rfl
      | true =>
        show ((e fr2).bind fun y fr3 => if pers y = true then ((compL vs tg c e ds fr3).bind fun r fr4 => .ok (y :: r) fr4) else .bad) = (((e fr2).bind fun y fr3 => if pers y = true then Res.ok (some y) fr3 else .bad)).bind _
        cases e fr2 with
        | bad => rfl
        | exc c fs s => rfl
        | ok y fr3 =>
          show (if pers y = true then ((compL vs tg c e ds fr3).bind fun r fr4 => .ok (y :: r) fr4) else .bad) = (if pers y = true then Res.ok (some y) fr3 else .bad).bind _
          split <;> rfl
/-- a comprehension with parts that may fail or do something; G: the frame ahead of each turn -/
theorem compL_x {G : σ → Fr} {fra : α → σ → Fr} {tb : α → σ → O (Option γ × σ)} (ht : ∀ a s, tg (toD (E a)) (wipeF (G s) vs) = some (fra a s))
    (hb : ∀ a s, Rf (turnF c e (fra a s)) (tb a s) (fun p o fr => o = p.1.map (fun y => toD (E2 y)) ∧ wipeF fr vs = wipeF (G p.2) vs) fun _ _ => True) :
    ∀ (l : List α) (s : σ) (fr0 : Fr), wipeF fr0 vs = wipeF (G s) vs → ∀ p, compT l s tb = .ok p → ∃ fr2, compL vs tg c e (l.map fun a => toD (E a)) fr0 = .ok (p.1.map fun y => toD (E2 y)) fr2 ∧ wipeF fr2 vs = wipeF (G p.2) vs
  | [], s, fr0, h0, p, hp => by cases hp; exact ⟨fr0, rfl, h0⟩
  | a :: l, s, fr0, h0, p, hp => by
    unfold compT at hp
    have h1 := hb a s
    cases hq : tb a s with
    | bad => rw [hq] at hp; cases hp
    | exc k fs st => rw [hq] at hp; cases hp
    | ok o =>
      rw [hq] at hp h1
      obtain ⟨o', fr3, e1, rfl, w1⟩ := h1
      have hp : ((compT l o.2 tb).bind fun q => O.ok ((match o.1 with | some y => y :: q.1 | none => q.1), q.2)) = .ok p := hp
      cases hr : compT l o.2 tb with
      | bad => rw [hr] at hp; cases hp
      | exc k fs st => rw [hr] at hp; cases hp
      | ok q =>
        rw [hr] at hp
        cases hp
        obtain ⟨fr2, e2, w2⟩ := compL_x ht hb l o.2 fr3 w1 q hr
        refine ⟨fr2, ?_, w2⟩
        rw [List.map_cons, compL_turn, h0, ht]
        dsimp only
        rw [e1, Res.bind, e2]
        obtain ⟨o, s2⟩ := o
        cases o <;> rfl
/-- a turn's parts -/
theorem t_v {p : Bool} {tb : O (Option γ × σ)} {K : Option γ × σ → Option D → Fr → Prop} {KE : List DV → Fr → Prop} (h : VB fr c p) (q : Rf ((e fr).bind fun y fr3 => if pers y = true then Res.ok (some y) fr3 else .bad) tb K KE) (r : Rf (Res.ok (σ := Fr) (none : Option D) fr) ta K KE) : Rf (turnF c e fr) (if p = true then tb else ta) K KE := by
  unfold turnF
  rw [h]
  cases p
  · exact r
  · exact q
theorem t_yes {tb : O (Option γ × σ)} {K : Option γ × σ → Option D → Fr → Prop} {KE : List DV → Fr → Prop} (q : Rf ((e fr).bind fun y fr3 => if pers y = true then Res.ok (some y) fr3 else .bad) tb K KE) : Rf (turnF bYes e fr) tb K KE := q
theorem t_x {tt : O (Bool × τ)} {G : τ → Fr} {ta tb : τ → O (Option γ × σ)} {K : Option γ × σ → Option D → Fr → Prop} {KE : List DV → Fr → Prop} (h : Rf (c fr) tt (KB G) KE) (q : ∀ x, Rf ((e (G x)).bind fun y fr3 => if pers y = true then Res.ok (some y) fr3 else .bad) (tb x) K KE) (r : ∀ x, Rf (Res.ok (σ := Fr) (none : Option D) (G x)) (ta x) K KE) : Rf (turnF c e fr) (tt.bind fun x => if x.1 = true then tb x.2 else ta x.2) K KE := by
  unfold turnF
  refine Rf.bind h fun p b fr1 hp => ?_
  obtain ⟨rfl, rfl⟩ := hp
  obtain ⟨b, x⟩ := p
  cases b
  · exact r x
  · exact q x
theorem k_turn {y : γ} {s : σ} {K : Option γ × σ → Option D → Fr → Prop} {KE : List DV → Fr → Prop} (q : K (some y, s) (some (toD (E2 y))) fr) : Rf ((fun y fr3 => if pers y = true then Res.ok (some y) fr3 else .bad : D → Fr → Res Fr (Option D)) (toD (E2 y)) fr) (.ok (some y, s)) K KE := by
  show Rf (if pers (toD (E2 y)) = true then Res.ok (some (toD (E2 y))) fr else .bad) _ _ _
  rw [if_pos (pers_toD _)]
  exact ⟨_, _, rfl, q⟩
end
end
end KT
namespace KT
open PySem KS
abbrev KD {α : Type} (E : α → DV) (os : α → List (Nat × DV)) : α → Fl → Fr → Prop := fun a fl fr => (fl = .ret (toD (E a)) ∨ (fl = .nx ∧ E a = .non)) ∧ ∀ p ∈ os a, fr[p.1]? = some (some (toD p.2))
abbrev KDE (ox : List DV → List (Nat × DV)) : List DV → Fr → Prop := fun st fr => ∀ p ∈ ox st, fr[p.1]? = some (some (toD p.2))
theorem outs_at {k : Nat} {fr : Fr} {i : Nat} {d : D} (hi : i < k) (h : fr[i]? = some (some d)) : (outsOf k fr)[i]? = some d := by
  unfold outsOf
  rw [List.getElem?_map, List.getElem?_range hi, Option.map_some, h]
  rfl
theorem outs_len {k : Nat} {fr : Fr} : (outsOf k fr).length = k := by simp [outsOf]
theorem fn_rf {α : Type} {E : α → DV} {os : α → List (Nat × DV)} {ox : List DV → List (Nat × DV)} {k n : Nat} {g : Sv} {ds : List D} {t : O α} (hos : ∀ a, ∀ p ∈ os a, p.1 < k) (hox : ∀ a, ∀ p ∈ ox a, p.1 < k) (h : Rf (g (startF n ds)) t (KD E os) (KDE ox)) :
    Rf (runFn k n g ds) t (KF E k os) (KX k ox) := by
  unfold runFn
  cases t with
  | bad => exact ⟨trivial⟩
  | ok a =>
    obtain ⟨fl, fr, e, hfl, ho⟩ := h
    rw [e]
    rcases hfl with rfl | ⟨rfl, hE⟩
    · exact ⟨_, _, rfl, rfl, outs_len, fun p hp => outs_at (hos a p hp) (ho p hp)⟩
    · exact ⟨_, _, rfl, (show D.non = toD (E a) by rw [hE]; rfl), outs_len, fun p hp => outs_at (hos a p hp) (ho p hp)⟩
  | exc c fs st =>
    obtain ⟨fr, e, ho⟩ := h
    rw [e]
    exact ⟨_, rfl, outs_len, fun p hp => outs_at (hox st p hp) (ho p hp)⟩
/-- nothing is handed in -/
abbrev os0 {α : Type} : α → List (Nat × DV) := fun _ => []
theorem fn_rf0 {α : Type} {E : α → DV} {k n : Nat} {g : Sv} {ds : List D} {t : O α} {fr0 : Fr} (h0 : startF n ds = fr0) (h : Rf (g fr0) t (KD E os0) (KDE os0)) : Rf (runFn k n g ds) t (KF E k os0) (KX k os0) :=
  fn_rf (fun _ _ h => by cases h) (fun _ _ h => by cases h) (by rw [h0]; exact h)
theorem kd_ret {α : Type} {E : α → DV} {a : α} {v : DV} {fr : Fr} (h : v = E a) : KD E os0 a (.ret (toD v)) fr := ⟨.inl (by rw [h]), fun _ h => by cases h⟩
theorem kde0 {st : List DV} {fr : Fr} : KDE os0 st fr := fun _ h => by cases h
/-- one object handed in, at place i -/
abbrev os1 {α : Type} (i : Nat) (f : α → DV) : α → List (Nat × DV) := fun a => [(i, f a)]
theorem kd_ret1 {α : Type} {E : α → DV} {i : Nat} {f : α → DV} {a : α} {v : DV} {fr : Fr} (h : v = E a) (hf : fr[i]? = some (some (toD (f a)))) : KD E (os1 i f) a (.ret (toD v)) fr := ⟨.inl (by rw [h]), fun p hp => by
  rw [List.mem_singleton.mp hp]; exact hf⟩
theorem kd_nx1 {α : Type} {E : α → DV} {i : Nat} {f : α → DV} {a : α} {fr : Fr} (h : E a = .non) (hf : fr[i]? = some (some (toD (f a)))) : KD E (os1 i f) a .nx fr := ⟨.inr ⟨rfl, h⟩, fun p hp => by
  rw [List.mem_singleton.mp hp]; exact hf⟩
theorem fn_rf1e {α : Type} {E : α → DV} {i : Nat} {f : α → DV} {k n : Nat} {g : Sv} {ds : List D} {t : O α} {fr0 : Fr} (hi : i < k) (h0 : startF n ds = fr0) (h : Rf (g fr0) t (KD E (os1 i f)) (KDE os0)) : Rf (runFn k n g ds) t (KF E k (os1 i f)) (KX k os0) :=
  fn_rf (fun _ p h => by rw [List.mem_singleton.mp h]; exact hi) (fun _ _ h => by cases h) (by rw [h0]; exact h)
section
variable {β δ : Type} {K : β → δ → Fr → Prop} {KE : List DV → Fr → Prop} {fr fr1 : Fr} {t : O β} {e f g : Ev} {k : D → Fr → Res Fr δ} {v w z r c c' : DV}
def kMut (i : Nat) (pz : Bool) (F : Mu) (k : D → Fr → Res Fr δ) : List D → Fr → Res Fr δ := fun ys fr1 => (match fr1[i]? with
    | some (some c) => if isCell c = true then (if (pz = true → ys.all pers = true) then (match pick fr1 ys with
      | some bs => match F c bs with
        | some (r, c') => Res.ok r (fr1.set i (some c'))
        | none => Res.bad
      | none => Res.bad) else Res.bad) else Res.bad
    | _ => Res.bad).bind k
theorem x_mut {i : Nat} {kd : D → Bool} {pz : Bool} {F : Mu} {es : Av} (h : fr[i]? = some (some (toD c))) (hk : kd (toD c) = true) (q : Rf ((es fr).bind (kMut i pz F k)) t K KE) : Rf ((eMut i kd pz F es fr).bind k) t K KE := by
  unfold eMut
  rw [h]
  dsimp only
  rw [if_pos hk]
  cases h2 : es fr with
  | ok x fr1 => rw [h2] at q; exact q
  | exc c fs fr1 => rw [h2] at q; exact q
  | bad => rw [h2] at q; exact q
theorem pick_vals (fr : Fr) : ∀ vs : List DV, pick fr (toDs vs) = some (toDs vs)
  | [] => rfl
  | v :: vs => by
    show (match look fr (toD v), pick fr (toDs vs) with | some a, some as => some (a :: as) | _, _ => none) = _
    rw [look_toD, pick_vals fr vs]; rfl
theorem k_mut {i : Nat} {pz : Bool} {F : Mu} {vs : List DV} (h : fr[i]? = some (some (toD c))) (hc : isCell (toD c) = true) {fr' : Fr} (hF : F (toD c) (toDs vs) = some (toD r, toD c')) (hf : fr.set i (some (toD c')) = fr') (q : Rf (k (toD r) fr') t K KE) : Rf (kMut i pz F k (toDs vs) fr) t K KE := by
  unfold kMut
  rw [h]
  dsimp only
  rw [if_pos hc, if_pos fun _ => all_pers_toDs vs, pick_vals]
  dsimp only
  rw [hF]
  subst hf
  exact q
variable {α : Type} {E : α → DV}
def appC {α : Type} (l : List α) : Prop := l.length < 16777216
instance {α : Type} (l : List α) : Decidable (appC l) := by unfold appC; infer_instance
theorem m_app {l : List α} {a : α} (h : appC l) : appM (toD (eL E l)) (toDs [E a]) = some (toD .non, toD (eL E (l ++ [a]))) := by
  show (if (toDs (l.map E)).length < sizeLine then some (D.non, D.lst (toDs (l.map E) ++ [toD (E a)])) else none) = _
  rw [toDs_length, List.length_map, if_pos (show l.length < sizeLine from h)]
  show some (D.non, D.lst (toDs (l.map E) ++ toDs [E a])) = some (D.non, D.lst (toDs ((l ++ [a]).map E)))
  rw [List.map_append, toDs_append]; rfl
theorem toDs_dropLast (l : List DV) : (toDs l).dropLast = toDs l.dropLast := by rw [toDs_eq, toDs_eq, List.map_dropLast]
theorem m_pop {l : List α} {a : α} (h : l.getLast? = some a) : popM (toD (eL E l)) (toDs []) = some (toD (E a), toD (eL E l.dropLast)) := by
  show (match (toDs (l.map E))[(toDs (l.map E)).length - 1]? with | some d => some (d, D.lst (toDs (l.map E)).dropLast) | none => none) = _
  rw [← List.getLast?_eq_getElem?, toDs_eq, List.getLast?_map, List.getLast?_map, h, ← toDs_eq, toDs_dropLast, ← List.map_dropLast]; rfl
theorem m_rev {l : List α} : revM (toD (eL E l)) (toDs []) = some (toD .non, toD (eL E l.reverse)) := by
  show some (D.non, D.lst (toDs (l.map E)).reverse) = _
  rw [toDs_eq, ← List.map_reverse, ← List.map_reverse, ← toDs_eq]; rfl
end
section
variable {α : Type} {f : α → DV}
abbrev eDP {α : Type} (f : α → DV) : List (PP × α) → DV := fun l => .dct (.bl true :: l.map fun p => .tup [.int p.1.1, .int p.1.2]) (l.map fun p => f p.2)
theorem v_cD {α : Type} {f : α → DV} {fr : Fr} : V fr (eC (dTm [])) (eDP f []) := rfl
def td (f : α → DV) (l : List (PP × α)) : TD := l.map fun p => (kP p.1, toD (f p.2))
theorem toD_eDP (l : List (PP × α)) : toD (eDP f l) = dTm (td f l) := by
  show D.dct (.bl true :: toDs (l.map fun p => .tup [.int p.1.1, .int p.1.2])) (toDs (l.map fun p => f p.2)) = D.dct (.bl true :: (td f l).map fun p => .tup (p.1.map kD)) ((td f l).map (·.2))
  rw [toDs_map, toDs_map]
  unfold td
  rw [List.map_map, List.map_map]
  rfl
theorem zip_td : ∀ l : List (PP × α), zipT ((td f l).map fun p => .tup (p.1.map kD)) ((td f l).map (·.2)) = some (td f l)
  | [] => rfl
  | p :: l => by
    show (match (some (kP p.1) : Option (List L2.Key)), zipT ((td f l).map fun p => .tup (p.1.map kD)) ((td f l).map (·.2)) with | some k, some r => some ((k, toD (f p.2)) :: r) | _, _ => none) = _
    rw [zip_td l]; rfl
theorem unT_td (l : List (PP × α)) : unT (toD (eDP f l)) = some (td f l) := by
  rw [toD_eDP]
  exact zip_td l
theorem kP_inj {p q : PP} : kP p = kP q ↔ p = q := by
  unfold kP
  simp [Prod.ext_iff]
def hasT {α : Type} (l : List (PP × α)) (k : PP) : Bool := l.any fun p => decide (p.1 = k)
def putT {α : Type} (l : List (PP × α)) (k : PP) (a : α) : List (PP × α) := if hasT l k = true then l.map (fun p => if p.1 = k then (p.1, a) else p) else l ++ [(k, a)]
def delT {α : Type} (l : List (PP × α)) (k : PP) : List (PP × α) := l.filter fun p => decide (p.1 ≠ k)
def getT {α : Type} (l : List (PP × α)) (k : PP) : Option α := (l.find? fun p => decide (p.1 = k)).map (·.2)
theorem any_td (l : List (PP × α)) (k : PP) : ((td f l).any fun kv => decide (kv.1 = kP k)) = hasT l k := by
  unfold td hasT
  rw [List.any_map]
  congr 1
  funext p
  show decide (kP p.1 = kP k) = _
  simp only [kP_inj]
theorem put_td (l : List (PP × α)) (k : PP) (a : α) : putK' (td f l) (kP k) (toD (f a)) = td f (putT l k a) := by
  unfold putK' putT
  rw [any_td]
  split
  · unfold td
    rw [List.map_map, List.map_map]
    congr 1
    funext p
    show (if kP p.1 = kP k then (kP p.1, toD (f a)) else (kP p.1, toD (f p.2))) = _
    simp only [kP_inj, Function.comp]
    split <;> rfl
  · unfold td
    rw [List.map_append]; rfl
theorem del_td (l : List (PP × α)) (k : PP) : dropK' (td f l) (kP k) = td f (delT l k) := by
  unfold dropK' delT td
  rw [List.filter_map]
  congr 1
  congr 1
  funext p
  show decide (kP p.1 ≠ kP k) = _
  simp only [ne_eq, kP_inj]
theorem find_td : ∀ (l : List (PP × α)) (k : PP), valV' (td f l) (kP k) = (getT l k).map fun a => toD (f a)
  | [], k => rfl
  | p :: l, k => by
    have ih := find_td l k
    unfold valV' getT at ih ⊢
    show (((kP p.1, toD (f p.2)) :: td f l).find? fun kv => decide (kv.1 = kP k)).map (·.2) = _
    rw [List.find?_cons, List.find?_cons]
    dsimp only
    have : decide (kP p.1 = kP k) = decide (p.1 = k) := by simp only [kP_inj]
    rw [this]
    cases decide (p.1 = k)
    · exact ih
    · rfl
theorem get_isSome (l : List (PP × α)) (k : PP) : (getT l k).isSome = hasT l k := by
  unfold getT hasT
  rw [Option.isSome_map, Bool.eq_iff_iff, List.find?_isSome, List.any_eq_true]
variable {β δ : Type} {K : β → δ → Fr → Prop} {KE : List DV → Fr → Prop} {fr : Fr} {t : O β} {e : Ev} {k : D → Fr → Res Fr δ}
theorem td_len (l : List (PP × α)) : (td f l).length = l.length := by simp [td]
theorem v_din {i : Nat} {es : Av} {l : List (PP × α)} {x y : Int} (h : fr[i]? = some (some (toD (eDP f l)))) (hk : VA fr es [.int x, .int y]) : V fr (eDin i es) (.bl (hasT l (x, y))) := by
  unfold V eDin
  rw [hk]
  show (match fr[i]? with
    | some (some c) => match toKeys [D.int x, D.int y], unT c with
      | some k, some kvs => if 2 ≤ sizeLine then Res.ok (D.bl (valV' kvs k).isSome) fr else Res.bad
      | _, _ => Res.bad
    | _ => Res.bad) = _
  rw [h]
  dsimp only
  rw [unT_td, show toKeys [D.int x, D.int y] = some (kP (x, y)) from rfl]
  dsimp only
  rw [if_pos (by decide), find_td, Option.isSome_map, get_isSome]
  rfl
theorem s_dput {K : β → Fl → Fr → Prop} {i : Nat} {es : Av} {b : Sv} {l : List (PP × α)} {x y : Int} {a : α} (h : fr[i]? = some (some (toD (eDP f l)))) (hv : V fr e (f a)) (hk : VA fr es [.int x, .int y]) (hl : appC l) (q : Rf (b (fr.set i (some (toD (eDP f (putT l (x, y) a)))))) t K KE) : Rf (sSeq (sDput i es e) b fr) t K KE := by
  unfold sSeq sDput
  rw [hv, Res.bind, if_pos (pers_toD _), h]
  dsimp only
  rw [if_pos (show isDctD (toD (eDP f l)) = true from rfl), hk]
  show Rf ((match fr[i]? with
    | some (some c) => match toKeys [D.int x, D.int y], unT c with
      | some k, some kvs => if kvs.length < sizeLine ∧ 2 ≤ sizeLine then Res.ok Fl.nx (fr.set i (some (dTm (putK' kvs k (toD (f a)))))) else .bad
      | _, _ => .bad
    | _ => .bad).bind _) t K KE
  rw [h]
  dsimp only
  rw [unT_td, show toKeys [D.int x, D.int y] = some (kP (x, y)) from rfl]
  dsimp only
  rw [if_pos ⟨by rw [td_len]; exact hl, by decide⟩, put_td, ← toD_eDP]
  exact q
theorem x_dpop {i : Nat} {es : Av} {l : List (PP × α)} {x y : Int} {a : α} (h : fr[i]? = some (some (toD (eDP f l)))) (hk : VA fr es [.int x, .int y]) {fr' : Fr} (ha : getT l (x, y) = some a) (hf : fr.set i (some (toD (eDP f (delT l (x, y))))) = fr') (q : Rf (k (toD (f a)) fr') t K KE) : Rf ((eDpop i es fr).bind k) t K KE := by
  unfold eDpop
  rw [h]
  dsimp only
  rw [if_pos (show isDctD (toD (eDP f l)) = true from rfl), hk]
  show Rf ((match fr[i]? with
    | some (some c) => match toKeys [D.int x, D.int y], unT c with
      | some k, some kvs => if 2 ≤ sizeLine then (match valV' kvs k with
        | some d => Res.ok d (fr.set i (some (dTm (dropK' kvs k))))
        | none => .bad) else .bad
      | _, _ => .bad
    | _ => .bad).bind k) t K KE
  rw [h]
  dsimp only
  rw [unT_td, show toKeys [D.int x, D.int y] = some (kP (x, y)) from rfl]
  dsimp only
  rw [if_pos (by decide), find_td, ha, del_td, ← toD_eDP]
  subst hf
  exact q
theorem pps_td : ∀ l : List (PP × α), toPPs ((td f l).map (·.1)) = some (l.map (·.1))
  | [] => rfl
  | p :: l => by
    show (match (some p.1 : Option PP), toPPs ((td f l).map (·.1)) with | some p, some r => some (p :: r) | _, _ => none) = _
    rw [pps_td l]; rfl
theorem v_sortD {i : Nat} {l : List (PP × α)} (h : fr[i]? = some (some (toD (eDP f l)))) : V fr (eSortD i) (eL (eP2 eI eI) ((l.map (·.1)).mergeSort leP)) := by
  unfold V eSortD
  rw [h]
  dsimp only
  rw [unT_td]
  dsimp only
  rw [pps_td]
  show Res.ok (D.lst _) fr = Res.ok (D.lst (toDs _)) fr
  rw [toDs_map]
  rfl
end
end KT
namespace KT
open PySem KS
section
variable {β δ : Type} {K : β → δ → Fr → Prop} {KE : List DV → Fr → Prop} {fr fr1 : Fr} {t : O β} {e f g : Ev} {k : D → Fr → Res Fr δ} {v w z r c c' : DV}
theorem x_plv {i : Nat} {ka : D → Fr → Res Fr δ} (h : fr[i]? = some (some (toD v))) (hc : isCell (toD v) = true) (q : Rf (ka (.var i) fr) t K KE) : Rf ((ePl i fr).bind ka) t K KE := by
  have : ePl i fr = .ok (.var i) fr := by
    unfold ePl
    rw [h]
    dsimp only
    rw [if_pos hc]
  rw [this]; exact q
theorem x_fz {i : Nat} (h : fr[i]? = some (some (toD v))) {fr' : Fr} (hc : isCell (toD v) = true) (hf : fr.set i (some (.tup [toD v])) = fr') (q : Rf (k (toD v) fr') t K KE) : Rf ((eFz i fr).bind k) t K KE := by
  subst hf
  have : eFz i fr = .ok (toD v) (fr.set i (some (.tup [toD v]))) := by
    unfold eFz
    rw [h]
    dsimp only
    rw [if_pos hc]
  rw [this]; exact q
theorem argC_mid {fr : Fr} {i : Nat} {v : DV} (hi : fr[i]? = some (some (toD v))) (hc : isCell (toD v) = true) (vs2 : List DV) : ∀ vs1 : List DV, argC fr (falses vs1.length ++ true :: falses vs2.length) (toDs vs1 ++ .var i :: toDs vs2) = some (toDs (vs1 ++ v :: vs2))
  | [] => argC_io hi hc (argC_vals vs2)
  | u :: vs1 => argC_v (argC_mid hi hc vs2 vs1)
theorem ioV_mid {i : Nat} (vs2 : List DV) : ∀ vs1 : List DV, ioV (falses vs1.length ++ true :: falses vs2.length) (toDs vs1 ++ .var i :: toDs vs2) = [i]
  | [] => by
    show i :: ioV (falses vs2.length) (toDs vs2) = _
    rw [ioV_vals]
  | u :: vs1 => by
    have := ioV_mid (i := i) vs2 vs1
    cases u <;> exact this
theorem ioP_mid {i : Nat} {o : D} (vs2 : List DV) : ∀ (vs1 : List DV) (outs : List D), outs[vs1.length]? = some o → ioP (falses vs1.length ++ true :: falses vs2.length) (toDs vs1 ++ .var i :: toDs vs2) outs = [(i, o)]
  | [], [], h => by cases h
  | [], o' :: os, h => by
    cases h
    show (i, o) :: ioP (falses vs2.length) (toDs vs2) os = _
    rw [ioP_vals]
  | u :: vs1, [], h => by cases h
  | u :: vs1, o' :: os, h => by
    have := ioP_mid (i := i) vs2 vs1 os (by simpa using h)
    cases u <;> exact this
/-- a call with one object handed in, that does not raise -/
theorem k_call1 {α : Type} {F : Fn} {vs1 vs2 : List DV} {ds : List D} {E f : α → DV} {ta : O α} {a : α} {ms : List Bool} {n p i : Nat} {ox : List DV → List (Nat × DV)} (hF : Rf (F (toDs (vs1 ++ v :: vs2))) ta (KF E n (os1 p f)) (KX n ox)) (ha : ta = .ok a)
    (hi : fr[i]? = some (some (toD v))) (hc : isCell (toD v) = true) (hp : p = vs1.length) (hn : n = ms.length) (hms : ms = falses vs1.length ++ true :: falses vs2.length) (hds : ds = toDs vs1 ++ .var i :: toDs vs2)
    {fr' : Fr} (hfr : fr.set i (some (toD (f a))) = fr') (q : Rf (k (toD (E a)) fr') t K KE) : Rf (kCall ms F k ds fr) t K KE := by
  subst ha hfr
  obtain ⟨d, outs, e, rfl, hl, ho⟩ := hF
  have ho := ho (p, f a) (List.mem_singleton.mpr rfl)
  dsimp only at ho
  subst hp
  subst hds
  unfold kCall
  rw [hms, argC_mid hi hc]
  dsimp only
  rw [if_pos (by rw [ioV_mid]; simp), e]
  dsimp only
  rw [if_pos (by rw [hl, hn, hms]), ioP_mid vs2 vs1 outs ho]
  exact q
theorem k_cv (h : v = w) (q : Rf (k (toD w) fr) t K KE) : Rf (k (toD v) fr) t K KE := by subst h; exact q
theorem v_attr {cs : List Nat} {n c : Nat} {ns : List Nat} {fs : List DV} (h : L fr f (.obj c ns fs)) (hc : decide (c ∈ cs) = true) (hi : idx n ns (toDs fs) = some (toD z)) : V fr (eAttr cs n f) z := v_op1 h (by
  show (if c ∈ cs then idx n ns (toDs fs) else none) = _
  rw [if_pos (of_decide_eq_true hc)]; exact hi)
def Dec {α : Type} (d : DV → Option α) (E : α → DV) : Prop := ∀ v a, d v = some a → v = E a
theorem v_dec {α : Type} {d : DV → Option α} {E : α → DV} {a : α} (D : Dec d E) (h : d v = some a) (q : V fr e v) : V fr e (E a) := by rw [← D v a h]; exact q
def asI : DV → Option Int
  | .int i => some i
  | _ => none
theorem asI_of : Dec asI eI := fun v a h => by cases v <;> first | (cases h; rfl) | cases h
theorem asY_of : Dec some eY := fun v a h => by cases h; rfl
def decs {α : Type} (d : DV → Option α) : List DV → Option (List α)
  | [] => some []
  | v :: vs => match d v, decs d vs with
    | some a, some l => some (a :: l)
    | _, _ => none
theorem decs_of {α : Type} {d : DV → Option α} {E : α → DV} (D : Dec d E) : ∀ (vs : List DV) (l : List α), decs d vs = some l → vs = l.map E
  | [], l, h => by cases h; rfl
  | v :: vs, l, h => by
    unfold decs at h
    split at h
    · next a m e1 e2 => cases h; rw [D v a e1, decs_of D vs m e2]; rfl
    · cases h
def asT {α : Type} (d : DV → Option α) : DV → Option (List α)
  | .tup vs => decs d vs
  | _ => none
theorem asT_of {α : Type} {d : DV → Option α} {E : α → DV} (D : Dec d E) : Dec (asT d) (eT E) := fun v a h => by
  cases v with
  | tup vs => show DV.tup vs = .tup (a.map E); rw [← decs_of D vs a h]
  | _ => cases h
def asP2 {α β : Type} (d : DV → Option α) (d2 : DV → Option β) : DV → Option (α × β)
  | .tup [v, w] => match d v, d2 w with
    | some a, some b => some (a, b)
    | _, _ => none
  | _ => none
theorem asP2_of {α β : Type} {d : DV → Option α} {E : α → DV} {d2 : DV → Option β} {E2 : β → DV} (D : Dec d E) (D2 : Dec d2 E2) : Dec (asP2 d d2) (eP2 E E2) := fun v a h => by
  unfold asP2 at h
  split at h
  · split at h
    · next e1 e2 => cases h; rw [D _ _ e1, D2 _ _ e2]
    · cases h
  · cases h
def ixY : DV → Int → Option DV
  | .tup vs, i => L2.atI vs i
  | .lst vs, i => L2.atI vs i
  | _, _ => none
theorem f_ixY {i : Int} (h : ixY v i = some z) : F2 ixF v (.int i) z := by
  cases v with
  | tup vs => show L2.atI (toDs vs) i = _; rw [toDs_eq, atI_m, show L2.atI vs i = some z from h]; rfl
  | lst vs => show L2.atI (toDs vs) i = _; rw [toDs_eq, atI_m, show L2.atI vs i = some z from h]; rfl
  | _ => cases h
def lenY : DV → Option Int
  | .tup vs => some vs.length
  | .lst vs => some vs.length
  | .str x => if x.length ≤ 16777216 then some x.length else none
  | _ => none
theorem f_lenY {i : Int} (h : lenY v = some i) : F1 lenF v (.int i) := by
  cases v with
  | tup vs => cases h; show some (D.int (toDs vs).length) = _; rw [toDs_length]; rfl
  | lst vs => cases h; show some (D.int (toDs vs).length) = _; rw [toDs_length]; rfl
  | str x =>
    unfold lenY at h
    dsimp only at h
    split at h
    · next c => cases h; exact f_lenX c
    · cases h
  | _ => cases h
def seqY : DV → Option (List DV)
  | .tup vs => some vs
  | .lst vs => some vs
  | _ => none
theorem vi_enY {vs : List DV} (h : seqY v = some vs) (q : V fr e v) : VI fr (iEn e) (enumT vs) (eP2 eI eY) fr := by
  cases v with
  | tup l => cases h; exact vi_enT (l := vs) (e := eY) (by show V fr e (.tup (vs.map fun v => v)); rw [List.map_id' ]; exact q)
  | lst l => cases h; exact vi_enL (l := vs) (e := eY) (by show V fr e (.lst (vs.map fun v => v)); rw [List.map_id' ]; exact q)
  | _ => cases h
def walkY : DV → Option (List DV)
  | .tup vs => some vs
  | .lst vs => some vs
  | .str x => some ((chars x).map fun d => match d with
    | .str y => DV.str y
    | _ => .non)
  | _ => none
theorem vi_Y {vs : List DV} (h : walkY v = some vs) (q : V fr e v) : VI fr (iVal e) vs eY fr := by
  cases v with
  | tup l => cases h; exact vi_T (l := vs) (e := eY) (by show V fr e (.tup (vs.map fun v => v)); rw [List.map_id' ]; exact q)
  | lst l => cases h; exact vi_L (l := vs) (e := eY) (by show V fr e (.lst (vs.map fun v => v)); rw [List.map_id' ]; exact q)
  | str x =>
    cases h
    unfold VI iVal
    rw [q, Res.bind, if_pos (pers_toD _)]
    show Res.ok (chars x) fr = _
    rw [List.map_map]
    unfold chars
    rw [List.map_map]
    rfl
  | _ => cases h
def tupY : DV → Option DV
  | .tup vs => some (.tup vs)
  | .lst vs => some (.tup vs)
  | _ => none
theorem f_tupY (h : tupY v = some w) : F1 tupF v w := by
  cases v <;> first | (cases h; rfl) | cases h
def tyY : DV → Option Tn
  | .non => some .non
  | .bl _ => some .bl
  | .int _ => some .int
  | .str _ => some .str
  | .tup _ => some .tup
  | .lst _ => some .lst
  | .scr _ => some .lst
  | .dct _ _ => some .dct
  | _ => none
theorem tyI_toD : tyI (toD v) = tyY v := by cases v <;> rfl
def isiY (u : Tn) (v : DV) : Option Bool := (tyY v).map fun t => isT t u
def isiYs (us : List Tn) (v : DV) : Option Bool := (tyY v).map fun t => isAny t us
theorem f_isi {u : Tn} {b : Bool} (h : isiY u v = some b) : F1 (isiF u) v (.bl b) := by
  unfold F1 isiF
  rw [tyI_toD]
  unfold isiY at h
  cases ht : tyY v with
  | none => rw [ht] at h; cases h
  | some t => rw [ht] at h; cases h; rfl
theorem f_isiT {us : List Tn} {b : Bool} (h : isiYs us v = some b) : F1 (isiTF us) v (.bl b) := by
  unfold F1 isiTF
  rw [tyI_toD]
  unfold isiYs at h
  cases ht : tyY v with
  | none => rw [ht] at h; cases h
  | some t => rw [ht] at h; cases h; rfl
theorem x_andV {a : Bool} {tb : O Bool} {F : Bool → Fr} (h : V fr f (.bl a)) (q : a = true → Rf (g fr) tb (KV eB F) KE) (hF : F false = fr := by rfl) : Rf (eAnd f g fr) (if a = true then tb else .ok false) (KV eB F) KE := by
  unfold eAnd
  rw [h]
  cases a
  · exact ⟨_, _, rfl, rfl, hF.symm⟩
  · exact q rfl
theorem v_make {α : Type} {F : Fn} {c n : Nat} {vs : List DV} {E f : α → DV} {ta : O α} {a : α} {es : Av} {ox : List DV → List (Nat × DV)} (hF : Rf (F (toDs (.obj c [] [] :: vs))) ta (KF E n (os1 0 f)) (KX n ox)) (ha : ta = .ok a) (h : VA fr es vs) (hE : E a = .non := by rfl) : V fr (eMake c F es) (f a) := by
  subst ha
  obtain ⟨d, outs, e, rfl, hl, ho⟩ := hF
  have ho := ho (0, f a) (List.mem_singleton.mpr rfl)
  unfold V eMake
  rw [h, Res.bind, if_pos (all_pers_toDs vs)]
  show (match F (toDs (.obj c [] [] :: vs)) with
    | .ok .non (o :: _) => Res.ok o fr
    | .exc k fs _ => .exc k fs fr
    | _ => .bad) = _
  rw [e, hE]
  cases outs with
  | nil => cases ho
  | cons o os => cases ho; rfl
def kFld (i n : Nat) (cs : List Nat) (b : Sv) : D → Fr → Res Fr Fl := fun d fr1 => (if pers d = true then (match fr1[i]? with
  | some (some (.obj c ns fs)) => if c ∈ cs then (if ns.length < 1000 then Res.ok Fl.nx (fr1.set i (some (.obj c (putN n d ns fs).1 (putN n d ns fs).2))) else .bad) else .bad
  | _ => .bad) else .bad).bind (kQ b)
theorem s_fldX {β : Type} {t : O β} {K : β → Fl → Fr → Prop} {i n : Nat} {cs : List Nat} {b : Sv} (q : Rf ((f fr).bind (kFld i n cs b)) t K KE) : Rf (sSeq (sFldS i n cs f) b fr) t K KE := by
  unfold sSeq sFldS
  cases h2 : f fr with
  | ok x fr1 => rw [h2] at q; exact q
  | exc c fs fr1 => rw [h2] at q; exact q
  | bad => rw [h2] at q; exact q
theorem k_fldN {β α : Type} {K : β → Fl → Fr → Prop} {tk : α → O β} {E : α → DV} {a : α} {i n : Nat} {cs : List Nat} {b : Sv} {c : Nat} {ns ns' : List Nat} {fs : List DV} {fs' : α → List DV} (h : fr[i]? = some (some (toD (.obj c ns fs)))) (hc : decide (c ∈ cs) = true) (hn : decide (ns.length < 1000) = true) {fr' : α → Fr} (hp : ∀ a, putN n (toD (E a)) ns (toDs fs) = (ns', toDs (fs' a))) (hf : ∀ a, fr.set i (some (toD (.obj c ns' (fs' a)))) = fr' a) (q : ∀ a, Rf (b (fr' a)) (tk a) K KE) : Rf (kFld i n cs b (toD (E a)) fr) (O.lt a tk) K KE := by
  unfold kFld
  rw [if_pos (pers_toD _), h]
  show Rf ((if c ∈ cs then (if ns.length < 1000 then Res.ok Fl.nx (fr.set i (some (.obj c (putN n (toD (E a)) ns (toDs fs)).1 (putN n (toD (E a)) ns (toDs fs)).2))) else Res.bad) else Res.bad).bind _) _ K KE
  rw [if_pos (of_decide_eq_true hc), if_pos (of_decide_eq_true hn), hp]
  have := q a
  rw [← hf] at this
  exact this
theorem s_dputN {β α : Type} {f : α → DV} {K : β → Fl → Fr → Prop} {tk : List (PP × α) → O β} {i : Nat} {es : Av} {b : Sv} {l : List (PP × α)} {x y : Int} {a : α} (h : fr[i]? = some (some (toD (eDP f l)))) (hv : V fr e (f a)) (hk : VA fr es [.int x, .int y]) {fr' : List (PP × α) → Fr} (hl : appC l) (hf : ∀ m, fr.set i (some (toD (eDP f m))) = fr' m) (q : ∀ m, Rf (b (fr' m)) (tk m) K KE) : Rf (sSeq (sDput i es e) b fr) (O.lt (putT l (x, y) a) tk) K KE := s_dput h hv hk hl (by rw [hf]; exact q _)
theorem zip_vals {α β : Type} {e1 e2 : Ev} {E : α → DV} {E2 : β → DV} {l : List α} {m : List β} (h : (e1 fr = .ok (toD (eL E l)) fr ∧ e2 fr = .ok (toD (eL E2 m)) fr) ∨ (e1 fr = .ok (toD (eT E l)) fr ∧ e2 fr = .ok (toD (eT E2 m)) fr)) : VI fr (iZp e1 e2) (l.zip m) (eP2 E E2) fr := by
  unfold VI iZp
  rw [← zip_eq]
  rcases h with ⟨h1, h2⟩ | ⟨h1, h2⟩
  · rw [h1, Res.bind, if_pos (pers_toD _), h2, Res.bind, if_pos (pers_toD _)]
    show Res.ok (zipD (toDs (l.map E)) (toDs (m.map E2))) fr = _
    rw [toDs_m, toDs_m]
  · rw [h1, Res.bind, if_pos (pers_toD _), h2, Res.bind, if_pos (pers_toD _)]
    show Res.ok (zipD (toDs (l.map E)) (toDs (m.map E2))) fr = _
    rw [toDs_m, toDs_m]
theorem vi_zipTT {α β : Type} {e1 e2 : Ev} {E : α → DV} {E2 : β → DV} {l : List α} {m : List β} (h : V fr e1 (eT E l)) (h2 : V fr e2 (eT E2 m)) : VI fr (iZp e1 e2) (l.zip m) (eP2 E E2) fr := zip_vals (.inr ⟨h, h2⟩)
theorem wh_v {σ : Type} {u : Bv} {b : Bool} {F : σ → Fr} {s : σ} (h : VB (F s) u b) : Rf (u (F s)) (.ok b) (fun a b fr => b = a ∧ fr = F s) KE := ⟨_, _, h, rfl, rfl⟩
end
section
variable {β σ ρ : Type} {K : β → Fl → Fr → Prop} {KE : List DV → Fr → Prop} {fr fr1 : Fr} {t : O β} {b g : Sv} {e f : Ev}
def kFor (js : List Bool) (tg : Tv) (g b : Sv) : List D → Fr → Res Fr Fl := fun ds fr1 => (loopF tg (sK js g) ds (killF fr1 js)).bind (kQ b)
theorem s_forH {js : List Bool} {tg : Tv} {hI : Iv} (q : Rf ((hI fr).bind (kFor js tg g b)) t K KE) : Rf (sSeq (sFor (iK js hI) tg (sK js g)) b fr) t K KE := by
  unfold sSeq sFor iK
  cases h : hI fr with
  | ok x fr1 => rw [h] at q; exact q
  | exc c fs fr1 => rw [h] at q; exact q
  | bad => rw [h] at q; exact q
variable {α : Type} {E : α → DV} {F : σ → Fr} {G : α → σ → Fr} {tg : Tv} {js : List Bool}
theorem k_for {l : List α} {s0 : σ} {tb : α → σ → O σ} {tk : σ → O β} (h0 : killF fr js = F s0) (ht : ∀ a s, tg (toD (E a)) (F s) = some (G a s))
    (hb : ∀ a s, Rf (g (G a s)) (tb a s) (fun s fl fr => (fl = .nx ∨ fl = .cnt) ∧ killF fr js = F s) KE) (r : ∀ s, Rf (b (F s)) (tk s) K KE) : Rf (kFor js tg g b (l.map fun a => toD (E a)) fr) ((foldT l s0 tb).bind tk) K KE := by
  unfold kFor
  rw [h0]
  refine Rf.bind (fold_r ht hb l s0) fun s fl fr2 hs => ?_
  obtain ⟨rfl, rfl⟩ := hs
  exact r s
theorem k_loop {KR : ρ → Fl → Fr → Prop} {l : List α} {s0 : σ} {tb : α → σ → O (Fw ρ σ)} {tk : σ → O β} {tr : ρ → O β} (h0 : killF fr js = F s0) (ht : ∀ a s, tg (toD (E a)) (F s) = some (G a s))
    (hb : ∀ a s, Rf (g (G a s)) (tb a s) (fun w fl fr => match w with | .nx s => (fl = .nx ∨ fl = .cnt) ∧ killF fr js = F s | .brk s => fl = .brk ∧ killF fr js = F s | .ret r => (∃ d, fl = .ret d) ∧ KR r fl fr) KE) (r : ∀ s, Rf (b (F s)) (tk s) K KE)
    (hr : ∀ x d fr, KR x (.ret d) fr → Rf (Res.ok (Fl.ret d) fr) (tr x) K KE) : Rf (kFor js tg g b (l.map fun a => toD (E a)) fr) ((loopT l s0 tb).aft tk tr) K KE := by
  unfold kFor
  rw [h0]
  refine Rf.bind (loop_r ht hb l s0) fun w fl fr2 hs => ?_
  cases w with
  | nx s => obtain ⟨rfl, rfl⟩ := hs; exact r s
  | brk s => exact hs.elim
  | ret x => obtain ⟨⟨d, rfl⟩, z⟩ := hs; exact hr x d fr2 z
end
section
variable {β δ : Type} {K : β → δ → Fr → Prop} {KE : List DV → Fr → Prop} {fr fr1 : Fr} {t : O β} {e f g : Ev} {k : D → Fr → Res Fr δ} {kI : List D → Fr → Res Fr δ} {v w : DV}
theorem x_vi {α : Type} {E : α → DV} {hI : Iv} {l : List α} {fr' : Fr} (h : VI fr hI l E fr') (q : Rf (kI (l.map fun a => toD (E a)) fr') t K KE) : Rf ((hI fr).bind kI) t K KE := by rw [h]; exact q
def kRg1 (kI : List D → Fr → Res Fr δ) : D → Fr → Res Fr δ := fun d fr1 => (match look fr1 d with
  | some (.int j) => if okI j = true then Res.ok (rangeD 0 j.toNat) fr1 else .bad
  | _ => .bad).bind kI
theorem x_rg1 (q : Rf ((e fr).bind (kRg1 kI)) t K KE) : Rf ((iRg1 e fr).bind kI) t K KE := by
  unfold iRg1
  cases h : e fr with
  | ok x fr1 => rw [h] at q; exact q
  | exc c fs fr1 => rw [h] at q; exact q
  | bad => rw [h] at q; exact q
theorem k_rg1 {n : Int} (c : okR n) (q : Rf (kI ((rngT 0 n).map fun a => toD (eI a)) fr) t K KE) : Rf (kRg1 kI (toD (.int n)) fr) t K KE := by
  have : kRg1 kI (toD (.int n)) fr = kI ((rngT 0 n).map fun a => toD (eI a)) fr := by
    rw [← rangeD_eq]
    show ((if okI n = true then Res.ok (rangeD 0 n.toNat) fr else Res.bad).bind kI) = _
    rw [if_pos (okI_of c), Int.sub_zero]; rfl
  rw [this]; exact q
def kComp (vs : List Nat) (tg : Tv) (c : Bv) (e : Ev) (k : D → Fr → Res Fr δ) : List D → Fr → Res Fr δ := fun ds fr1 => (if ds.length ≤ sizeLine then (match compL vs tg c e ds fr1 with
  | .ok r fr2 => Res.ok (D.lst r) (restF fr1 fr2 vs)
  | _ => Res.bad) else Res.bad).bind k
theorem x_compH {vs : List Nat} {tg : Tv} {c : Bv} {hI : Iv} (q : Rf ((hI fr).bind (kComp vs tg c e k)) t K KE) : Rf ((eComp vs hI tg c e fr).bind k) t K KE := by
  unfold eComp
  cases h : hI fr with
  | ok x fr1 => rw [h] at q; exact q
  | exc c fs fr1 => rw [h] at q; exact q
  | bad => rw [h] at q; exact q
theorem k_comp {σ α γ : Type} {E : α → DV} {E2 : γ → DV} {vs : List Nat} {tg : Tv} {c : Bv} {t : List γ × σ → O β} {l : List α} {s0 : σ} {G : σ → Fr} {tb : α → σ → O (Option γ × σ)} (hl : l.length ≤ 16777216) (h0 : fr = G s0) (ht : ∀ a s, (tg (toD (E a)) (wipeF (G s) vs)).isSome = true)
    (hb : ∀ a s, Rf (turnF c e (tgF tg vs (E a) (G s))) (tb a s) (fun p o fr => o = p.1.map (fun y => toD (E2 y)) ∧ wipeF fr vs = wipeF (G p.2) vs) fun _ _ => True) (hG : ∀ s, restF (G s0) (G s) vs = G s)
    (q : ∀ p, Rf (k (toD (eL E2 p.1)) (G p.2)) (t p) K KE) : Rf (kComp vs tg c e k (l.map fun a => toD (E a)) fr) ((compT l s0 tb).no.bind t) K KE := by
  subst h0
  refine Rf.no fun p hp => ?_
  obtain ⟨fr2, e1, w⟩ := compL_x (fun a s => tgF_eq (ht a s)) hb l s0 (G s0) rfl p hp
  unfold kComp
  rw [if_pos (by rw [List.length_map]; exact Nat.le_trans hl (by decide)), e1]
  show Rf ((Res.ok (D.lst _) (restF (G s0) fr2 vs)).bind k) _ _ _
  rw [restF_wipe (G s0) w, hG, ← toDs_map]
  exact q p
def leYo (v w : DV) : Option Bool := match leA (toD v) (toD w) with
  | some (.bl b) => some b
  | _ => none
theorem f_leY {v w : DV} {b : Bool} (h : leYo v w = some b) : F2 leA v w (.bl b) := by
  unfold leYo at h
  unfold F2
  split at h
  · next c e => cases h; rw [e]; rfl
  · cases h
end
end KT
namespace KT
open PySem KS
end KT
namespace KT
open PySem KS
def tryT {α : Type} (t : O α) (h : Nat → List DV → O α) : O α := match t with
  | .ok a => .ok a
  | .exc c fs _ => h c fs
  | .bad => .bad
@[simp] theorem tryT_ok {α : Type} (a : α) (h : Nat → List DV → O α) : tryT (.ok a) h = .ok a := rfl
@[simp] theorem tryT_exc {α : Type} (c : Nat) (fs st : List DV) (h : Nat → List DV → O α) : tryT (.exc c fs st) h = h c fs := rfl
@[simp] theorem tryT_bad {α : Type} (h : Nat → List DV → O α) : tryT .bad h = .bad := rfl
section
variable {α : Type} {E : α → DV} {fr fr1 : Fr} {n : Nat} {g : Sv} {hs : List Hd} {h : Hd} {t ta tb : O α} {th : Nat → List DV → O α} {KE : List DV → Fr → Prop} {K : α → Fl → Fr → Prop} {c : Nat} {fs : List DV}
theorem s_tryR (hb : Rf (g fr) tb K (fun _ s => s = fr)) (hh : ∀ c fs st, tb = .exc c fs st → Rf (if c < n then hand hs c (toDs fs) fr else .bad) (th c fs) K KE) : Rf (sTry n g hs fr) (tryT tb th) K KE := by
  unfold sTry
  cases ht : tb with
  | bad => exact ⟨trivial⟩
  | ok a =>
    rw [ht] at hb
    obtain ⟨d, s, e, k⟩ := hb
    rw [e]
    exact ⟨d, s, rfl, k⟩
  | exc c fs st =>
    have hb' := hb
    rw [ht] at hb'
    obtain ⟨s, e, rfl⟩ := hb'
    rw [e]
    exact hh c fs st ht
theorem hd_ck {r : Res Fr Fl} (q : c < n → Rf r t K KE) : Rf (if c < n then r else .bad) (O.ck (c < n) t) K KE := by
  unfold O.ck
  split
  · next hc => exact q hc
  · exact ⟨trivial⟩
theorem hd_cons (hy : h.t c = true → Rf (suiteE h c (toDs fs) fr) ta K KE) (hn : Rf (hand hs c (toDs fs) fr) tb K KE) : Rf (hand (h :: hs) c (toDs fs) fr) (if h.t c = true then ta else tb) K KE := by
  show Rf (if h.t c = true then _ else _) _ K KE
  split
  · next k => exact hy k
  · exact hn
theorem hd_nil (k : KE [] fr) : Rf (hand [] c (toDs fs) fr) (.exc c fs []) K KE := ⟨fr, rfl, k⟩
theorem su_in {K1 : α → Fl → Fr → Prop} {KE1 : List DV → Fr → Prop} (hf : inN fr h.nm = fr1) (hb : Rf (h.g c (toDs fs) fr1) t K1 KE1) (hK : ∀ a fl s, K1 a fl s → K a fl (outN s h.nm)) : Rf (suiteE h c (toDs fs) fr) t.no K KE := by
  subst hf
  unfold suiteE
  cases ht : t with
  | bad => exact ⟨trivial⟩
  | exc c' fs' st => exact ⟨trivial⟩
  | ok a =>
    rw [ht] at hb
    obtain ⟨d, s, e, k⟩ := hb
    rw [e]
    exact ⟨d, _, rfl, hK _ _ _ k⟩
/-- a def that the exception is handed to -/
def RfX (o : Option D) (t : O α) (E : α → DV) : Prop := ∀ a, t = .ok a → o = some (toD (E a))
theorem fnx_rf {m : Nat} {gx : Nat → List D → Sv} {fr0 : Fr} {KE : List DV → Fr → Prop} (h0 : startF m [.tup [.var 0]] = fr0) (q : Rf (gx c (toDs fs) fr0) t (KD E os0) KE) : RfX (runX m gx c (toDs fs)) t E := by
  intro a e
  subst e
  obtain ⟨d, s, e, k, _⟩ := q
  unfold runX
  rw [h0, e]
  rcases k with k | ⟨k, k2⟩
  · rw [k]
  · rw [k, k2]
    rfl
def xfT (ko : Option Nat) (fs : List DV) : Option DV := ko.bind (fs[·]?)
theorem v_xf {i : Nat} {ko : Option Nat} {v : DV} (hi : exIn i fr = true) (h : xfT ko fs = some v) : V fr (eXf i ko (toDs fs)) v := by
  unfold V eXf
  rw [if_pos hi]
  cases ko with
  | none => cases h
  | some j =>
    have h : fs[j]? = some v := h
    show (match (toDs fs)[j]? with | some d => Res.ok d fr | none => Res.bad) = _
    rw [toDs_get, h]
    rfl
theorem v_isE {i : Nat} {b : Bool} (hi : exIn i fr = true) : V fr (eIsE i b) (.bl b) := by
  unfold V eIsE
  rw [if_pos hi]
  rfl
theorem v_callX {i : Nat} {o : Option D} {a : α} (hF : RfX o t E) (ha : t = .ok a) (hi : exIn i fr = true) : V fr (eCallX i o) (E a) := by
  unfold V eCallX
  rw [if_pos hi, hF a ha]
  dsimp only
  rw [if_pos (pers_toD _)]
end
theorem eT_dyn {α : Type} (e : α → DV) (l : List α) : eT e l = eT eY (l.map e) := by
  show DV.tup (l.map e) = DV.tup ((l.map e).map eY)
  rw [List.map_map]
  rfl
theorem v_eq {fr : Fr} {f : Ev} {v w : DV} (h : v = w) (q : V fr f v) : V fr f w := h ▸ q
end KT
namespace KT
open PySem KS
end KT
namespace KT
open PySem KS
section
variable {α : Type} {f : α → DV} {fr : Fr} {e e2 : Ev} {δ : Type} {KE : List DV → Fr → Prop}
theorem f_ltA {i j : Int} : F2 ltA (.int i) (.int j) (.bl (decide (i < j))) := rfl
end
end KT
namespace KT
open PySem KS
end KT
namespace KT
open PySem KS
end KT
namespace KT
open PySem KS
section
variable {fr : Fr} {f g : Ev} {v w z : DV}
theorem v_lm {ty : D → Bool} {F : D → D → Option D} (hf : L fr f v) (ht : ty (toD v) = true) (hg : L fr g w) (h : F2 F v w z) : V fr (eLM ty F f g) z := by
  obtain ⟨x, h1, h2⟩ := hf
  obtain ⟨y, h3, h4⟩ := hg
  unfold V eLM
  rw [h1]
  show (match look fr x with
    | some a => if ty a = true then (g fr).bind fun y fr2 => (match look fr2 x, look fr2 y with
      | some a, some b => ofO (F a b) fr2
      | _, _ => .bad) else .bad
    | none => .bad) = _
  rw [h2]
  dsimp only
  rw [if_pos ht, h3]
  show (match look fr x, look fr y with
      | some a, some b => ofO (F a b) fr
      | _, _ => .bad) = _
  rw [h2, h4]
  show ofO (F (toD v) (toD w)) fr = _
  rw [h]
  rfl
theorem mapM_flat {α : Type} {e : α → DV} {q : α → L2.V} (he : ∀ a, flatD (toD (e a)) = some (q a)) : ∀ l : List α, (toDs (l.map e)).mapM flatD = some (l.map q)
  | [] => rfl
  | a :: l => by
    show (toD (e a) :: toDs (l.map e)).mapM flatD = _
    rw [List.mapM_cons, he, mapM_flat he l]
    rfl
theorem cnt_bl (b : Bool) : ∀ l : List Bool, (l.map L2.V.bl).countP (fun y => L2.eqV y (.bl b)) = l.count b
  | [] => rfl
  | a :: l => by
    rw [List.map_cons, List.countP_cons, cnt_bl b l, List.count_cons]
    rfl
theorem f_cntB {l : List Bool} {b : Bool} : F2 cntF (eL eB l) (.bl b) (.int ((l.count b : Nat) : Int)) := by
  unfold F2
  show (match (toDs (l.map eB)).mapM flatD, flatD (.bl b) with
    | some ws, some w => some (D.int ((ws.countP fun y => L2.eqV y w : Nat) : Int))
    | _, _ => none) = _
  rw [mapM_flat (q := L2.V.bl) (fun _ => rfl)]
  show some (D.int (((l.map L2.V.bl).countP fun y => L2.eqV y (.bl b) : Nat) : Int)) = _
  rw [cnt_bl]
  rfl
/-- the first place -/
def idxI (l : List Int) (x : Int) : Option Int := (l.findIdx? fun y => y == x).map fun j => ((j : Nat) : Int)
theorem find_map {l : List Int} {x : Int} : (l.map L2.V.int).findIdx? (fun y => L2.eqV y (.int x)) = l.findIdx? fun y => y == x := by
  rw [List.findIdx?_map]
  rfl
theorem f_idxI {l : List Int} {x j : Int} (h : idxI l x = some j) : F2 idxF (eL eI l) (.int x) (.int j) := by
  unfold F2
  show (match (toDs (l.map eI)).mapM flatD, flatD (.int x) with
    | some ws, some w => (fidx ws w).map fun j => D.int ((j : Nat) : Int)
    | _, _ => none) = _
  rw [mapM_flat (q := L2.V.int) (fun _ => rfl)]
  show (fidx (l.map L2.V.int) (.int x)).map (fun j => D.int ((j : Nat) : Int)) = _
  unfold fidx
  rw [find_map]
  unfold idxI at h
  cases hf : l.findIdx? fun y => y == x with
  | none => rw [hf] at h; cases h
  | some k => rw [hf] at h; cases h; rfl
end
def RfXA {α : Type} (F : List D → Option D) (vs : List DV) (t : O α) (E : α → DV) : Prop := ∀ a, t = .ok a → F (toDs vs) = some (toD (E a))
section
variable {α : Type} {E : α → DV} {fr : Fr} {t : O α} {c : Nat} {fs vs : List DV}
theorem fnxa_rf {m : Nat} {gx : Nat → List D → Sv} {fr0 : Fr} {KE : List DV → Fr → Prop} (h0 : startF m (.tup [.var 0] :: toDs vs) = fr0) (q : Rf (gx c (toDs fs) fr0) t (KD E os0) KE) : RfXA (runXA m gx c (toDs fs)) vs t E := by
  intro a e
  subst e
  obtain ⟨d, s, e, k, _⟩ := q
  unfold runXA
  rw [h0, e]
  rcases k with k | ⟨k, k2⟩
  · rw [k]
  · rw [k, k2]
    rfl
theorem v_callXA {i m : Nat} {F : List D → Option D} {g : Av} {a : α} (hF : RfXA F vs t E) (ha : t = .ok a) (hi : exIn i fr = true) (hg : VA fr g vs) (hl : vs.length = m) : V fr (eCallXA i F m g) (E a) := by
  unfold V eCallXA
  rw [if_pos hi, hg, Res.bind, if_pos ⟨by rw [toDs_length]; exact hl, all_pers_toDs vs, hi⟩, hF a ha]
  dsimp only
  rw [if_pos (pers_toD _)]
end
end KT
namespace KT
open PySem KS
/-- behind a try: what follows, or a return -/
abbrev KTr {σ ρ : Type} (js : List Bool) (F : σ → Fr) (KR : ρ → Fl → Fr → Prop) : Fw ρ σ → Fl → Fr → Prop := fun w fl fr => match w with
  | .nx s => fl = .nx ∧ killF fr js = F s
  | .brk _ => False
  | .ret r => (∃ d, fl = .ret d) ∧ KR r fl fr
theorem s_tryJ {β σ ρ : Type} {K : β → Fl → Fr → Prop} {KE : List DV → Fr → Prop} {fr : Fr} {F : σ → Fr} {js : List Bool} {n : Nat} {g b : Sv} {hs : List Hd} {tb : O (Fw ρ σ)} {th : Nat → List DV → O (Fw ρ σ)} {KR : ρ → Fl → Fr → Prop} {tk : σ → O β} {tr : ρ → O β}
    (hb : Rf (g fr) tb (KTr js F KR) (fun _ s => s = fr))
    (hh : ∀ c fs st, tb = .exc c fs st → Rf (if c < n then hand hs c (toDs fs) fr else .bad) (th c fs) (KTr js F KR) KE)
    (r : ∀ s, Rf (b (F s)) (tk s) K KE) (hr : ∀ x d fr, KR x (.ret d) fr → Rf (Res.ok (Fl.ret d) fr) (tr x) K KE) :
    Rf (sSeq (sKn js (sTry n g hs)) b fr) ((tryT tb th).aft tk tr) K KE := by
  have m : Rf (sKn js (sTry n g hs) fr) (tryT tb th) (fun w fl fr => match w with | .nx s => fl = .nx ∧ fr = F s | .brk _ => False | .ret r => (∃ d, fl = .ret d) ∧ KR r fl fr) KE := by
    have q := s_tryR hb hh
    unfold sKn
    cases ht : tryT tb th with
    | bad => exact ⟨trivial⟩
    | exc c fs st =>
      rw [ht] at q
      obtain ⟨s, e, k⟩ := q
      rw [e]
      exact ⟨s, rfl, k⟩
    | ok w =>
      rw [ht] at q
      obtain ⟨fl, s, e, k⟩ := q
      rw [e]
      cases w with
      | nx s2 =>
        obtain ⟨rfl, k2⟩ := k
        exact ⟨.nx, _, rfl, rfl, k2⟩
      | brk s2 => exact k.elim
      | ret x =>
        obtain ⟨⟨d, rfl⟩, k2⟩ := k
        exact ⟨.ret d, _, rfl, ⟨d, rfl⟩, k2⟩
  refine Rf.bind m fun w fl fr2 hs => ?_
  cases w with
  | nx s => obtain ⟨rfl, rfl⟩ := hs; exact r s
  | brk s => exact hs.elim
  | ret x => obtain ⟨⟨d, rfl⟩, z⟩ := hs; exact hr x d fr2 z
end KT
namespace KT
open PySem KS
end KT
namespace KT
open PySem KS
def eTL {α : Type} (e : α → DV) (p : Bool × List α) : DV := match p.1 with
  | true => eT e p.2
  | false => eL e p.2
section
variable {α : Type} {e : α → DV}
theorem f_lstTL {p : Bool × List α} : F1 lstF (eTL e p) (eL e p.2) := by
  obtain ⟨b, l⟩ := p
  cases b
  · exact f_lstL
  · exact f_lstT
end
end KT
namespace KT
open PySem KS
def scal : DV → Bool
  | .non => true
  | .bl _ => true
  | .int _ => true
  | .str _ => true
  | _ => false
end KT
namespace KT
open PySem KS
theorem f_isB {a b : Bool} : F2 isBF (.bl a) (.bl b) (.bl (decide (a = b))) := rfl
end KT
namespace KT
open PySem KS
def asTL {α : Type} (d : DV → Option α) : DV → Option (Bool × List α)
  | .tup vs => (decs d vs).map fun l => (true, l)
  | .lst vs => (decs d vs).map fun l => (false, l)
  | _ => none
theorem asTL_of {α : Type} {d : DV → Option α} {E : α → DV} (D : Dec d E) : Dec (asTL d) (eTL E) := fun v a h => by
  cases v with
  | tup vs =>
    obtain ⟨l, hl, rfl⟩ := Option.map_eq_some_iff.1 (show (decs d vs).map (fun l => (true, l)) = some a from h)
    show DV.tup vs = .tup (l.map E)
    rw [← decs_of D vs l hl]
  | lst vs =>
    obtain ⟨l, hl, rfl⟩ := Option.map_eq_some_iff.1 (show (decs d vs).map (fun l => (false, l)) = some a from h)
    show DV.lst vs = .lst (l.map E)
    rw [← decs_of D vs l hl]
  | _ => cases h
end KT
namespace KT
open PySem KS
end KT
namespace KT
open PySem KS
end KT
namespace KT
open PySem KS
end KT
namespace KT
open PySem KS
def okS (n : Int) : Prop := okR n ∧ n.toNat ≤ 16777216
instance (n : Int) : Decidable (okS n) := by unfold okS; exact inferInstance
theorem rg_toD (n : Int) : rangeD 0 n.toNat = toDs ((rngT 0 n).map eI) := by
  have : rangeD 0 (n - 0).toNat = (rngT 0 n).map fun a => toD (eI a) := (rangeD_eq (i := 0) (n := n))
  rw [Int.sub_zero] at this
  rw [this, toDs_m]
theorem f_rgL {n : Int} (h : okS n) : F1 rgLF (eI n) (eL eI (rngT 0 n)) := by
  show (if okI n = true ∧ n.toNat ≤ 16777216 then some (D.lst (rangeD 0 n.toNat)) else none) = some (D.lst (toDs ((rngT 0 n).map eI)))
  rw [if_pos ⟨okI_of h.1, h.2⟩, rg_toD]
theorem f_rgT {n : Int} (h : okS n) : F1 rgTF (eI n) (eT eI (rngT 0 n)) := by
  show (if okI n = true ∧ n.toNat ≤ 16777216 then some (D.tup (rangeD 0 n.toNat)) else none) = some (D.tup (toDs ((rngT 0 n).map eI)))
  rw [if_pos ⟨okI_of h.1, h.2⟩, rg_toD]
theorem f_lsetT {l : List Int} (h : l.length ≤ 1000) : F1 lenSetF (eT eI l) (.int ((dd l).length : Nat)) := by
  show (match intsOf (toDs (l.map eI)) with | some ns => if ns.length ≤ 1000 then some (D.int ((dd ns).length : Nat)) else none | none => none) = _
  rw [ints_m]
  show (if l.length ≤ 1000 then some (D.int ((dd l).length : Nat)) else none) = _
  rw [if_pos h]; rfl
end KT
namespace KT
open PySem KS
variable {α : Type} {e : α → DV}
theorem f_revT {l : List α} : F1 revF (eT e l) (eT e l.reverse) := by
  show some (D.tup (toDs (l.map e)).reverse) = some (D.tup (toDs (l.reverse.map e)))
  rw [toDs_m, toDs_m, List.map_reverse]
end KT
namespace KT
open PySem KS
section
variable {β δ : Type} {K : β → δ → Fr → Prop} {KE : List DV → Fr → Prop} {fr fr1 : Fr} {t : O β} {e f g : Ev} {k : D → Fr → Res Fr δ}
abbrev KVS {σ : Type} (F : σ → Fr) : Bool × σ → D → Fr → Prop := KV (fun p : Bool × σ => eB p.1) (fun p => F p.2)
theorem x_andS {σ : Type} {F : σ → Fr} {a : Bool} {s : σ} {tb : O (Bool × σ)} (h : V fr f (.bl a)) (hs : fr = F s) (q : a = true → Rf (g fr) tb (KVS F) KE) : Rf (eAnd f g fr) (if a = true then tb else .ok (false, s)) (KVS F) KE := by
  unfold eAnd
  rw [h]
  cases a
  · exact ⟨_, _, rfl, rfl, hs⟩
  · exact q rfl
theorem x_joinS {σ : Type} {F : σ → Fr} {ta : O (Bool × σ)} {tk : Bool × σ → O β} (h : Rf (e fr) ta (KVS F) KE) (q : ∀ p, Rf (k (toD (eB p.1)) (F p.2)) (tk p) K KE) : Rf ((e fr).bind k) (ta.bind tk) K KE := x_joinV h q
theorem kvs_ok {σ : Type} {F : σ → Fr} {b : Bool} {s : σ} {v : DV} (hv : v = eB b) (hs : fr = F s) : Rf (Res.ok (σ := Fr) (toD v) fr) (.ok (b, s)) (KVS F) KE := ⟨_, fr, rfl, by rw [hv], hs⟩
end
end KT
namespace KT
open PySem KS
def isiOY (u : Tn) (cs : List Nat) : DV → Option Bool
  | .obj c _ _ => if c ∈ cs then some false else none
  | v => isiY u v
theorem f_isiO {u : Tn} {cs : List Nat} {b : Bool} {v : DV} (h : isiOY u cs v = some b) : F1 (isiOF u cs) v (.bl b) := by
  cases v with
  | obj c ns fs =>
    unfold isiOY at h
    dsimp only at h
    split at h
    · next hc =>
      cases h
      show (if c ∈ cs then some (D.bl false) else none) = _
      rw [if_pos hc]; rfl
    · cases h
  | _ => exact f_isi h
end KT
namespace KT
open PySem KS
/-- ends well, with P -/
def Oks {α : Type} (t : O α) (P : α → Prop) : Prop := ∃ a, t = .ok a ∧ P a
section
variable {α β σ ρ γ : Type}
theorem oks_ok {a : α} {P : α → Prop} (h : P a) : Oks (.ok a) P := ⟨a, rfl, h⟩
theorem Oks.imp {t : O α} {P Q : α → Prop} (h : Oks t P) (i : ∀ a, P a → Q a) : Oks t Q := let ⟨a, e, p⟩ := h; ⟨a, e, i a p⟩
theorem oks_bind {t : O α} {k : α → O β} {P : α → Prop} {Q : β → Prop} (h : Oks t P) (q : ∀ a, P a → Oks (k a) Q) : Oks (t.bind k) Q := by
  obtain ⟨a, rfl, p⟩ := h
  exact q a p
theorem oks_no {t : O α} {P : α → Prop} (h : Oks t P) : Oks t.no P := by
  obtain ⟨a, rfl, p⟩ := h
  exact ⟨a, rfl, p⟩
theorem oks_call {t : O α} {k : α → O β} {P : α → Prop} {Q : β → Prop} (h : Oks t P) (q : ∀ a, P a → Oks (k a) Q) : Oks (t.no.bind k) Q := oks_bind (oks_no h) q
theorem oks_ck {c : Prop} [Decidable c] {t : O α} {Q : α → Prop} (h : c) (q : Oks t Q) : Oks (O.ck c t) Q := by
  unfold O.ck
  rw [if_pos h]
  exact q
theorem oks_opt {o : Option α} {k : α → O β} {Q : β → Prop} {a : α} (h : o = some a) (q : Oks (k a) Q) : Oks ((O.opt o).bind k) Q := by
  subst h
  exact q
theorem oks_lt {a : α} {k : α → O β} {Q : β → Prop} (q : Oks (k a) Q) : Oks (O.lt a k) Q := q
theorem oks_if {c : Prop} [Decidable c] {t u : O α} {Q : α → Prop} (h1 : c → Oks t Q) (h2 : ¬ c → Oks u Q) : Oks (if c then t else u) Q := by
  split
  · next h => exact h1 h
  · next h => exact h2 h
theorem oks_ifb {b : Bool} {t u : O α} {Q : α → Prop} (h1 : b = true → Oks t Q) (h2 : b = false → Oks u Q) : Oks (if b = true then t else u) Q := by
  cases b
  · exact h2 rfl
  · exact h1 rfl
theorem Oks.eq {t : O α} {a : α} (h : t = .ok a) : Oks t (· = a) := ⟨a, h, rfl⟩
theorem Oks.to {t : O α} {a : α} (h : Oks t (· = a)) : t = .ok a := by obtain ⟨b, e, rfl⟩ := h; exact e
@[simp] theorem no_ok (a : α) : (O.ok a).no = .ok a := rfl
@[simp] theorem opt_some (a : α) : O.opt (some a) = .ok a := rfl
@[simp] theorem opt_none : O.opt (none : Option α) = .bad := rfl
theorem ck_pos {c : Prop} [Decidable c] {t : O α} (h : c) : O.ck c t = t := if_pos h
theorem oks_fold {l : List α} {s0 : σ} {b : α → σ → O σ} (I : List α → σ → Prop) {Q : σ → Prop} (h0 : I [] s0) (hb : ∀ pre a post s, l = pre ++ a :: post → I pre s → Oks (b a s) (I (pre ++ [a]))) (hq : ∀ s, I l s → Q s) : Oks (foldT l s0 b) Q := by
  suffices h : ∀ (post pre : List α) (s : σ), l = pre ++ post → I pre s → Oks (foldT post s b) Q by
    exact h l [] s0 rfl h0
  intro post
  induction post with
  | nil =>
    intro pre s e h
    rw [List.append_nil] at e
    exact ⟨s, rfl, hq s (e ▸ h)⟩
  | cons a post ih =>
    intro pre s e h
    exact oks_bind (hb pre a post s e h) fun s2 h2 => ih (pre ++ [a]) s2 (by rw [e]; simp) h2
theorem oks_loop {l : List α} {s0 : σ} {b : α → σ → O (Fw ρ σ)} (I : List α → σ → Prop) {Q : Fw ρ σ → Prop} (h0 : I [] s0) (hb : ∀ pre a post s, l = pre ++ a :: post → I pre s → Oks (b a s) fun w => match w with
    | .nx s => I (pre ++ [a]) s
    | .brk s => Q (.nx s)
    | .ret r => Q (.ret r)) (hq : ∀ s, I l s → Q (.nx s)) : Oks (loopT l s0 b) Q := by
  suffices h : ∀ (post pre : List α) (s : σ), l = pre ++ post → I pre s → Oks (loopT post s b) Q by
    exact h l [] s0 rfl h0
  intro post
  induction post with
  | nil =>
    intro pre s e h
    rw [List.append_nil] at e
    exact ⟨.nx s, rfl, hq s (e ▸ h)⟩
  | cons a post ih =>
    intro pre s e h
    unfold loopT
    refine oks_bind (hb pre a post s e h) fun w h2 => ?_
    cases w with
    | nx s2 => exact ih (pre ++ [a]) s2 (by rw [e]; simp) h2
    | brk s2 => exact ⟨_, rfl, h2⟩
    | ret r => exact ⟨_, rfl, h2⟩
theorem oks_aft {t : O (Fw ρ σ)} {k : σ → O β} {r : ρ → O β} {P : Fw ρ σ → Prop} {Q : β → Prop} (h : Oks t P) (hk : ∀ s, P (.nx s) → Oks (k s) Q) (hb : ∀ s, P (.brk s) → Oks (k s) Q) (hr : ∀ x, P (.ret x) → Oks (r x) Q) : Oks (t.aft k r) Q := by
  obtain ⟨w, rfl, p⟩ := h
  cases w with
  | nx s => exact hk s p
  | brk s => exact hb s p
  | ret x => exact hr x p
@[simp] theorem aft_nx (s : σ) (k : σ → O β) (r : ρ → O β) : (O.ok (Fw.nx (ρ := ρ) s)).aft k r = k s := rfl
@[simp] theorem aft_ret (x : ρ) (k : σ → O β) (r : ρ → O β) : (O.ok (Fw.ret (σ := σ) x)).aft k r = r x := rfl
/-- a comprehension whose parts hold no state -/
theorem comp_eq {l : List α} {b : α → Unit → O (Option γ × Unit)} {g : α → Option γ} (h : ∀ a ∈ l, b a () = .ok (g a, ())) : compT l () b = .ok (l.filterMap g, ()) := by
  induction l with
  | nil => rfl
  | cons a l ih =>
    unfold compT
    rw [h a (List.mem_cons_self ..), O.bind_ok, ih fun x hx => h x (List.mem_cons_of_mem _ hx), O.bind_ok, List.filterMap_cons]
    cases g a <;> rfl
theorem comp_map {l : List α} {b : α → Unit → O (Option γ × Unit)} {g : α → γ} (h : ∀ a ∈ l, b a () = .ok (some (g a), ())) : compT l () b = .ok (l.map g, ()) := by
  rw [comp_eq (g := fun a => some (g a)) h, List.filterMap_eq_map']
theorem oks_comp {l : List α} {s0 : σ} {b : α → σ → O (Option γ × σ)} (I : List α → List γ → σ → Prop) {Q : List γ × σ → Prop} (h0 : I [] [] s0) (hb : ∀ pre a post out s, l = pre ++ a :: post → I pre out s → Oks (b a s) fun p => I (pre ++ [a]) (out ++ p.1.toList) p.2) (hq : ∀ out s, I l out s → Q (out, s)) : Oks (compT l s0 b) Q := by
  suffices h : ∀ (post pre : List α) (out : List γ) (s : σ), l = pre ++ post → I pre out s → Oks (compT post s b) fun p => Q (out ++ p.1, p.2) by
    exact h l [] [] s0 rfl h0
  intro post
  induction post with
  | nil =>
    intro pre out s e h
    rw [List.append_nil] at e
    exact ⟨_, rfl, by simpa using hq out s (e ▸ h)⟩
  | cons a post ih =>
    intro pre out s e h
    unfold compT
    refine oks_bind (hb pre a post out s e h) fun p h2 => ?_
    refine oks_bind (ih (pre ++ [a]) _ p.2 (by rw [e]; simp) h2) fun q h3 => ?_
    refine ⟨_, rfl, ?_⟩
    obtain ⟨o, s2⟩ := p
    cases o <;> simpa using h3
end
theorem mem_rng {i n a : Int} : a ∈ rngT i n ↔ i ≤ a ∧ a < n := by
  unfold rngT
  rw [List.mem_map]
  constructor
  · rintro ⟨k, hk, rfl⟩
    have := List.mem_range.mp hk
    omega
  · rintro ⟨h1, h2⟩
    exact ⟨(a - i).toNat, List.mem_range.mpr (by omega), by omega⟩
theorem rng_len (i n : Int) : (rngT i n).length = (n - i).toNat := by simp [rngT]
theorem rng_get {i n : Int} {k : Nat} (h : k < (n - i).toNat) : (rngT i n)[k]? = some (i + k) := by
  unfold rngT
  rw [List.getElem?_map, List.getElem?_range h]; rfl
theorem rng_sorted (i n : Int) : (rngT i n).Pairwise (· < ·) := by
  unfold rngT
  rw [List.pairwise_map]
  exact List.Pairwise.imp (fun h => by omega) List.pairwise_lt_range
theorem at_nat {α : Type} {l : List α} {i : Int} (h0 : 0 ≤ i) (h : i < l.length) : L2.atI l i = l[i.toNat]? := by
  unfold L2.atI L2.ixN
  rw [if_pos h0, if_pos h]; rfl
theorem at_some {α : Type} {l : List α} {i : Int} (h0 : 0 ≤ i) (h : i < l.length) : ∃ a, L2.atI l i = some a ∧ a ∈ l ∧ l[i.toNat]? = some a := by
  rw [at_nat h0 h]
  have hl : i.toNat < l.length := by omega
  exact ⟨l[i.toNat], List.getElem?_eq_getElem hl, List.getElem_mem hl, List.getElem?_eq_getElem hl⟩
end KT
namespace KT
open PySem KS
mutual
def smV : DV → Bool
  | .non => true
  | .bl _ => true
  | .int i => decide (i.natAbs < 1000000000000)
  | .str x => x.cps.toList.all fun c => decide (c < 16 ^ 8)
  | .tup ds => smL ds
  | .lst ds => smL ds
  | _ => false
def smL : List DV → Bool
  | [] => true
  | d :: ds => smV d && smL ds
end
mutual
def wtV : DV → Nat
  | .int _ => 41
  | .str x => x.cps.size
  | .tup ds => wtL ds
  | .lst ds => wtL ds
  | _ => 0
def wtL : List DV → Nat
  | [] => 0
  | d :: ds => wtV d + 1 + wtL ds
end
mutual
def dpV : DV → Nat
  | .tup ds => dpL ds + 1
  | .lst ds => dpL ds + 1
  | _ => 0
def dpL : List DV → Nat
  | [] => 0
  | d :: ds => max (dpV d) (dpL ds)
end
end KT
namespace KT
open PySem KS
theorem oks_ltG {α β : Type} {a : α} {k : α → O β} {Q : β → Prop} (q : ∀ x, x = a → Oks (k x) Q) : Oks (O.lt a k) Q := q a rfl
def WhQ {ρ σ : Type} (I : σ → Prop) (m : σ → Nat) (Q : Fw ρ σ → Prop) (s : σ) : Fw ρ σ → Prop
  | .nx s2 => I s2 ∧ m s2 < m s
  | .brk s2 => Q (.nx s2)
  | .ret r => Q (.ret r)
theorem oks_while {ρ σ : Type} {c : σ → O Bool} {b : σ → O (Fw ρ σ)} (I : σ → Prop) (m : σ → Nat) {Q : Fw ρ σ → Prop}
    (h : ∀ s, I s → Oks (c s) fun k => (k = true → Oks (b s) (WhQ I m Q s)) ∧ (k = false → Q (.nx s))) : ∀ (n : Nat) (s : σ), I s → m s < n → Oks (whileT n c b s) Q
  | 0, s, hI, hm => absurd hm (Nat.not_lt_zero _)
  | n + 1, s, hI, hm => by
    unfold whileT
    refine oks_bind (h s hI) fun k hk => ?_
    cases k with
    | false => exact ⟨_, rfl, hk.2 rfl⟩
    | true =>
      rw [if_pos rfl]
      refine oks_bind (hk.1 rfl) fun w hw => ?_
      cases w with
      | nx s2 => exact oks_while I m h n s2 hw.1 (by have := hw.2; omega)
      | brk s2 => exact ⟨_, rfl, hw⟩
      | ret r => exact ⟨_, rfl, hw⟩
theorem nodup_len : ∀ (K : Nat) {l : List Int}, l.Nodup → (∀ x ∈ l, 0 ≤ x ∧ x < (K : Int)) → l.length ≤ K
  | 0, l, _, h => by
    cases l with
    | nil => exact Nat.le_refl _
    | cons x l => have := h x List.mem_cons_self; omega
  | K + 1, l, hd, h => by
    have h2 : (l.filter fun x => !decide (x = (K : Int))).length ≤ K := nodup_len K (hd.filter _) fun x hx => by
      have h1 := (List.mem_filter.mp hx).1
      have h2 := (List.mem_filter.mp hx).2
      have := h x h1
      simp only [Bool.not_eq_true', decide_eq_false_iff_not] at h2
      omega
    have h3 : l.length ≤ (l.filter fun x => !decide (x = (K : Int))).length + 1 := by
      have : ∀ {l : List Int}, l.Nodup → l.length ≤ (l.filter fun x => !decide (x = (K : Int))).length + 1 := by
        intro l hd
        induction l with
        | nil => simp
        | cons a l ih =>
          rw [List.nodup_cons] at hd
          rw [List.filter_cons]
          by_cases e : a = (K : Int)
          · have : (l.filter fun x => !decide (x = (K : Int))) = l := List.filter_eq_self.mpr fun x hx => by
              simp only [Bool.not_eq_true', decide_eq_false_iff_not]
              intro z
              exact hd.1 (e ▸ z ▸ hx)
            rw [this]
            simp [e]
          · simp only [e, decide_false, Bool.not_false, if_true, List.length_cons]
            have := ih hd.2
            omega
      exact this hd
    omega
theorem cut_take {α : Type} (l : List α) (k : Nat) : cutT l none (some (k : Int)) = l.take k := by
  unfold cutT cutD
  rw [HT.sIx_nat, HT.sIx_none, List.drop_zero, Nat.sub_zero]
  by_cases h : k ≤ l.length
  · rw [Nat.min_eq_left h]
  · rw [Nat.min_eq_right (by omega), List.take_of_length_le (Nat.le_refl _), List.take_of_length_le (by omega)]
theorem cut_from {α : Type} (l : List α) (k : Nat) : cutT l (some (k : Int)) none = l.drop k := by
  unfold cutT cutD
  rw [HT.sIx_nat, HT.sIx_none]
  by_cases h : k ≤ l.length
  · rw [Nat.min_eq_left h, List.take_of_length_le (by rw [List.length_drop]; omega)]
  · rw [Nat.min_eq_right (by omega), List.drop_eq_nil_of_le (Nat.le_refl _), List.drop_eq_nil_of_le (by omega), List.take_nil]
theorem cut_sub {α : Type} (l : List α) (i j : Option Int) : (cutT l i j).Sublist l := by
  unfold cutT cutD
  exact (List.take_sublist _ _).trans (List.drop_sublist _ _)
theorem at_last {α : Type} {l : List α} (h : l ≠ []) : L2.atI l (-1) = some (l.getLast h) := by
  have hl := List.length_pos_iff.mpr h
  unfold L2.atI L2.ixN
  rw [if_neg (by decide), if_pos (by omega)]
  show l[((-1 : Int) + (l.length : Int)).toNat]? = _
  rw [show ((-1 : Int) + (l.length : Int)).toNat = l.length - 1 by omega, ← List.getLast?_eq_getElem?, List.getLast?_eq_some_getLast h]
/-- a loop that never returns -/
def EndQ {ρ σ : Type} (P : σ → Prop) : Fw ρ σ → Prop
  | .nx s => P s
  | .brk s => P s
  | .ret _ => False
end KT
namespace KT
open PySem KS
structure Sm (k m : Nat) (v : DV) : Prop where
  s : smV v = true
  w : wtV v ≤ k
  d : dpV v ≤ m
theorem Sm.mono {k m k2 m2 : Nat} {v : DV} (h : Sm k m v) (hk : k ≤ k2) (hm : m ≤ m2) : Sm k2 m2 v := ⟨h.s, Nat.le_trans h.w hk, Nat.le_trans h.d hm⟩
theorem eqY_str (x y : Str) : eqY (.str x) (.str y) = some (decide (x = y)) := rfl
theorem eqY_int (x y : Int) : eqY (.int x) (.int y) = some (decide (x = y)) := rfl
theorem eqY_bl (x y : Bool) : eqY (.bl x) (.bl y) = some (decide (x = y)) := rfl
end KT
namespace KT
open PySem KS
def jn : List (List Nat) → List Nat
  | [] => []
  | [x] => x
  | x :: y :: r => x ++ 44 :: 32 :: jn (y :: r)
def tt (ts : List (List Nat)) : List Nat := 40 :: (jn ts ++ (if ts.length = 1 then [44, 41] else [41]))
end KT
namespace KT
open PySem KS
end KT
namespace KL
def ix (v : List Int) (j : Nat) : Int := v.getD j 0
theorem dv0 {p e : Int} (h : e = 0) : p ∣ e := by subst h; exact Int.dvd_zero p
theorem dv1 {p e e1 : Int} (a : Int) (h1 : p ∣ e1) (h : e = a * e1) : p ∣ e := by subst h; exact Int.dvd_mul_of_dvd_right h1
theorem dv2 {p e e1 e2 : Int} (a b : Int) (h1 : p ∣ e1) (h2 : p ∣ e2) (h : e = a * e1 + b * e2) : p ∣ e := by
  subst h; exact Int.dvd_add (Int.dvd_mul_of_dvd_right h1) (Int.dvd_mul_of_dvd_right h2)
theorem dvm (p x : Int) : p ∣ x % p - x := ⟨-(x / p), by have := Int.mul_ediv_add_emod x p; grind⟩
theorem dvs {p a b : Int} (h : p ∣ a - b) : p ∣ b - a := dv1 (-1) h (by grind)
/-- the span of rows, as words without end -/
inductive Sp (p : Int) (R : List (List Int)) : (Nat → Int) → Prop
  | nil {v : Nat → Int} (h : ∀ j, p ∣ v j) : Sp p R v
  | add {v w : Nat → Int} {r : List Int} (a : Int) (hr : r ∈ R) (hv : Sp p R v) (h : ∀ j, p ∣ w j - (v j + a * ix r j)) : Sp p R w
theorem Sp.cong {p : Int} {R : List (List Int)} {v w : Nat → Int} (h : Sp p R v) (e : ∀ j, p ∣ w j - v j) : Sp p R w := by
  cases h with
  | nil h => exact .nil fun j => dv2 1 1 (h j) (e j) (by grind)
  | add a hr hv h => exact .add a hr hv fun j => dv2 1 1 (h j) (e j) (by grind)
theorem Sp.plus {p : Int} {R : List (List Int)} {v u : Nat → Int} (hv : Sp p R v) (hu : Sp p R u) : ∀ {w : Nat → Int} (b : Int), (∀ j, p ∣ w j - (v j + b * u j)) → Sp p R w := by
  induction hu with
  | nil h => exact fun b e => hv.cong fun j => dv2 1 b (e j) (h j) (by grind)
  | @add u' u'' r a hr _ h ih =>
    intro w b e
    exact .add (b * a) hr (ih (w := fun j => v j + b * u' j) b fun j => dv0 (by grind)) fun j => dv2 1 b (e j) (h j) (by grind)
theorem Sp.mem {p : Int} {R : List (List Int)} {r : List Int} (h : r ∈ R) : Sp p R (ix r) :=
  .add (v := fun _ => 0) 1 h (.nil fun _ => Int.dvd_zero p) fun j => dv0 (by grind)
theorem Sp.sub {p : Int} {R R' : List (List Int)} (h : ∀ r ∈ R, Sp p R' (ix r)) {v : Nat → Int} (hv : Sp p R v) : Sp p R' v := by
  induction hv with
  | nil h => exact .nil h
  | add a hr _ e ih => exact ih.plus (h _ hr) a e
theorem Sp.mono {p : Int} {R R' : List (List Int)} (h : ∀ r ∈ R, r ∈ R') {v : Nat → Int} (hv : Sp p R v) : Sp p R' v := Sp.sub (fun r m => .mem (h r m)) hv
/-- sums -/
def sm : Nat → (Nat → Int) → Int
  | 0, _ => 0
  | n + 1, f => sm n f + f n
/-- a row's product with a word -/
def dt (n : Nat) (r v : Nat → Int) : Int := sm n fun j => r j * v j
/-- the word with given letters at the pivots -/
def lin : List (Nat × List Int) → (Nat → Int) → Nat → Int
  | [], _, _ => 0
  | (c, m) :: t, v, j => v c * ix m j + lin t v j
end KL
namespace KL
/-- a word of n letters below p -/
def Wd (p : Int) (n : Nat) (v : List Int) : Prop := v.length = n ∧ ∀ x ∈ v, 0 ≤ x ∧ x < p
theorem ix_off {v : List Int} {j : Nat} (h : v.length ≤ j) : ix v j = 0 := by simp [ix, List.getD, List.getElem?_eq_none h]
theorem ix_in {v : List Int} {j : Nat} (h : j < v.length) : v[j]? = some (ix v j) := by simp [ix, List.getD, h]
/-- the echelon form M of R, with its pivots -/
structure Ech (p : Int) (n : Nat) (M : List (List Int)) (P : List Nat) : Prop where
  len : P.length = M.length
  w : ∀ m ∈ M, Wd p n m
  lt : ∀ c ∈ P, c < n
  srt : P.Pairwise (· < ·)
  one : ∀ q m, (q, m) ∈ P.zip M → ix m q = 1
  bef : ∀ q m, (q, m) ∈ P.zip M → ∀ j, j < q → ix m j = 0
  off : ∀ q m, (q, m) ∈ P.zip M → ∀ q' ∈ P, q' ≠ q → ix m q' = 0
structure RR (p : Int) (n : Nat) (R M : List (List Int)) (P : List Nat) : Prop extends Ech p n M P where
  sp : ∀ v, Sp p R v ↔ Sp p M v
theorem Ech.nd {p : Int} {n : Nat} {M : List (List Int)} {P : List Nat} (h : Ech p n M P) : P.Nodup := h.srt.imp fun h => Nat.ne_of_lt h
theorem Ech.znd {p : Int} {n : Nat} {M : List (List Int)} {P : List Nat} (h : Ech p n M P) : ((P.zip M).map (·.1)).Nodup := by
  rw [show (fun x : Nat × List Int => x.1) = Prod.fst from rfl, List.map_fst_zip (by have := h.len; omega)]; exact h.nd
theorem Ech.zfst {p : Int} {n : Nat} {M : List (List Int)} {P : List Nat} (h : Ech p n M P) : (P.zip M).map (·.1) = P := by
  rw [show (fun x : Nat × List Int => x.1) = Prod.fst from rfl, List.map_fst_zip (by have := h.len; omega)]
theorem Ech.row {p : Int} {n : Nat} {M : List (List Int)} {P : List Nat} (h : Ech p n M P) {m : List Int} (hm : m ∈ M) : ∃ q, (q, m) ∈ P.zip M := by
  have e : (P.zip M).map (·.2) = M := by rw [show (fun x : Nat × List Int => x.2) = Prod.snd from rfl, List.map_snd_zip (by have := h.len; omega)]
  rw [← e] at hm
  obtain ⟨⟨q, m'⟩, h1, rfl⟩ := List.mem_map.1 hm
  exact ⟨q, h1⟩
theorem Ech.piv {p : Int} {n : Nat} {M : List (List Int)} {P : List Nat} (h : Ech p n M P) {q : Nat} (hq : q ∈ P) : ∃ m, (q, m) ∈ P.zip M := by
  rw [← h.zfst] at hq
  obtain ⟨⟨q, m⟩, h1, rfl⟩ := List.mem_map.1 hq
  exact ⟨m, h1⟩
theorem Ech.at {p : Int} {n : Nat} {M : List (List Int)} {P : List Nat} (h : Ech p n M P) {v : Nat → Int} {q : Nat} (hq : q ∈ P) : lin (P.zip M) v q = v q := by
  obtain ⟨m, hm⟩ := h.piv hq
  have nd : ((P.zip M).map (·.1)).Nodup := h.znd
  have hone := h.one
  have hoff : ∀ q' m', (q', m') ∈ P.zip M → q ≠ q' → ix m' q = 0 := fun q' m' h' ne => h.off q' m' h' q hq ne
  suffices h : ∀ F : List (Nat × List Int), (F.map (·.1)).Nodup → (∀ q m, (q, m) ∈ F → ix m q = 1) → (∀ q' m', (q', m') ∈ F → q ≠ q' → ix m' q = 0) → (q ∈ F.map (·.1) → lin F v q = v q) ∧ (q ∉ F.map (·.1) → lin F v q = 0) from
    (h _ nd hone hoff).1 (List.mem_map.2 ⟨_, hm, rfl⟩)
  intro F
  induction F with
  | nil => simp [lin]
  | cons x t ih =>
    obtain ⟨c, m'⟩ := x
    intro nd h1 h2
    simp only [List.map_cons, List.nodup_cons] at nd
    obtain ⟨ih1, ih2⟩ := ih nd.2 (fun q m hm => h1 q m (.tail _ hm)) fun q m hm => h2 q m (.tail _ hm)
    simp only [List.map_cons, List.mem_cons, lin]
    refine ⟨fun hh => ?_, fun hh => ?_⟩
    · by_cases e : q = c
      · subst e; rw [h1 q m' (.head _), ih2 nd.1]; grind
      · rw [h2 c m' (.head _) e, ih1 (hh.resolve_left e)]; grind
    · rw [h2 c m' (.head _) fun e => hh (.inl e), ih2 fun e => hh (.inr e)]; grind
end KL
namespace KL
/-- column by column: before column c -/
structure St (p : Int) (n : Nat) (R : List (List Int)) (c : Nat) (left found : List (List Int)) (P : List Nat) : Prop extends Ech p n found P where
  ltc : ∀ q ∈ P, q < c
  wl : ∀ r ∈ left, Wd p n r
  z : ∀ r ∈ left, ∀ j, j < c → ix r j = 0
  sp : ∀ v, Sp p R v ↔ Sp p (left ++ found) v
theorem St.start {p : Int} {n : Nat} {R : List (List Int)} (h : ∀ r ∈ R, Wd p n r) : St p n R 0 R [] [] where
  len := rfl
  w := fun _ h => nomatch h
  lt := fun _ h => nomatch h
  srt := .nil
  one := fun _ _ h => nomatch h
  bef := fun _ _ h => nomatch h
  off := fun _ _ h => nomatch h
  ltc := fun _ h => nomatch h
  wl := h
  z := fun _ _ j hj => absurd hj (Nat.not_lt_zero j)
  sp := fun v => by rw [List.append_nil]
theorem St.fin {p : Int} {n : Nat} {R : List (List Int)} {left found : List (List Int)} {P : List Nat} (h : St p n R n left found P) : RR p n R found P :=
  { h.toEch with sp := fun v => (h.sp v).trans ⟨fun hv => Sp.sub (fun r hr => by
      rcases List.mem_append.1 hr with hl | hf
      · refine .nil fun j => dv0 ?_
        by_cases hj : j < n
        · exact h.z r hl j hj
        · exact ix_off (by rw [(h.wl r hl).1]; omega)
      · exact .mem hf) hv, fun hv => hv.mono fun r hr => List.mem_append_right _ hr⟩ }
end KL
namespace KL
/-- words that all rows of the span send to zero, and that know the span -/
structure Zer (p : Int) (n : Nat) (R N : List (List Int)) : Prop where
  w : ∀ z ∈ N, Wd p n z
  len : N.length ≤ n
  to : ∀ z ∈ N, ∀ v, Sp p R v → p ∣ dt n v (ix z)
  fro : ∀ r : Nat → Int, (∀ j, n ≤ j → r j = 0) → (∀ z ∈ N, p ∣ dt n r (ix z)) → Sp p R r
end KL
namespace KL
end KL
namespace KL
end KL
namespace KL
/-- what a span with a row more holds -/
theorem Sp.snoc {p : Int} (hp : 0 < p) {R : List (List Int)} {r : List Int} {v : Nat → Int} (h : Sp p (R ++ [r]) v) : ∃ b : Int, 0 ≤ b ∧ b < p ∧ Sp p R fun j => v j - b * ix r j := by
  have h2 : ∃ b : Int, Sp p R fun j => v j - b * ix r j := by
    induction h with
    | nil h => exact ⟨0, Sp.nil fun j => by have := h j; simpa using this⟩
    | @add v w m a hm hv e ih =>
      obtain ⟨b, hb⟩ := ih
      rcases List.mem_append.1 hm with hm | hm
      · exact ⟨b, (hb.plus (.mem hm) a) fun j => dv1 1 (e j) (by grind)⟩
      · simp only [List.mem_singleton] at hm
        subst hm
        exact ⟨b + a, hb.cong fun j => dv1 1 (e j) (by grind)⟩
  obtain ⟨b, hb⟩ := h2
  refine ⟨b % p, Int.emod_nonneg _ (by omega), Int.emod_lt_of_pos _ hp, hb.cong fun j => dv1 (-(ix r j)) (dvm p b) (by grind)⟩
end KL
namespace KL
end KL
namespace KL
theorem Zer.off {p : Int} {n : Nat} {R N : List (List Int)} (z : Zer p n R N) {x : List Int} (hx : x ∈ N) : ∀ j, n ≤ j → ix x j = 0 := fun j hj => ix_off (by rw [(z.w x hx).1]; exact hj)
end KL
namespace KL
end KL
namespace KT
open PySem KS
theorem rng_snoc0 {n : Int} {pre post : List Int} {a : Int} (e : rngT 0 n = pre ++ a :: post) : a = pre.length ∧ (pre.length : Int) < n ∧ pre = rngT 0 pre.length := by
  have hl := congrArg List.length e
  rw [rng_len, List.length_append, List.length_cons] at hl
  have h1 : pre.length < (n - 0).toNat := by omega
  have h2 := rng_get (i := 0) h1
  rw [e] at h2
  simp at h2
  refine ⟨h2, by omega, ?_⟩
  refine List.ext_getElem? fun j => ?_
  by_cases hj : j < pre.length
  · have h3 := rng_get (i := 0) (n := n) (k := j) (by omega)
    rw [e, List.getElem?_append_left hj] at h3
    rw [h3, rng_get (by omega)]
  · rw [List.getElem?_eq_none (by omega), List.getElem?_eq_none (by rw [rng_len]; omega)]
theorem enum_get0 {α : Type} (l : List α) (k : Nat) : (enumT l)[k]? = (l[k]?).map fun a => ((k : Int), a) := by
  unfold enumT
  rw [List.getElem?_map, List.getElem?_zipIdx]
  cases l[k]? <;> simp
theorem enum_snoc0 {α : Type} {l : List α} {pre post : List (Int × α)} {p : Int × α} (e : enumT l = pre ++ p :: post) : p.1 = pre.length ∧ l[pre.length]? = some p.2 := by
  have h := enum_get0 l pre.length
  rw [e, List.getElem?_append_right (Nat.le_refl _), Nat.sub_self, List.getElem?_cons_zero] at h
  cases hl : l[pre.length]? with
  | none => rw [hl] at h; cases h
  | some a =>
    rw [hl] at h
    injection h with h
    rw [h]
    exact ⟨rfl, rfl⟩
theorem at_cons {α : Type} (a : α) (l : List α) : L2.atI (a :: l) 0 = some a := by rw [at_nat (by omega) (by simp)]; rfl
end KT
namespace KN
open PySem KS KT
def ltP (p q : Int × Int) : Prop := p.1 < q.1 ∨ (p.1 = q.1 ∧ p.2 < q.2)
/-- a net's arcs -/
structure VN (n : Int) (as : List (Int × Int)) : Prop where
  lo : 1 ≤ n
  hi : n ≤ 12
  rng : ∀ p ∈ as, (0 ≤ p.1 ∧ p.1 < n) ∧ (0 ≤ p.2 ∧ p.2 < n) ∧ p.1 ≠ p.2
  ord : as.Pairwise ltP
  len : as.length ≤ 1000
theorem leP_iff {p q : Int × Int} : leP p q = true ↔ p.1 < q.1 ∨ (p.1 = q.1 ∧ p.2 ≤ q.2) := by
  unfold leP
  rw [decide_eq_true_iff]
theorem ord_sort {l : List (Int × Int)} (h : l.Nodup) : (l.mergeSort leP).Pairwise ltP := by
  have h1 : (l.mergeSort leP).Pairwise fun a b => leP a b = true := List.pairwise_mergeSort (fun a b c h1 h2 => by
    rw [leP_iff] at *; omega) (fun a b => by
    have : leP a b = true ∨ leP b a = true := by rw [leP_iff, leP_iff]; omega
    rcases this with h | h <;> simp [h]) l
  have h2 : (l.mergeSort leP).Pairwise (· ≠ ·) := ((List.mergeSort_perm l leP).nodup_iff).mpr h
  refine (h1.and h2).imp ?_
  rintro ⟨a, b⟩ ⟨c, d⟩ ⟨h, n⟩
  rw [leP_iff] at h
  unfold ltP
  dsimp only at h ⊢
  have : ¬ (a = c ∧ b = d) := fun ⟨x, y⟩ => n (by rw [x, y])
  omega
theorem leTs_pp (p q : Int × Int) : leTs [p.1, p.2] [q.1, q.2] = decide (p.1 < q.1 ∨ (p.1 = q.1 ∧ p.2 ≤ q.2)) := by
  unfold leTs
  show Ob.lexAt _ _ _ 0 2 = _
  rw [Ob.lexAt_succ, Ob.lexAt_succ, Ob.lexAt_zero]
  simp only [List.getD_cons_zero, List.getD_cons_succ, Nat.zero_add]
  by_cases h1 : p.1 = q.1
  · by_cases h2 : p.2 = q.2
    · simp [h1, h2]
    · simp [h1, h2]
  · simp [h1]
    omega
abbrev eA : Int × Int → DV := eP2 eI eI
theorem le_arc (p q : Int × Int) : leYo (eA p) (eA q) = some (decide (p.1 < q.1 ∨ (p.1 = q.1 ∧ p.2 ≤ q.2))) := by
  rw [← leTs_pp]
  rfl
/-- arcs in any order, each once -/
structure AK (n : Int) (ks : List (Int × Int)) : Prop where
  rng : ∀ p ∈ ks, (0 ≤ p.1 ∧ p.1 < n) ∧ (0 ≤ p.2 ∧ p.2 < n) ∧ p.1 ≠ p.2
  nd : ks.Nodup
theorem AK.nil {n : Int} : AK n [] := ⟨(fun _ h => nomatch h), .nil⟩
theorem put_keys {α : Type} (l : List (PP × α)) (k : PP) (a : α) : (putT l k a).map (·.1) = if hasT l k = true then l.map (·.1) else l.map (·.1) ++ [k] := by
  unfold putT
  split
  · rw [List.map_map]
    refine List.map_congr_left fun p _ => ?_
    show (if p.1 = k then (p.1, a) else p).1 = p.1
    split <;> rfl
  · rw [List.map_append]; rfl
theorem has_iff {α : Type} {l : List (PP × α)} {k : PP} : hasT l k = true ↔ k ∈ l.map (·.1) := by
  unfold hasT
  rw [List.any_eq_true, List.mem_map]
  simp
theorem AK.put {α : Type} {n : Int} {l : List (PP × α)} {k : PP} {a : α} (h : AK n (l.map (·.1))) (hk : (0 ≤ k.1 ∧ k.1 < n) ∧ (0 ≤ k.2 ∧ k.2 < n) ∧ k.1 ≠ k.2) : AK n ((putT l k a).map (·.1)) := by
  rw [put_keys]
  split
  · exact h
  · next hn =>
    rw [has_iff] at hn
    refine ⟨fun p hp => ?_, List.nodup_append.2 ⟨h.nd, by simp, fun x hx y hy => ?_⟩⟩
    · rcases List.mem_append.1 hp with hp | hp
      · exact h.rng p hp
      · rw [List.mem_singleton.1 hp]; exact hk
    · rw [List.mem_singleton.1 hy]
      rintro rfl
      exact hn hx
theorem AK.del {α : Type} {n : Int} {l : List (PP × α)} {k : PP} (h : AK n (l.map (·.1))) : AK n ((delT l k).map (·.1)) := by
  have s : ((delT l k).map (·.1)).Sublist (l.map (·.1)) := List.Sublist.map _ List.filter_sublist
  exact ⟨fun p hp => h.rng p (s.subset hp), h.nd.sublist s⟩
theorem put_len {α : Type} (l : List (PP × α)) (k : PP) (a : α) : (putT l k a).length ≤ l.length + 1 := by
  unfold putT; split <;> simp
theorem del_len {α : Type} (l : List (PP × α)) (k : PP) : (delT l k).length ≤ l.length := List.length_filter_le ..
theorem get_has {α : Type} {l : List (PP × α)} {k : PP} (h : hasT l k = true) : ∃ a, getT l k = some a := by
  have := get_isSome l k
  rw [h] at this
  exact Option.isSome_iff_exists.1 this
theorem AK.sort {n : Int} {ks : List (Int × Int)} (h : AK n ks) (lo : 1 ≤ n) (hi : n ≤ 12) (hl : ks.length ≤ 1000) : VN n (ks.mergeSort leP) where
  lo := lo
  hi := hi
  rng := fun p hp => h.rng p ((List.mergeSort_perm ks leP).mem_iff.1 hp)
  ord := ord_sort h.nd
  len := by rw [List.length_mergeSort]; exact hl
/-- whom a place knows; whom each place knows -/
def kw (as : List (Int × Int)) (i : Int) : List Int := (as.filter fun p => decide (p.1 = i)).map fun p => p.2
def kn (n : Int) (as : List (Int × Int)) : List (List Int) := (rngT 0 n).map (kw as)
theorem kn_len {n : Int} {as : List (Int × Int)} (h : 0 ≤ n) : ((kn n as).length : Int) = n := by
  unfold kn
  rw [List.length_map, rng_len]
  omega
theorem kn_at {n : Int} {as : List (Int × Int)} {i : Int} (h0 : 0 ≤ i) (h1 : i < n) : L2.atI (kn n as) i = some (kw as i) := by
  rw [at_nat h0 (by rw [kn_len (by omega)]; exact h1)]
  unfold kn
  rw [List.getElem?_map, rng_get (by omega), Option.map_some, show (0 : Int) + (i.toNat : Int) = i by omega]
theorem mem_kw {as : List (Int × Int)} {i j : Int} : j ∈ kw as i ↔ (i, j) ∈ as := by
  unfold kw
  rw [List.mem_map]
  constructor
  · rintro ⟨⟨a, b⟩, h, rfl⟩
    obtain ⟨h1, h2⟩ := List.mem_filter.1 h
    rw [← of_decide_eq_true h2]; exact h1
  · intro h
    exact ⟨(i, j), List.mem_filter.2 ⟨h, by simp⟩, rfl⟩
theorem kw_len {as : List (Int × Int)} {i : Int} : (kw as i).length ≤ as.length := by
  unfold kw; rw [List.length_map]; exact List.length_filter_le ..
def LotOf (n : Int) (lot : List Int) : Prop := lot.Pairwise (· < ·) ∧ ∀ x ∈ lot, 0 ≤ x ∧ x < n
theorem LotOf.nil {n : Int} : LotOf n [] := ⟨.nil, fun _ h => nomatch h⟩
theorem LotOf.filter {n : Int} {l : List Int} (h : LotOf n l) (c : Int → Bool) : LotOf n (l.filter c) := ⟨h.1.sublist List.filter_sublist, fun x hx => h.2 x (List.mem_filter.1 hx).1⟩
theorem LotOf.snoc {n : Int} {l : List Int} (h : LotOf n l) (hn : 0 ≤ n) : LotOf (n + 1) (l ++ [n]) := ⟨List.pairwise_append.2 ⟨h.1, List.pairwise_singleton .., fun y hy z hz => by rw [List.mem_singleton.1 hz]; exact (h.2 y hy).2⟩, fun y hy => by
  rcases List.mem_append.1 hy with hy | hy
  · have := h.2 y hy; omega
  · rw [List.mem_singleton.1 hy]; omega⟩
theorem LotOf.mono {n m : Int} {l : List Int} (h : LotOf n l) (hn : n ≤ m) : LotOf m l := ⟨h.1, fun x hx => by have := h.2 x hx; omega⟩
theorem LotOf.nd {n : Int} {l : List Int} (h : LotOf n l) : l.Nodup := h.1.imp fun h => Int.ne_of_lt h
theorem LotOf.len {n : Int} {l : List Int} (h : LotOf n l) (hn : 0 ≤ n) : l.length ≤ n.toNat := nodup_len n.toNat h.nd fun x hx => by have := h.2 x hx; omega
/-- each place of it knows one of it -/
def Stab (as : List (Int × Int)) (S : List Int) : Prop := ∀ i ∈ S, ∃ j ∈ kw as i, j ∈ S
/-- there is no ring within -/
def NoRing (as : List (Int × Int)) (L : List Int) : Prop := ∀ S, Stab as S → (∀ x ∈ S, x ∈ L) → S = []
theorem mem_T {α : Type} [DecidableEq α] {x : α} {l : List α} : memT x l = true ↔ x ∈ l := by
  unfold memT; simp
theorem stab_in {as : List (Int × Int)} {S L : List Int} (h : Stab as S) (hs : ∀ x ∈ S, x ∈ L) : ∀ x ∈ S, x ∈ L.filter fun i => ((kw as i).map fun j => memT j L).any id := fun x hx => by
  refine List.mem_filter.2 ⟨hs x hx, ?_⟩
  obtain ⟨j, hj, hjs⟩ := h x hx
  rw [List.any_eq_true]
  exact ⟨true, List.mem_map.2 ⟨j, hj, mem_T.2 (hs j hjs)⟩, rfl⟩
end KN
namespace Lk09
open PySem PySem.Spec L2 KS
def kc_Net : Nat → Option Bool := fun c => if c = 0 then some true else none
def tI_SayError : Nat → Bool
  | 0 => true
  | 1 => true
  | _ => false
def tI_InvalidNumber : Nat → Bool
  | 0 => false
  | 1 => false
  | _ => false
def tI_InvalidMatrix : Nat → Bool
  | 0 => false
  | 1 => false
  | _ => false
def tI_InvalidAudience : Nat → Bool
  | 0 => false
  | 1 => false
  | _ => false
def tI_InvalidDeed : Nat → Bool
  | 0 => false
  | 1 => false
  | _ => false
def tI_InvalidNet : Nat → Bool
  | 0 => true
  | 1 => false
  | _ => false
def tI_InvalidLot : Nat → Bool
  | 0 => false
  | 1 => true
  | _ => false
def tI_InvalidWord : Nat → Bool
  | 0 => false
  | 1 => false
  | _ => false
def tI_InvalidWords : Nat → Bool
  | 0 => false
  | 1 => false
  | _ => false
def tI_InvalidSignals : Nat → Bool
  | 0 => false
  | 1 => false
  | _ => false
def tI_InvalidLosses : Nat → Bool
  | 0 => false
  | 1 => false
  | _ => false
def tI_InvalidText : Nat → Bool
  | 0 => false
  | 1 => false
  | _ => false
def tI_InvalidLine : Nat → Bool
  | 0 => false
  | 1 => false
  | _ => false
def tI_UnknownWord : Nat → Bool
  | 0 => false
  | 1 => false
  | _ => false
def tI_TooMany : Nat → Bool
  | 0 => false
  | 1 => false
  | _ => false
def tI_Undefined : Nat → Bool
  | 0 => false
  | 1 => false
  | _ => false
def tI_NothingToUndo : Nat → Bool
  | 0 => false
  | 1 => false
  | _ => false
def tB_ValueError : Nat → Bool
  | 0 => true
  | 1 => true
  | _ => false
def xf_value : Nat → Option Nat
  | 0 => none
  | 1 => some 0
  | _ => none
def g_law_pool : Sv :=
  (sSeq (sSetF 2 (eLst aNil))
  (sSeq (sSet 3 (eC (.int 1)))
  (sSeq (sFor (iK [false, false, false, false, true, true, true, true, true] (iVal (eVar 0))) (tgN 4)
  (sK [false, false, false, false, true, true, true, true, true] (sSeq (sSet 5 (eOp1 intF (eOp1 absF (eVar 4))))
  (sSeq (sKn [false, false, false, false, false, true, true, true, true] (sIf (bE (eOp2 geF (eVar 5) (eOp2 powF (eC (.int 10)) (eC (.int 18)))))
  (sSeq (sFor (iK [false, false, false, false, false, false, true, false, false] (iRg1 (eOp2 min2F (eC (.int 60)) (eOp2 subF (eVar 1) (eOp1 lenF (ePl 2)))))) (tgN 6)
  (sK [false, false, false, false, false, false, true, false, false] (sSeq (sX (eMut 2 isLstD true appM (aCons (eOp2 modF (eOp1 intF (eVar 5)) (eC (.int 2520))) aNil)))
  (sSeq (sSet 5 (eOp2 fdivF (eVar 5) (eC (.int 2520))))
  (sSeq (sIf (bE (eOp2 eqF (eVar 5) (eC (.int 0))))
  (sSeq sBrk
  sNx)
  sNx)
  sNx)))))
  sNx)
  (sSeq (sSet 7 (eOp2 modF (eOp1 intF (eOp2 addF (eOp2 addF (eOp2 mulF (eVar 4) (eC (.int 48271))) (eOp2 mulF (eOp1 lenF (ePl 2)) (eC (.int 69621)))) (eC (.int 11)))) (eC (.int 2147483647))))
  (sSeq (sSet 8 (eOp2 modF (eOp1 intF (eOp2 addF (eOp2 mulF (eVar 7) (eVar 7)) (eC (.int 5)))) (eC (.int 2147483629))))
  (sSeq (sX (eMut 2 isLstD true appM (aCons (eOp2 modF (eOp1 intF (eOp2 fdivF (eVar 8) (eC (.int 7)))) (eC (.int 2520))) aNil)))
  (sSeq (sX (eMut 2 isLstD true appM (aCons (eOp2 modF (eOp2 modF (eOp1 intF (eOp2 addF (eOp2 mulF (eVar 8) (eC (.int 16807))) (eVar 7))) (eC (.int 2147483587))) (eC (.int 2520))) aNil)))
  sNx))))))
  (sSeq (sSet 3 (eOp2 modF (eOp1 intF (eOp2 addF (eOp2 mulF (eVar 3) (eC (.int 263))) (eVar 4))) (eC (.int 1000003))))
  sNx)))))
  (sSeq (sFor (iK [false, false, false, false, false, false, true, false, false] (iRg1 (eVar 1))) (tgN 6)
  (sK [false, false, false, false, false, false, true, false, false] (sSeq (sSet 3 (eOp2 modF (eOp1 intF (eOp2 addF (eOp2 addF (eOp2 mulF (eVar 3) (eC (.int 48271))) (eOp2 mulF (eVar 6) (eC (.int 69621)))) (eC (.int 17)))) (eC (.int 2147483647))))
  (sSeq (sX (eMut 2 isLstD true appM (aCons (eOp2 modF (eOp1 intF (eOp2 fdivF (eVar 3) (eC (.int 5)))) (eC (.int 2520))) aNil)))
  sNx))))
  (sSeq (sSetF 2 (eSlF (ePl 2) oNone (oSome (eVar 1))))
  (sSeq (sX (eMut 2 isLstD false revM (fun fr => .ok [] fr)))
  (sSeq (sRetV 2)
  sNx)))))))
def fn_law_pool : Fn := runFn 2 9 g_law_pool
def g_law_draw : Sv :=
  (sSeq (sIf (bE (eOp2 eqF (eOp1 lenF (ePl 0)) (eC (.int 0))))
  (sSeq (sRet (eC (.int 0)))
  sNx)
  sNx)
  (sSeq (sRet (eOp2 modF (eOp1 intF (eMut 0 isLstD false popM (fun fr => .ok [] fr))) (eVar 1)))
  sNx))
def fn_law_draw : Fn := runFn 2 2 g_law_draw
def g_law_arcs : Sv :=
  (sSeq (sSet 3 (eOp2 addF (eC (.int 1)) (eCall [true, false] fn_law_draw (aCons (ePl 0) (aCons (eVar 1) aNil)))))
  (sSeq (sSetF 4 (eC (dTm [])))
  (sSeq (sKn [false, false, false, false, false, true, true, true, true, true, true, true, true] (sIf (bE (eOp2 ltA (eCall [true, false] fn_law_draw (aCons (ePl 0) (aCons (eC (.int 6)) aNil))) (eVar 2)))
  (sSeq (sSet 3 (eC (.int 5)))
  (sSeq (sSet 5 (eCall [true, false] fn_law_draw (aCons (ePl 0) (aCons (eC (.int 5)) aNil))))
  (sSeq (sSet 6 (eOp2 addF (eC (.int 1)) (eCall [true, false] fn_law_draw (aCons (ePl 0) (aCons (eC (.int 2)) aNil)))))
  (sSeq (sFor (iK [false, false, false, false, false, false, false, true, true, true, false, false, false] (iRg1 (eC (.int 5)))) (tgN 7)
  (sK [false, false, false, false, false, false, false, true, true, true, false, false, false] (sSeq (sSet 8 (eOp2 modF (eOp1 intF (eOp2 addF (eVar 5) (eOp2 mulF (eVar 7) (eVar 6)))) (eC (.int 5))))
  (sSeq (sSet 9 (eOp2 modF (eOp1 intF (eOp2 addF (eOp2 addF (eVar 5) (eOp2 mulF (eVar 7) (eVar 6))) (eVar 6))) (eC (.int 5))))
  (sSeq (sDput 4 (aCons (eVar 8) (aCons (eVar 9) aNil)) (eC (.bl true)))
  (sSeq (sDput 4 (aCons (eVar 9) (aCons (eVar 8) aNil)) (eC (.bl true)))
  sNx))))))
  (sSeq (sFor (iK [false, false, false, false, false, false, false, true, true, true, false, false, false] (iRg1 (eCall [true, false] fn_law_draw (aCons (ePl 0) (aCons (eC (.int 4)) aNil))))) (tgN 7)
  (sK [false, false, false, false, false, false, false, true, true, true, false, false, false] (sSeq (sSet 8 (eCall [true, false] fn_law_draw (aCons (ePl 0) (aCons (eC (.int 5)) aNil))))
  (sSeq (sSet 9 (eOp2 modF (eOp1 intF (eOp2 addF (eOp2 addF (eVar 8) (eC (.int 1))) (eCall [true, false] fn_law_draw (aCons (ePl 0) (aCons (eC (.int 4)) aNil))))) (eC (.int 5))))
  (sSeq (sIf (bE (eDin 4 (aCons (eVar 8) (aCons (eVar 9) aNil))))
  (sSeq (sX (eDpop 4 (aCons (eVar 8) (aCons (eVar 9) aNil))))
  sNx)
  (sSeq (sDput 4 (aCons (eVar 8) (aCons (eVar 9) aNil)) (eC (.bl true)))
  sNx))
  sNx)))))
  sNx)))))
  (sSeq (sSet 10 (eOp2 ixF (eLst (aCons (eC (.int 1)) (aCons (eC (.int 2)) (aCons (eC (.int 3)) (aCons (eC (.int 5)) (aCons (eC (.int 6)) aNil)))))) (eCall [true, false] fn_law_draw (aCons (ePl 0) (aCons (eC (.int 5)) aNil)))))
  (sSeq (sFor (iK [false, false, false, false, false, false, false, false, false, false, false, true, true] (iRg1 (eVar 3))) (tgN 11)
  (sK [false, false, false, false, false, false, false, false, false, false, false, true, true] (sSeq (sFor (iK [false, false, false, false, false, false, false, false, false, false, false, false, true] (iRg1 (eVar 3))) (tgN 12)
  (sK [false, false, false, false, false, false, false, false, false, false, false, false, true] (sSeq (sIf (bAnd (bE (eOp2 neF (eVar 11) (eVar 12))) (bE (eOp2 ltA (eCall [true, false] fn_law_draw (aCons (ePl 0) (aCons (eC (.int 6)) aNil))) (eVar 10))))
  (sSeq (sDput 4 (aCons (eVar 11) (aCons (eVar 12) aNil)) (eC (.bl true)))
  sNx)
  sNx)
  sNx)))
  sNx)))
  sNx))))
  (sSeq (sRet (eTup (aCons (eVar 3) (aCons (eOp1 tupF (eSortD 4)) aNil))))
  sNx))))
def fn_law_arcs : Fn := runFn 3 13 g_law_arcs
def g_is_below : Sv :=
  (sSeq (sRet (eAnd (eOp1 (isiF .int) (eVar 0)) (eAnd (eNot (eOp1 (isiF .bl) (eVar 0))) (eChain leA ltA (eC (.int 0)) (eVar 0) (eVar 1)))))
  sNx)
def fn_is_below : Fn := runFn 2 2 g_is_below
def g_first_wrong_arc : Sv :=
  (sSeq (sIf (bNot (bE (eOp1 (isiTF [.lst, .tup]) (eVar 1))))
  (sSeq (sRet (eC (.int 0)))
  sNx)
  sNx)
  (sSeq (sSet 2 (eTup (aCons (eOp1 negF (eC (.int 1))) (aCons (eOp1 negF (eC (.int 1))) aNil))))
  (sSeq (sFor (iK [false, false, false, true, true, false] (iEn (eVar 1))) (tgT [3, 4])
  (sK [false, false, false, true, true, false] (sSeq (sIf (bOr (bNot (bE (eOp1 (isiF .tup) (eVar 4)))) (bOr (bE (eOp2 neF (eOp1 lenF (eVar 4)) (eC (.int 2)))) (bNot (bE (eOp1 allF (eComp [5] (iVal (eVar 4)) (tgN 5) bYes (eCall [false, false] fn_is_below (aCons (eVar 5) (aCons (eVar 0) aNil)))))))))
  (sSeq (sRet (eVar 3))
  sNx)
  sNx)
  (sSeq (sIf (bOr (bE (eOp2 eqF (eOp2 ixF (eVar 4) (eC (.int 0))) (eOp2 ixF (eVar 4) (eC (.int 1))))) (bE (eOp2 leA (eVar 4) (eVar 2))))
  (sSeq (sRet (eVar 3))
  sNx)
  sNx)
  (sSeq (sSet 2 (eVar 4))
  sNx)))))
  (sSeq (sRet (eC .non))
  sNx))))
def fn_first_wrong_arc : Fn := runFn 2 6 g_first_wrong_arc
def g_Net_init : Sv :=
  (sSeq (sIf (bOr (bNot (bE (eCall [false, false] fn_is_below (aCons (eVar 1) (aCons (eOp2 addF (eC (.int 12)) (eC (.int 1))) aNil))))) (bE (eOp2 ltA (eVar 1) (eC (.int 1)))))
  (sSeq (sRaise 0 2 (aCons (eC (.str (PySem.Str.ofString "size"))) (aCons (eC (.int 0)) aNil)))
  sNx)
  sNx)
  (sSeq (sSet 3 (eCall [false, false] fn_first_wrong_arc (aCons (eVar 1) (aCons (eVar 2) aNil))))
  (sSeq (sIf (bE (eOp2 notNF (eVar 3) (eC .non)))
  (sSeq (sRaise 0 2 (aCons (eC (.str (PySem.Str.ofString "arcs"))) (aCons (eVar 3) aNil)))
  sNx)
  sNx)
  (sSeq (sFldS 0 0 [0] (eVar 1))
  (sSeq (sFldS 0 1 [0] (eOp1 tupF (eVar 2)))
  (sSeq (sFldS 0 2 [0] (eOp1 tupF (eComp [4] (iRg1 (eVar 1)) (tgN 4) bYes (eOp1 tupF (eComp [5, 6] (iVal (eAttr [0] 1 (ePl 0))) (tgT [5, 6]) (bE (eOp2 eqF (eVar 5) (eVar 4))) (eVar 6))))))
  sNx))))))
def fn_Net_init : Fn := runFn 3 7 g_Net_init
def g_stripped : Sv :=
  (sSeq (sSet 2 (eOp1 lstF (eVar 1)))
  (sSeq (sSet 3 (eOp2 addF (eOp1 lenF (eVar 2)) (eC (.int 1))))
  (sSeq (kS [false, false, false, false, false, false] (sWhile (bE (eOp2 ltA (eOp1 lenF (eVar 2)) (eVar 3)))
  (sK [false, false, false, false, false, false] (sSeq (sSet 3 (eOp1 lenF (eVar 2)))
  (sSeq (sSet 2 (eComp [4] (iVal (eVar 2)) (tgN 4) (bE (eOp1 anyF (eComp [5] (iVal (eOp2 ixF (eAttr [0] 2 (eVar 0)) (eVar 4))) (tgN 5) bYes (eOp2 inA2 (eVar 5) (eVar 2))))) (eVar 4)))
  sNx)))))
  (sSeq (sRet (eVar 2))
  sNx))))
def fn_stripped : Fn := runFn 2 6 g_stripped
def g_some_ring : Sv :=
  (sSeq (sSet 1 (eCall [false, false] fn_stripped (aCons (eVar 0) (aCons (eOp1 rgLF (eAttr [0] 0 (eVar 0))) aNil))))
  (sSeq (sIf (bNot (bTru (eVar 1)))
  (sSeq (sRet (eC .non))
  sNx)
  sNx)
  (sSeq (sSetF 2 (eLst (aCons (eOp2 ixF (eVar 1) (eC (.int 0))) aNil)))
  (sSeq (sFor (iK [false, false, false, true, true, false] (iRg1 (eAttr [0] 0 (eVar 0)))) (tgN 3)
  (sK [false, false, false, true, true, false] (sSeq (sSet 4 (eOp2 ixF (eComp [5] (iVal (eOp2 ixF (eAttr [0] 2 (eVar 0)) (eOp2 ixF (ePl 2) (eOp1 negF (eC (.int 1)))))) (tgN 5) (bE (eOp2 inA2 (eVar 5) (eVar 1))) (eVar 5)) (eC (.int 0))))
  (sSeq (sIf (bE (eOp2 inA2 (eVar 4) (ePl 2)))
  (sSeq (sRet (eOp1 tupF (eSlF (ePl 2) (oSome (eLM isLstD idxF (ePl 2) (eVar 4))) oNone)))
  sNx)
  sNx)
  (sSeq (sX (eMut 2 isLstD true appM (aCons (eVar 4) aNil)))
  sNx)))))
  (sSeq (sRet (eC .non))
  sNx)))))
def fn_some_ring : Fn := runFn 1 6 g_some_ring
def g_law_knows : Sv :=
  (sSeq (sRet (eOp1 tupF (eComp [2] (iVal (eOp2 ixF (eVar 0) (eC (.int 1)))) (tgN 2) (bE (eOp2 eqF (eOp2 ixF (eVar 2) (eC (.int 0))) (eVar 1))) (eOp2 ixF (eVar 2) (eC (.int 1))))))
  sNx)
def fn_law_knows : Fn := runFn 2 3 g_law_knows
def g_law_walked : Sv :=
  (sSeq (sSetF 2 (eLst (aCons (eCall [true, false] fn_law_draw (aCons (ePl 0) (aCons (eOp2 ixF (eVar 1) (eC (.int 0))) aNil))) aNil)))
  (sSeq (sFor (iK [false, false, false, true, true, true] (iRg1 (eC (.int 12)))) (tgN 3)
  (sK [false, false, false, true, true, true] (sSeq (sSet 4 (eCall [false, false] fn_law_knows (aCons (eVar 1) (aCons (eOp2 ixF (ePl 2) (eOp1 negF (eC (.int 1)))) aNil))))
  (sSeq (sIf (bE (eOp2 eqF (eOp1 lenF (eVar 4)) (eC (.int 0))))
  (sSeq (sRet (eOp1 tupF (ePl 2)))
  sNx)
  sNx)
  (sSeq (sSet 5 (eOp2 ixF (eVar 4) (eCall [true, false] fn_law_draw (aCons (ePl 0) (aCons (eOp1 lenF (eVar 4)) aNil)))))
  (sSeq (sIf (bE (eOp2 inA2 (eVar 5) (ePl 2)))
  (sSeq (sRet (eOp1 tupF (eSlF (ePl 2) (oSome (eLM isLstD idxF (ePl 2) (eVar 5))) oNone)))
  sNx)
  sNx)
  (sSeq (sX (eMut 2 isLstD true appM (aCons (eVar 5) aNil)))
  sNx)))))))
  (sSeq (sRet (eOp1 tupF (ePl 2)))
  sNx)))
def fn_law_walked : Fn := runFn 2 6 g_law_walked
def g_law_value : Sv :=
  (sSeq (sSet 2 (eCall [true, false] fn_law_walked (aCons (ePl 0) (aCons (eVar 1) aNil))))
  (sSeq (sSet 3 (eCall [true, false] fn_law_draw (aCons (ePl 0) (aCons (eOp1 lenF (eVar 2)) aNil))))
  (sSeq (sSet 4 (eCall [true, false] fn_law_draw (aCons (ePl 0) (aCons (eC (.int 15)) aNil))))
  (sSeq (sSet 5 (eCall [true, false] fn_law_draw (aCons (ePl 0) (aCons (eC (.int 10)) aNil))))
  (sSeq (sIf (bE (eOp2 ltA (eVar 5) (eC (.int 3))))
  (sSeq (sRet (eOp2 addF (eSl (eVar 2) (oSome (eVar 3)) oNone) (eSl (eVar 2) oNone (oSome (eVar 3)))))
  sNx)
  sNx)
  (sSeq (sIf (bE (eOp2 eqF (eVar 5) (eC (.int 3))))
  (sSeq (sRet (eOp1 revF (eVar 2)))
  sNx)
  sNx)
  (sSeq (sIf (bE (eOp2 eqF (eVar 5) (eC (.int 4))))
  (sSeq (sRet (eOp2 addF (eSl (eVar 2) oNone (oSome (eVar 3))) (eSl (eVar 2) (oSome (eOp2 addF (eVar 3) (eC (.int 1)))) oNone)))
  sNx)
  sNx)
  (sSeq (sIf (bE (eOp2 eqF (eVar 5) (eC (.int 5))))
  (sSeq (sRet (eOp2 addF (eVar 2) (eSl (eVar 2) (oSome (eVar 3)) oNone)))
  sNx)
  sNx)
  (sSeq (sIf (bE (eOp2 eqF (eVar 5) (eC (.int 6))))
  (sSeq (sRet (eOp2 addF (eOp2 addF (eSl (eVar 2) oNone (oSome (eVar 3))) (eTup (aCons (eOp2 ixF (eLst (aCons (eVar 4) (aCons (eOp1 negF (eC (.int 1))) (aCons (eC (.bl true)) (aCons (eC .non) (aCons (eC (.str (PySem.Str.ofString "0"))) (aCons (eTup (aCons (eC (.int 0)) aNil)) aNil))))))) (eCall [true, false] fn_law_draw (aCons (ePl 0) (aCons (eC (.int 6)) aNil)))) aNil))) (eSl (eVar 2) (oSome (eOp2 addF (eVar 3) (eC (.int 1)))) oNone)))
  sNx)
  sNx)
  (sSeq (sIf (bE (eOp2 eqF (eVar 5) (eC (.int 7))))
  (sSeq (sRet (eOp2 ixF (eLst (aCons (eOp1 lstF (eVar 2)) (aCons (eC .non) (aCons (eVar 4) (aCons (eC (.str (PySem.Str.ofString ""))) (aCons (eOp2 ixF (eVar 2) (eC (.int 0))) (aCons (eTup aNil) (aCons (eTup (aCons (eTup (aCons (eC (.int 0)) (aCons (eC (.int 1)) aNil))) aNil)) (aCons (eC (.bl true)) aNil))))))))) (eCall [true, false] fn_law_draw (aCons (ePl 0) (aCons (eC (.int 8)) aNil)))))
  sNx)
  sNx)
  (sSeq (sRet (eOp1 tupF (eComp [6] (iRg1 (eCall [true, false] fn_law_draw (aCons (ePl 0) (aCons (eC (.int 6)) aNil)))) (tgN 6) bYes (eCall [true, false] fn_law_draw (aCons (ePl 0) (aCons (eOp2 ixF (eVar 1) (eC (.int 0))) aNil))))))
  sNx)))))))))))
def fn_law_value : Fn := runFn 2 7 g_law_value
def g_is_ring : Sv :=
  (sSeq (sIf (bOr (bNot (bE (eOp1 (isiOF .tup [0]) (eVar 1)))) (bOr (bE (eOp2 eqF (eOp1 lenF (eVar 1)) (eC (.int 0)))) (bNot (bE (eOp1 allF (eComp [3] (iVal (eVar 1)) (tgN 3) bYes (eCall [false, false] fn_is_below (aCons (eVar 3) (aCons (eAttr [0] 0 (eVar 0)) aNil)))))))))
  (sSeq (sRet (eC (.bl false)))
  sNx)
  sNx)
  (sSeq (sIf (bE (eOp2 ltA (eOp1 lenSetF (eVar 1)) (eOp1 lenF (eVar 1))))
  (sSeq (sRet (eC (.bl false)))
  sNx)
  sNx)
  (sSeq (sSet 2 (eOp2 addF (eSl (eVar 1) (oSome (eC (.int 1))) oNone) (eSl (eVar 1) oNone (oSome (eC (.int 1))))))
  (sSeq (sRet (eOp1 allF (eComp [3, 4] (iZp (eVar 1) (eVar 2)) (tgT [3, 4]) bYes (eOp2 inA2 (eVar 4) (eOp2 ixF (eAttr [0] 2 (eVar 0)) (eVar 3))))))
  sNx))))
def fn_is_ring : Fn := runFn 2 5 g_is_ring
def g_law_ringless : Sv :=
  (sSeq (sSet 2 (eOp1 lstF (eVar 1)))
  (sSeq (sFor (iK [false, false, false, true, true, false, false] (iRg1 (eOp1 lenF (eVar 1)))) (tgN 3)
  (sK [false, false, false, true, true, false, false] (sSeq (sSet 4 (eComp [5] (iVal (eVar 2)) (tgN 5) (bE (eOp2 eqF (eOp1 lenF (eComp [6] (iVal (eVar 0)) (tgN 6) (bAnd (bE (eOp2 eqF (eOp2 ixF (eVar 6) (eC (.int 0))) (eVar 5))) (bE (eOp2 inA2 (eOp2 ixF (eVar 6) (eC (.int 1))) (eVar 2)))) (eVar 6))) (eC (.int 0)))) (eVar 5)))
  (sSeq (sSet 2 (eComp [5] (iVal (eVar 2)) (tgN 5) (bE (eOp2 notInA2 (eVar 5) (eVar 4))) (eVar 5)))
  sNx))))
  (sSeq (sRet (eOp2 eqF (eOp1 lenF (eVar 2)) (eC (.int 0))))
  sNx)))
def fn_law_ringless : Fn := runFn 2 7 g_law_ringless
def g_is_lot : Sv :=
  (sSeq (sIf (bOr (bNot (bE (eOp1 (isiF .tup) (eVar 0)))) (bNot (bE (eOp1 allF (eComp [2] (iVal (eVar 0)) (tgN 2) bYes (eCall [false, false] fn_is_below (aCons (eVar 2) (aCons (eVar 1) aNil))))))))
  (sSeq (sRet (eC (.bl false)))
  sNx)
  sNx)
  (sSeq (sRet (eOp1 allF (eComp [3, 4] (iZp (eVar 0) (eSl (eVar 0) (oSome (eC (.int 1))) oNone)) (tgT [3, 4]) bYes (eOp2 ltA (eVar 3) (eVar 4)))))
  sNx))
def fn_is_lot : Fn := runFn 2 5 g_is_lot
def g_can_order : Sv :=
  (sSeq (sIf (bNot (bE (eCall [false, false] fn_is_lot (aCons (eVar 1) (aCons (eAttr [0] 0 (eVar 0)) aNil)))))
  (sSeq (sRaise 1 1 (aCons (eVar 1) aNil))
  sNx)
  sNx)
  (sSeq (sRet (eOp2 eqF (eOp1 lenF (eCall [false, false] fn_stripped (aCons (eVar 0) (aCons (eVar 1) aNil)))) (eC (.int 0))))
  sNx))
def fn_can_order : Fn := runFn 2 2 g_can_order
def g_law_kinds (c : Nat) (fs : List D) : Sv :=
  (sSeq (sSetF 1 (eLst (aCons (eIsE 0 (tI_InvalidNumber c)) (aCons (eIsE 0 (tI_InvalidMatrix c)) (aCons (eIsE 0 (tI_InvalidAudience c)) aNil)))))
  (sSeq (sSetF 1 (eOp2 catF (ePl 1) (eLst (aCons (eIsE 0 (tI_InvalidNet c)) (aCons (eIsE 0 (tI_InvalidLot c)) (aCons (eIsE 0 (tI_InvalidWord c)) aNil))))))
  (sSeq (sSetF 1 (eOp2 catF (ePl 1) (eLst (aCons (eIsE 0 (tI_InvalidWords c)) (aCons (eIsE 0 (tI_InvalidSignals c)) (aCons (eIsE 0 (tI_InvalidLosses c)) aNil))))))
  (sSeq (sSetF 1 (eOp2 catF (ePl 1) (eLst (aCons (eIsE 0 (tI_InvalidText c)) (aCons (eIsE 0 (tI_InvalidLine c)) (aCons (eIsE 0 (tI_UnknownWord c)) aNil))))))
  (sSeq (sSetF 1 (eOp2 catF (ePl 1) (eLst (aCons (eIsE 0 (tI_TooMany c)) (aCons (eIsE 0 (tI_Undefined c)) (aCons (eIsE 0 (tI_NothingToUndo c)) aNil))))))
  (sSeq (sX (eMut 1 isLstD true appM (aCons (eIsE 0 (tI_InvalidDeed c)) aNil)))
  (sSeq (sRet (eFz 1))
  sNx)))))))
def X_law_kinds : Nat → List D → Option D := runX 2 g_law_kinds
def g_law_alone (c : Nat) (fs : List D) : Sv :=
  (sSeq (sSet 2 (eCallX 0 (X_law_kinds c fs)))
  (sSeq (sRet (eAnd (eIsE 0 (tI_SayError c)) (eAnd (eIsE 0 (tB_ValueError c)) (eAnd (eOp2 ixF (eVar 2) (eVar 1)) (eOp2 eqF (eLM isLstD cntF (eVar 2) (eC (.bl true))) (eC (.int 1)))))))
  sNx))
def X_law_alone : Nat → List D → List D → Option D := runXA 3 g_law_alone
def g_law_same (rec : Fn) : Sv :=
  (sSeq (sIf (bE (eOp1 (isiTF [.tup, .lst]) (eVar 1)))
  (sSeq (sIf (bOr (bNot (bE (eOp1 (isiTF [.tup, .lst]) (eVar 0)))) (bE (eOp2 neF (eOp1 (isiF .lst) (eVar 0)) (eOp1 (isiF .lst) (eVar 1)))))
  (sSeq (sRet (eC (.bl false)))
  sNx)
  sNx)
  (sSeq (sIf (bE (eOp2 neF (eOp1 lenF (eVar 0)) (eOp1 lenF (eVar 1))))
  (sSeq (sRet (eC (.bl false)))
  sNx)
  sNx)
  (sSeq (sFor (iK [false, false, true] (iRg1 (eOp1 lenF (eVar 1)))) (tgN 2)
  (sK [false, false, true] (sSeq (sIf (bNot (bE (eCall [false, false] rec (aCons (eOp2 ixF (eVar 0) (eVar 2)) (aCons (eOp2 ixF (eVar 1) (eVar 2)) aNil)))))
  (sSeq (sRet (eC (.bl false)))
  sNx)
  sNx)
  sNx)))
  (sSeq (sRet (eC (.bl true)))
  sNx))))
  sNx)
  (sSeq (sIf (bE (eOp2 isNF (eVar 1) (eC .non)))
  (sSeq (sRet (eOp2 isNF (eVar 0) (eC .non)))
  sNx)
  sNx)
  (sSeq (sIf (bE (eOp1 (isiF .bl) (eVar 1)))
  (sSeq (sRet (eAnd (eOp1 (isiF .bl) (eVar 0)) (eOp2 eqF (eVar 0) (eVar 1))))
  sNx)
  sNx)
  (sSeq (sIf (bE (eOp1 (isiF .str) (eVar 1)))
  (sSeq (sRet (eAnd (eOp1 (isiF .str) (eVar 0)) (eOp2 eqF (eVar 0) (eVar 1))))
  sNx)
  sNx)
  (sSeq (sRet (eAnd (eOp1 (isiF .int) (eVar 0)) (eAnd (eNot (eOp1 (isiF .bl) (eVar 0))) (eOp2 eqF (eVar 0) (eVar 1)))))
  sNx)))))
def fn_law_sameN : Nat → Fn
  | 0 => fun _ => .bad
  | n + 1 => runFn 2 3 (g_law_same (fn_law_sameN n))
def fn_law_same : Fn := fn_law_sameN 6
def g_law_refused : Sv :=
  (sSeq (sKn [false, false, false] (sTry 2
  (sSeq (sX (eCall [false, false] fn_can_order (aCons (eVar 0) (aCons (eVar 1) aNil))))
  sNx)
  [⟨tI_SayError, some 2, fun c fs =>
  (sSeq (sRet (eAnd (eCallXA 2 (X_law_alone c fs) 1 (aCons (eC (.int 4)) aNil)) (eCall [false, false] fn_law_same (aCons (eXf 2 (xf_value c) fs) (aCons (eVar 1) aNil)))))
  sNx)⟩]))
  (sSeq (sRet (eC (.bl false)))
  sNx))
def fn_law_refused : Fn := runFn 2 3 g_law_refused
def g_law_is_ring : Sv :=
  (sSeq (sIf (bOr (bNot (bE (eOp1 (isiF .tup) (eVar 1)))) (bE (eOp2 eqF (eOp1 lenF (eVar 1)) (eC (.int 0)))))
  (sSeq (sRet (eC (.bl false)))
  sNx)
  sNx)
  (sSeq (sFor (iK [false, false, true] (iRg1 (eOp1 lenF (eVar 1)))) (tgN 2)
  (sK [false, false, true] (sSeq (sIf (bOr (bNot (bE (eOp1 (isiF .int) (eOp2 ixF (eVar 1) (eVar 2))))) (bOr (bE (eOp1 (isiF .bl) (eOp2 ixF (eVar 1) (eVar 2)))) (bE (eOp2 inA2 (eOp2 ixF (eVar 1) (eVar 2)) (eSl (eVar 1) oNone (oSome (eVar 2)))))))
  (sSeq (sRet (eC (.bl false)))
  sNx)
  sNx)
  sNx)))
  (sSeq (sFor (iK [false, false, true] (iRg1 (eOp1 lenF (eVar 1)))) (tgN 2)
  (sK [false, false, true] (sSeq (sIf (bE (eOp2 notInA2 (eTup (aCons (eOp2 ixF (eVar 1) (eVar 2)) (aCons (eOp2 ixF (eVar 1) (eOp2 modF (eOp1 intF (eOp2 addF (eVar 2) (eC (.int 1)))) (eOp1 lenF (eVar 1)))) aNil))) (eOp2 ixF (eVar 0) (eC (.int 1)))))
  (sSeq (sRet (eC (.bl false)))
  sNx)
  sNx)
  sNx)))
  (sSeq (sRet (eC (.bl true)))
  sNx))))
def fn_law_is_ring : Fn := runFn 2 3 g_law_is_ring
def g_law : Sv :=
  (sSeq (sSetF 1 (eCall [false, false] fn_law_pool (aCons (eVar 0) (aCons (eC (.int 500)) aNil))))
  (sSeq (sSet 2 (eCall [true, false, false] fn_law_arcs (aCons (ePl 1) (aCons (eC (.int 9)) (aCons (eC (.int 2)) aNil)))))
  (sSeq (sSet 3 (eMake 0 fn_Net_init (aCons (eOp2 ixF (eVar 2) (eC (.int 0))) (aCons (eOp2 ixF (eVar 2) (eC (.int 1))) aNil))))
  (sSeq (sFor (iK [false, false, false, false, true, true, true, false, false, false, false, false] (iRg1 (eC (.int 8)))) (tgN 4)
  (sK [false, false, false, false, true, true, true, false, false, false, false, false] (sSeq (sSet 5 (eCall [true, false] fn_law_value (aCons (ePl 1) (aCons (eVar 2) aNil))))
  (sSeq (sSet 6 (eCall [false, false] fn_is_ring (aCons (eVar 3) (aCons (eVar 5) aNil))))
  (sSeq (sIf (bOr (bNot (bE (eOp1 (isiF .bl) (eVar 6)))) (bE (eOp2 neF (eVar 6) (eCall [false, false] fn_law_is_ring (aCons (eVar 2) (aCons (eVar 5) aNil))))))
  (sSeq (sRet (eC (.bl false)))
  sNx)
  sNx)
  sNx)))))
  (sSeq (sSet 7 (eCall [false] fn_some_ring (aCons (eVar 3) aNil)))
  (sSeq (sIf (bE (eOp2 neF (eCall [false, false] fn_law_ringless (aCons (eOp2 ixF (eVar 2) (eC (.int 1))) (aCons (eOp1 rgTF (eOp2 ixF (eVar 2) (eC (.int 0)))) aNil))) (eOp2 isNF (eVar 7) (eC .non))))
  (sSeq (sRet (eC (.bl false)))
  sNx)
  sNx)
  (sSeq (sIf (bAnd (bE (eOp2 notNF (eVar 7) (eC .non))) (bNot (bE (eCall [false, false] fn_law_is_ring (aCons (eVar 2) (aCons (eVar 7) aNil))))))
  (sSeq (sRet (eC (.bl false)))
  sNx)
  sNx)
  (sSeq (sFor (iK [false, false, false, false, true, false, true, false, true, false, false, false] (iRg1 (eC (.int 4)))) (tgN 4)
  (sK [false, false, false, false, true, false, true, false, true, false, false, false] (sSeq (sSet 8 (eOp1 tupF (eComp [11] (iRg1 (eOp2 ixF (eVar 2) (eC (.int 0)))) (tgN 11) (bE (eOp2 gtF (eCall [true, false] fn_law_draw (aCons (ePl 1) (aCons (eC (.int 3)) aNil))) (eC (.int 0)))) (eVar 11))))
  (sSeq (sSet 6 (eCall [false, false] fn_can_order (aCons (eVar 3) (aCons (eVar 8) aNil))))
  (sSeq (sIf (bOr (bNot (bE (eOp1 (isiF .bl) (eVar 6)))) (bE (eOp2 neF (eVar 6) (eCall [false, false] fn_law_ringless (aCons (eOp2 ixF (eVar 2) (eC (.int 1))) (aCons (eVar 8) aNil))))))
  (sSeq (sRet (eC (.bl false)))
  sNx)
  sNx)
  sNx)))))
  (sSeq (sSet 9 (eCall [true, false] fn_law_draw (aCons (ePl 1) (aCons (eOp2 ixF (eVar 2) (eC (.int 0))) aNil))))
  (sSeq (sSet 10 (eLst (aCons (eC .non) (aCons (eTup (aCons (eVar 9) (aCons (eVar 9) aNil))) (aCons (eLst (aCons (eVar 9) aNil)) (aCons (eTup (aCons (eOp2 ixF (eVar 2) (eC (.int 0))) aNil)) (aCons (eTup (aCons (eOp1 negF (eC (.int 1))) (aCons (eVar 9) aNil))) (aCons (eC (.str (PySem.Str.ofString "0"))) (aCons (eTup (aCons (eC (.bl true)) aNil)) (aCons (eTup (aCons (eVar 9) (aCons (eC (.int 0)) (aCons (eC (.int 1)) aNil)))) (aCons (eTup (aCons (eTup aNil) aNil)) (aCons (eC (.int 5)) (aCons (eTup (aCons (eVar 9) (aCons (eC .non) aNil))) aNil)))))))))))))
  (sSeq (sRet (eAnd (eOp2 isBF (eCall [false, false] fn_is_ring (aCons (eVar 3) (aCons (eVar 3) aNil))) (eC (.bl false))) (eCall [false, false] fn_law_refused (aCons (eVar 3) (aCons (eOp2 ixF (eVar 10) (eCall [true, false] fn_law_draw (aCons (ePl 1) (aCons (eC (.int 11)) aNil)))) aNil)))))
  sNx)))))))))))
def fn_law : Fn := runFn 1 12 g_law
end Lk09
namespace Lk09
open PySem KS KT
abbrev O_Net : Type := Int × (List (Int × Int)) × (List (List Int))
abbrev e_Net : O_Net → DV := fun p => .obj 0 [0, 1, 2] [eI p.1, (eT (eP2 eI eI)) p.2.1, (eT (eT eI)) p.2.2]
def T_law_pool (script_1 : List Int) (many_2 : Int) : O (List Int) :=
  (foldT script_1 ((([] : List Int), 1)) fun cell_3 (s_5 : (List Int) × Int) =>
  O.lt ((if cell_3 < 0 then -cell_3 else cell_3)) fun rest_7 =>
  (if (decide ((10 ^ (18 : Int).toNat) ≤ rest_7)) = true then
  O.ck (okR (if (many_2 - ((s_5.1).length : Int)) < 60 then (many_2 - ((s_5.1).length : Int)) else 60)) <|
  (loopT (ρ := List Int) (rngT 0 (if (many_2 - ((s_5.1).length : Int)) < 60 then (many_2 - ((s_5.1).length : Int)) else 60)) ((s_5.1, rest_7)) fun k_11 (s_13 : (List Int) × Int) =>
  O.ck (appC s_13.1) <|
  O.lt ((s_13.2 / 2520)) fun rest_16 =>
  (if (decide (rest_16 = 0)) = true then
  .ok (.brk (((s_13.1 ++ [(s_13.2 % 2520)]), rest_16)))
  else .ok (.nx (((s_13.1 ++ [(s_13.2 % 2520)]), rest_16))))).aft (fun s_14 =>
  .ok s_14.1) (fun _ => .bad)
  else O.lt (((((cell_3 * 48271) + (((s_5.1).length : Int) * 69621)) + 11) % 2147483647)) fun first_17 =>
  O.ck (mulC first_17 first_17) <|
  O.lt ((((first_17 * first_17) + 5) % 2147483629)) fun second_19 =>
  O.ck (appC s_5.1) <|
  O.ck (appC (s_5.1 ++ [((second_19 / 7) % 2520)])) <|
  .ok (((s_5.1 ++ [((second_19 / 7) % 2520)]) ++ [((((second_19 * 16807) + first_17) % 2147483587) % 2520)])) : O (List Int)).bind fun s_9 =>
  O.lt ((((s_5.2 * 263) + cell_3) % 1000003)) fun total_22 =>
  .ok ((s_9, total_22))).bind fun s_6 =>
  O.ck (okR many_2) <|
  (foldT (rngT 0 many_2) ((s_6.1, s_6.2)) fun k_24 (s_26 : (List Int) × Int) =>
  O.lt (((((s_26.2 * 48271) + (k_24 * 69621)) + 17) % 2147483647)) fun total_28 =>
  O.ck (appC s_26.1) <|
  .ok (((s_26.1 ++ [((total_28 / 5) % 2520)]), total_28))).bind fun s_27 =>
  O.lt ((cutT s_27.1 none (some many_2))) fun pool_here_30 =>
  .ok pool_here_30.reverse
def T_law_draw (pool_here_1 : List Int) (many_2 : Int) : O (Int × List Int) :=
  (if (decide (((pool_here_1).length : Int) = 0)) = true then
  .ok ((0, pool_here_1))
  else (O.opt pool_here_1.getLast?).bind fun x_3 =>
  O.ck (0 < many_2) <|
  .ok (((x_3 % many_2), pool_here_1.dropLast)))
def T_law_arcs (pool_here_1 : List Int) (most_2 : Int) (odds_3 : Int) : O ((Int × (List (Int × Int))) × List Int) :=
  (T_law_draw pool_here_1 most_2).no.bind fun r_4 =>
  O.lt ((1 + r_4.1)) fun size_6 =>
  (((T_law_draw r_4.2 6).no.bind fun r_9 =>
  .ok ((decide (r_9.1 < odds_3)), r_9.2) : O (Bool × (List Int))).bind fun x_11 => (if x_11.1 = true then
  (T_law_draw x_11.2 5).no.bind fun r_13 =>
  (T_law_draw r_13.2 2).no.bind fun r_15 =>
  O.lt ((1 + r_15.1)) fun step_17 =>
  (foldT (rngT 0 5) (([] : List (PP × Bool))) fun k_18 (s_20 : (List (PP × Bool))) =>
  O.ck (mulC k_18 step_17) <|
  O.lt (((r_13.1 + (k_18 * step_17)) % 5)) fun one_23 =>
  O.ck (mulC k_18 step_17) <|
  O.lt ((((r_13.1 + (k_18 * step_17)) + step_17) % 5)) fun two_25 =>
  O.ck (appC s_20) <|
  O.lt (putT s_20 (one_23, two_25) true) fun there_27 =>
  O.ck (appC there_27) <|
  O.lt (putT there_27 (two_25, one_23) true) fun there_29 =>
  .ok there_29).bind fun s_21 =>
  (T_law_draw r_15.2 4).no.bind fun r_30 =>
  O.ck (okR r_30.1) <|
  (foldT (rngT 0 r_30.1) ((r_30.2, s_21)) fun k_33 (s_35 : (List Int) × (List (PP × Bool))) =>
  (T_law_draw s_35.1 5).no.bind fun r_37 =>
  (T_law_draw r_37.2 4).no.bind fun r_39 =>
  O.lt ((((r_37.1 + 1) + r_39.1) % 5)) fun two_41 =>
  (if (hasT s_35.2 (r_37.1, two_41)) = true then
  (O.opt (getT s_35.2 (r_37.1, two_41))).bind fun r_43 =>
  .ok ((r_39.2, (delT s_35.2 (r_37.1, two_41))))
  else O.ck (appC s_35.2) <|
  O.lt (putT s_35.2 (r_37.1, two_41) true) fun there_45 =>
  .ok ((r_39.2, there_45)))).bind fun s_36 =>
  .ok ((s_36.1, 5, s_36.2))
  else (T_law_draw x_11.2 5).no.bind fun r_46 =>
  (O.opt (L2.atI [1, 2, 3, 5, 6] r_46.1)).bind fun r_49 =>
  O.ck (okR size_6) <|
  (foldT (rngT 0 size_6) ((r_46.2, ([] : List (PP × Bool)))) fun i_51 (s_53 : (List Int) × (List (PP × Bool))) =>
  O.ck (okR size_6) <|
  (foldT (rngT 0 size_6) ((s_53.1, s_53.2)) fun j_56 (s_58 : (List Int) × (List (PP × Bool))) =>
  ((if (!decide (i_51 = j_56)) = true then (T_law_draw s_58.1 6).no.bind fun r_60 =>
  .ok ((decide (r_60.1 < r_49)), r_60.2) else .ok (false, s_58.1)) : O (Bool × (List Int))).bind fun p_62 =>
  (if p_62.1 = true then
  O.ck (appC s_58.2) <|
  O.lt (putT s_58.2 (i_51, j_56) true) fun there_64 =>
  .ok ((p_62.2, there_64))
  else .ok ((p_62.2, s_58.2)))).bind fun s_59 =>
  .ok ((s_59.1, s_59.2))).bind fun s_54 =>
  .ok ((s_54.1, size_6, s_54.2)) : O ((List Int) × Int × (List (PP × Bool))))).bind fun s_8 =>
  .ok (((s_8.2.1, ((s_8.2.2.map (·.1)).mergeSort leP)), s_8.1))
def T_is_below (value_1 : DV) (many_2 : Int) : O Bool :=
  ((O.opt (isiY .int value_1)).bind fun r_9 =>
  (if r_9 = true then (O.opt (isiY .bl value_1)).bind fun r_11 =>
  (if (!r_11) = true then (O.opt (asI value_1)).bind fun r_13 =>
  .ok (((decide (0 ≤ r_13)) && (decide (r_13 < many_2)))) else .ok false) else .ok false) : O Bool).bind fun b_7 =>
  .ok b_7
def T_first_wrong_arc (size_1 : Int) (arcs_2 : DV) : O (Option Int) :=
  (O.opt (isiYs [.lst, .tup] arcs_2)).bind fun r_4 =>
  (if (!r_4) = true then
  .ok ((some 0))
  else O.lt (((eP2 eI eI) (((-1), (-1))))) fun ahead_5 =>
  (O.opt (seqY arcs_2)).bind fun r_7 =>
  (loopT (ρ := Option Int) (enumT r_7) ahead_5 fun p_8 (s_10 : DV) =>
  ((O.opt (isiY .tup p_8.2)).bind fun r_17 =>
  (if (!r_17) = true then .ok (true, ()) else (O.opt (lenY p_8.2)).bind fun r_19 =>
  (if (!decide (r_19 = 2)) = true then .ok (true, ()) else (O.opt (walkY p_8.2)).bind fun r_41 =>
  O.ck (r_41.length ≤ 16777216) <|
  (compT r_41 () fun place_43 s_44 =>
  (T_is_below place_43 size_1).no.bind fun r_46 =>
  .ok (some r_46, ())).no.bind fun l_47 =>
  .ok ((!(l_47.1.all id)), ()))) : O (Bool × Unit)).bind fun p_49 =>
  (if p_49.1 = true then
  .ok (.ret ((some p_8.1)))
  else ((O.opt (ixY p_8.2 0)).bind fun r_59 =>
  (O.opt (ixY p_8.2 1)).bind fun r_61 =>
  (O.opt (eqY r_59 r_61)).bind fun r_63 =>
  (if r_63 = true then .ok (true, ()) else (O.opt (leYo p_8.2 s_10)).bind fun r_65 =>
  .ok (r_65, ())) : O (Bool × Unit)).bind fun p_66 =>
  (if p_66.1 = true then
  .ok (.ret ((some p_8.1)))
  else .ok (.nx p_8.2)))).aft (fun s_11 =>
  .ok none) (fun r => .ok r))
def T_Net_init (size_1 : Int) (arcs_2 : DV) : O (Unit × O_Net) :=
  (T_is_below ((eI size_1)) ((12 + 1))).no.bind fun r_4 =>
  (if ((!r_4) || (decide (size_1 < 1))) = true then
  .exc 0 [(eS ((PySem.Str.ofString "size"))), (eI 0)] []
  else (T_first_wrong_arc size_1 arcs_2).no.bind fun r_6 =>
  (if (r_6).isSome = true then
  .exc 0 [(eS ((PySem.Str.ofString "arcs"))), ((eO eI) r_6)] []
  else O.lt size_1 fun size_7 =>
  (O.opt (tupY arcs_2)).bind fun r_9 =>
  (O.opt ((asT (asP2 asI asI)) r_9)).bind fun r_11 =>
  O.lt r_11 fun arcs_12 =>
  O.ck (okR size_1) <|
  O.ck (arcs_12.length ≤ 16777216) <|
  O.ck ((rngT 0 size_1).length ≤ 16777216) <|
  O.lt (((rngT 0 size_1).map fun place_14 => ((arcs_12.filter fun p_15 => (decide (p_15.1 = place_14))).map fun p_15 => p_15.2))) fun knows_18 =>
  .ok ((), (size_7, arcs_12, knows_18))))
def T_stripped (net_1 : O_Net) (places_2 : (Bool × List Int)) : O (List Int) :=
  O.lt ((places_2).2) fun left_3 =>
  O.lt ((((left_3).length : Int) + 1)) fun before_4 =>
  (whileT (ρ := List Int) 1000000000 (fun (s_8 : (List Int) × Int) => .ok ((decide (((s_8.1).length : Int) < s_8.2)))) (fun (s_6 : (List Int) × Int) =>
  O.lt (((s_6.1).length : Int)) fun before_9 =>
  O.ck (s_6.1.length ≤ 16777216) <|
  (compT s_6.1 () fun place_16 s_17 =>
  (O.opt (L2.atI net_1.2.2 place_16)).bind fun r_19 =>
  O.ck (r_19.length ≤ 16777216) <|
  (if ((r_19.map fun other_20 => (memT other_20 s_6.1)).any id) = true then .ok (some place_16, ()) else .ok (none, ()))).no.bind fun l_22 =>
  .ok (.nx ((l_22.1, before_9)))) ((left_3, before_4))).aft (fun s_7 =>
  .ok s_7.1) (fun r => .ok r)
def T_some_ring (net_1 : O_Net) : O (Option (List Int)) :=
  O.ck (okS net_1.1) <|
  (T_stripped net_1 ((false, (rngT 0 net_1.1)))).no.bind fun r_4 =>
  (if (!(!(r_4).isEmpty)) = true then
  .ok none
  else (O.opt (L2.atI r_4 0)).bind fun r_6 =>
  O.lt ([r_6]) fun way_7 =>
  O.ck (okR net_1.1) <|
  (loopT (ρ := Option (List Int)) (rngT 0 net_1.1) way_7 fun x_9 (s_11 : (List Int)) =>
  (O.opt (L2.atI s_11 (-1))).bind fun r_14 =>
  (O.opt (L2.atI net_1.2.2 r_14)).bind fun r_16 =>
  O.ck (r_16.length ≤ 16777216) <|
  (O.opt (L2.atI ((r_16.filter fun other_17 => (memT other_17 r_4)).map fun other_17 => other_17) 0)).bind fun r_20 =>
  (if (memT r_20 s_11) = true then
  (O.opt (idxI s_11 r_20)).bind fun r_22 =>
  .ok (.ret ((some (cutT s_11 (some r_22) none))))
  else O.ck (appC s_11) <|
  .ok (.nx ((s_11 ++ [r_20]))))).aft (fun s_12 =>
  .ok none) (fun r => .ok r))
def T_law_knows (net_1 : (Int × (List (Int × Int)))) (i_2 : Int) : O (List Int) :=
  O.ck (net_1.2.length ≤ 16777216) <|
  .ok (((net_1.2.filter fun arc_3 => (decide (arc_3.1 = i_2))).map fun arc_3 => arc_3.2))
def T_law_walked (pool_here_1 : List Int) (net_2 : (Int × (List (Int × Int)))) : O (List Int × List Int) :=
  (T_law_draw pool_here_1 net_2.1).no.bind fun r_3 =>
  O.lt ([r_3.1]) fun row_5 =>
  (loopT (ρ := (List Int × List Int)) (rngT 0 12) ((r_3.2, row_5)) fun k_6 (s_8 : (List Int) × (List Int)) =>
  (O.opt (L2.atI s_8.2 (-1))).bind fun r_11 =>
  (T_law_knows net_2 r_11).no.bind fun r_13 =>
  (if (decide (((r_13).length : Int) = 0)) = true then
  .ok (.ret ((s_8.2, s_8.1)))
  else (T_law_draw s_8.1 (((r_13).length : Int))).no.bind fun r_14 =>
  (O.opt (L2.atI r_13 r_14.1)).bind fun r_17 =>
  (if (memT r_17 s_8.2) = true then
  (O.opt (idxI s_8.2 r_17)).bind fun r_19 =>
  .ok (.ret (((cutT s_8.2 (some r_19) none), r_14.2)))
  else O.ck (appC s_8.2) <|
  .ok (.nx ((r_14.2, (s_8.2 ++ [r_17]))))))).aft (fun s_9 =>
  .ok ((s_9.2, s_9.1))) (fun r => .ok r)
def T_law_value (pool_here_1 : List Int) (net_2 : (Int × (List (Int × Int)))) : O (DV × List Int) :=
  (T_law_walked pool_here_1 net_2).no.bind fun r_3 =>
  (T_law_draw r_3.2 (((r_3.1).length : Int))).no.bind fun r_5 =>
  (T_law_draw r_5.2 15).no.bind fun r_7 =>
  (T_law_draw r_7.2 10).no.bind fun r_9 =>
  (if (decide (r_9.1 < 3)) = true then
  O.ck (catC (cutT r_3.1 (some r_5.1) none) (cutT r_3.1 none (some r_5.1))) <|
  .ok ((((eT eI) (((cutT r_3.1 (some r_5.1) none) ++ (cutT r_3.1 none (some r_5.1))))), r_9.2))
  else (if (decide (r_9.1 = 3)) = true then
  .ok ((((eT eI) (r_3.1.reverse)), r_9.2))
  else (if (decide (r_9.1 = 4)) = true then
  O.ck (catC (cutT r_3.1 none (some r_5.1)) (cutT r_3.1 (some (r_5.1 + 1)) none)) <|
  .ok ((((eT eI) (((cutT r_3.1 none (some r_5.1)) ++ (cutT r_3.1 (some (r_5.1 + 1)) none)))), r_9.2))
  else (if (decide (r_9.1 = 5)) = true then
  O.ck (catC r_3.1 (cutT r_3.1 (some r_5.1) none)) <|
  .ok ((((eT eI) ((r_3.1 ++ (cutT r_3.1 (some r_5.1) none)))), r_9.2))
  else (if (decide (r_9.1 = 6)) = true then
  (T_law_draw r_9.2 6).no.bind fun r_14 =>
  (O.opt (L2.atI [(eI r_7.1), (eI (-1)), (eB true), (eU ()), (eS ((PySem.Str.ofString "0"))), ((eT eI) ([0]))] r_14.1)).bind fun r_17 =>
  O.ck (catC (((cutT r_3.1 none (some r_5.1))).map eI) [r_17]) <|
  O.ck (catC ((((cutT r_3.1 none (some r_5.1))).map eI) ++ [r_17]) (((cutT r_3.1 (some (r_5.1 + 1)) none)).map eI)) <|
  .ok ((((eT eY) ((((((cutT r_3.1 none (some r_5.1))).map eI) ++ [r_17]) ++ (((cutT r_3.1 (some (r_5.1 + 1)) none)).map eI)))), r_14.2))
  else (if (decide (r_9.1 = 7)) = true then
  (O.opt (L2.atI r_3.1 0)).bind fun r_23 =>
  (T_law_draw r_9.2 8).no.bind fun r_24 =>
  (O.opt (L2.atI [((eL eI) r_3.1), (eU ()), (eI r_7.1), (eS ((PySem.Str.ofString ""))), (eI r_23), ((eT eI) ([])), ((eT (eP2 eI eI)) ([(0, 1)])), (eB true)] r_24.1)).bind fun r_27 =>
  .ok ((r_27, r_24.2))
  else (T_law_draw r_9.2 6).no.bind fun r_28 =>
  O.ck (okR r_28.1) <|
  O.ck ((rngT 0 r_28.1).length ≤ 16777216) <|
  (compT (rngT 0 r_28.1) r_28.2 fun k_32 s_33 =>
  (T_law_draw s_33 net_2.1).no.bind fun r_34 =>
  .ok (some r_34.1, r_34.2)).no.bind fun l_36 =>
  .ok ((((eT eI) l_36.1), l_36.2))))))))
def T_is_ring (net_1 : O_Net) (value_2 : DV) : O Bool :=
  ((O.opt (isiOY .tup [0] value_2)).bind fun r_8 =>
  (if (!r_8) = true then .ok (true, ()) else (O.opt (lenY value_2)).bind fun r_10 =>
  (if (decide (r_10 = 0)) = true then .ok (true, ()) else (O.opt (walkY value_2)).bind fun r_32 =>
  O.ck (r_32.length ≤ 16777216) <|
  (compT r_32 () fun place_34 s_35 =>
  (T_is_below place_34 net_1.1).no.bind fun r_37 =>
  .ok (some r_37, ())).no.bind fun l_38 =>
  .ok ((!(l_38.1.all id)), ()))) : O (Bool × Unit)).bind fun p_40 =>
  (if p_40.1 = true then
  .ok false
  else (O.opt ((asT asI) value_2)).bind fun r_42 =>
  O.ck (r_42.length ≤ 1000) <|
  (O.opt (lenY value_2)).bind fun r_45 =>
  (if (decide ((((dd r_42).length : Nat) : Int) < r_45)) = true then
  .ok false
  else (O.opt ((asT some) value_2)).bind fun r_47 =>
  (O.opt ((asT some) value_2)).bind fun r_49 =>
  O.ck (catC (cutT r_47 (some 1) none) (cutT r_49 none (some 1))) <|
  O.lt (((cutT r_47 (some 1) none) ++ (cutT r_49 none (some 1)))) fun after_51 =>
  (O.opt ((asT some) value_2)).bind fun r_71 =>
  O.ck ((r_71.zip after_51).length ≤ 16777216) <|
  (compT (r_71.zip after_51) () fun p_73 s_74 =>
  (O.opt (asI p_73.1)).bind fun r_76 =>
  (O.opt (L2.atI net_1.2.2 r_76)).bind fun r_78 =>
  (O.opt (asI p_73.2)).bind fun r_80 =>
  .ok (some ((memT r_80 r_78)), ())).no.bind fun l_81 =>
  .ok ((l_81.1.all id))))
def T_law_ringless (arcs_here_1 : List (Int × Int)) (lot_2 : List Int) : O Bool :=
  O.ck (okR ((lot_2).length : Int)) <|
  (foldT (rngT 0 ((lot_2).length : Int)) lot_2 fun k_4 (s_6 : (List Int)) =>
  O.ck (arcs_here_1.length ≤ 16777216) <|
  O.ck (s_6.length ≤ 16777216) <|
  O.lt (((s_6.filter fun i_8 => (decide (((((arcs_here_1.filter fun arc_9 => ((decide (arc_9.1 = i_8)) && (memT arc_9.2 s_6))).map fun arc_9 => arc_9)).length : Int) = 0))).map fun i_8 => i_8)) fun ends_12 =>
  O.ck (s_6.length ≤ 16777216) <|
  O.lt (((s_6.filter fun i_13 => (!memT i_13 ends_12)).map fun i_13 => i_13)) fun left_15 =>
  .ok left_15).bind fun s_7 =>
  .ok ((decide (((s_7).length : Int) = 0)))
def T_is_lot (value_1 : DV) (size_2 : Int) : O Bool :=
  ((O.opt (isiY .tup value_1)).bind fun r_11 =>
  (if (!r_11) = true then .ok (true, ()) else (O.opt (walkY value_1)).bind fun r_33 =>
  O.ck (r_33.length ≤ 16777216) <|
  (compT r_33 () fun place_35 s_36 =>
  (T_is_below place_35 size_2).no.bind fun r_38 =>
  .ok (some r_38, ())).no.bind fun l_39 =>
  .ok ((!(l_39.1.all id)), ())) : O (Bool × Unit)).bind fun p_41 =>
  (if p_41.1 = true then
  .ok false
  else (O.opt ((asT some) value_1)).bind fun r_61 =>
  (O.opt ((asT some) value_1)).bind fun r_63 =>
  O.ck ((r_63.zip (cutT r_61 (some 1) none)).length ≤ 16777216) <|
  (compT (r_63.zip (cutT r_61 (some 1) none)) () fun p_65 s_66 =>
  (O.opt (asI p_65.1)).bind fun r_68 =>
  (O.opt (asI p_65.2)).bind fun r_70 =>
  .ok (some ((decide (r_68 < r_70))), ())).no.bind fun l_71 =>
  .ok ((l_71.1.all id)))
def T_can_order (net_1 : O_Net) (lot_2 : DV) : O Bool :=
  (T_is_lot lot_2 net_1.1).no.bind fun r_4 =>
  (if (!r_4) = true then
  .exc 1 [lot_2] []
  else (O.opt ((asTL asI) lot_2)).bind fun r_6 =>
  (T_stripped net_1 r_6).no.bind fun r_8 =>
  .ok ((decide (((r_8).length : Int) = 0))))
def T_law_kinds (c : Nat) (fs : List DV) : O (List Bool) :=
  O.lt ([(tI_InvalidNumber c), (tI_InvalidMatrix c), (tI_InvalidAudience c)]) fun kinds_here_1 =>
  O.ck (catC kinds_here_1 [(tI_InvalidNet c), (tI_InvalidLot c), (tI_InvalidWord c)]) <|
  O.lt ((kinds_here_1 ++ [(tI_InvalidNet c), (tI_InvalidLot c), (tI_InvalidWord c)])) fun kinds_here_3 =>
  O.ck (catC kinds_here_3 [(tI_InvalidWords c), (tI_InvalidSignals c), (tI_InvalidLosses c)]) <|
  O.lt ((kinds_here_3 ++ [(tI_InvalidWords c), (tI_InvalidSignals c), (tI_InvalidLosses c)])) fun kinds_here_5 =>
  O.ck (catC kinds_here_5 [(tI_InvalidText c), (tI_InvalidLine c), (tI_UnknownWord c)]) <|
  O.lt ((kinds_here_5 ++ [(tI_InvalidText c), (tI_InvalidLine c), (tI_UnknownWord c)])) fun kinds_here_7 =>
  O.ck (catC kinds_here_7 [(tI_TooMany c), (tI_Undefined c), (tI_NothingToUndo c)]) <|
  O.lt ((kinds_here_7 ++ [(tI_TooMany c), (tI_Undefined c), (tI_NothingToUndo c)])) fun kinds_here_9 =>
  O.ck (appC kinds_here_9) <|
  .ok ((kinds_here_9 ++ [(tI_InvalidDeed c)]))
def T_law_alone (c : Nat) (fs : List DV) (kind_1 : Int) : O Bool :=
  (T_law_kinds c fs).no.bind fun r_3 =>
  ((if (tI_SayError c) = true then (if (tB_ValueError c) = true then (O.opt (L2.atI r_3 kind_1)).bind fun r_8 =>
  (if r_8 = true then .ok ((decide ((((r_3).count true : Nat) : Int) = 1))) else .ok false) else .ok false) else .ok false) : O Bool).bind fun b_6 =>
  .ok b_6
def T_law_sameN : Nat → DV → DV → O Bool
  | 0 => fun _ _ => .bad
  | n + 1 => fun told_1 due_2 =>   (O.opt (isiYs [.tup, .lst] due_2)).bind fun r_4 =>
  (if r_4 = true then
  ((O.opt (isiYs [.tup, .lst] told_1)).bind fun r_12 =>
  (if (!r_12) = true then .ok (true, ()) else (O.opt (isiY .lst told_1)).bind fun r_14 =>
  (O.opt (isiY .lst due_2)).bind fun r_16 =>
  .ok ((!decide (r_14 = r_16)), ())) : O (Bool × Unit)).bind fun p_17 =>
  (if p_17.1 = true then
  .ok false
  else (O.opt (lenY told_1)).bind fun r_19 =>
  (O.opt (lenY due_2)).bind fun r_21 =>
  (if (!decide (r_19 = r_21)) = true then
  .ok false
  else (O.opt (lenY due_2)).bind fun r_23 =>
  O.ck (okR r_23) <|
  (loopT (ρ := Bool) (rngT 0 r_23) () fun k_25 (s_27 : Unit) =>
  (O.opt (ixY told_1 k_25)).bind fun r_30 =>
  (O.opt (ixY due_2 k_25)).bind fun r_32 =>
  (T_law_sameN n r_30 r_32).no.bind fun r_34 =>
  (if (!r_34) = true then
  .ok (.ret false)
  else .ok (.nx ()))).aft (fun s_28 =>
  .ok true) (fun r => .ok r)))
  else (if (isNon (toD due_2)) = true then
  .ok ((isNon (toD told_1)))
  else (O.opt (isiY .bl due_2)).bind fun r_37 =>
  (if r_37 = true then
  ((O.opt (isiY .bl told_1)).bind fun r_44 =>
  (if r_44 = true then (O.opt (eqY told_1 due_2)).bind fun r_46 =>
  .ok r_46 else .ok false) : O Bool).bind fun b_42 =>
  .ok b_42
  else (O.opt (isiY .str due_2)).bind fun r_48 =>
  (if r_48 = true then
  ((O.opt (isiY .str told_1)).bind fun r_55 =>
  (if r_55 = true then (O.opt (eqY told_1 due_2)).bind fun r_57 =>
  .ok r_57 else .ok false) : O Bool).bind fun b_53 =>
  .ok b_53
  else ((O.opt (isiY .int told_1)).bind fun r_64 =>
  (if r_64 = true then (O.opt (isiY .bl told_1)).bind fun r_66 =>
  (if (!r_66) = true then (O.opt (eqY told_1 due_2)).bind fun r_68 =>
  .ok r_68 else .ok false) else .ok false) : O Bool).bind fun b_62 =>
  .ok b_62))))
def T_law_same (told_1 : DV) (due_2 : DV) : O Bool := T_law_sameN 6 told_1 due_2
def T_law_refused (helper_1 : O_Net) (bad_2 : DV) : O Bool :=
  (tryT ((T_can_order helper_1 bad_2).bind fun r_5 =>
  .ok (.nx ()) : O (Fw Bool Unit)) fun c fs => O.ck (c < 2) <| if tI_SayError c = true then (((T_law_alone c fs 4).no.bind fun r_15 =>
  (if r_15 = true then (O.opt (xfT (xf_value c) fs)).bind fun r_17 =>
  (T_law_same r_17 bad_2).no.bind fun r_19 =>
  .ok r_19 else .ok false) : O Bool).bind fun b_13 =>
  .ok (.ret b_13) : O (Fw Bool Unit)).no else .exc c fs []).aft (fun s_4 =>
  .ok false) (fun r => .ok r)
def T_law_is_ring (net_1 : (Int × (List (Int × Int)))) (value_here_2 : DV) : O Bool :=
  ((O.opt (isiY .tup value_here_2)).bind fun r_8 =>
  (if (!r_8) = true then .ok (true, ()) else (O.opt (lenY value_here_2)).bind fun r_10 =>
  .ok ((decide (r_10 = 0)), ())) : O (Bool × Unit)).bind fun p_11 =>
  (if p_11.1 = true then
  .ok false
  else (O.opt (lenY value_here_2)).bind fun r_13 =>
  O.ck (okR r_13) <|
  (loopT (ρ := Bool) (rngT 0 r_13) () fun k_15 (s_17 : Unit) =>
  ((O.opt (ixY value_here_2 k_15)).bind fun r_28 =>
  (O.opt (isiY .int r_28)).bind fun r_30 =>
  (if (!r_30) = true then .ok (true, ()) else (O.opt (ixY value_here_2 k_15)).bind fun r_32 =>
  (O.opt (isiY .bl r_32)).bind fun r_34 =>
  (if r_34 = true then .ok (true, ()) else (O.opt (ixY value_here_2 k_15)).bind fun r_36 =>
  (O.opt ((asT some) value_here_2)).bind fun r_38 =>
  (O.opt (asI r_36)).bind fun r_40 =>
  (O.opt ((asT asI) ((eT eY) ((cutT r_38 none (some k_15)))))).bind fun r_42 =>
  .ok ((memT r_40 r_42), ()))) : O (Bool × Unit)).bind fun p_43 =>
  (if p_43.1 = true then
  .ok (.ret false)
  else .ok (.nx ()))).aft (fun s_18 =>
  (O.opt (lenY value_here_2)).bind fun r_46 =>
  O.ck (okR r_46) <|
  (loopT (ρ := Bool) (rngT 0 r_46) () fun k_48 (s_50 : Unit) =>
  (O.opt (ixY value_here_2 k_48)).bind fun r_53 =>
  (O.opt (lenY value_here_2)).bind fun r_55 =>
  O.ck (0 < r_55) <|
  (O.opt (ixY value_here_2 ((k_48 + 1) % r_55))).bind fun r_58 =>
  (O.opt (asI r_53)).bind fun r_60 =>
  (O.opt (asI r_58)).bind fun r_62 =>
  (if (!memT ((r_60, r_62)) net_1.2) = true then
  .ok (.ret false)
  else .ok (.nx ()))).aft (fun s_51 =>
  .ok true) (fun r => .ok r)) (fun r => .ok r))
def T_law (script_1 : List Int) : O Bool :=
  (T_law_pool script_1 500).no.bind fun r_3 =>
  (T_law_arcs r_3 9 2).no.bind fun r_4 =>
  (T_Net_init r_4.1.1 (((eT (eP2 eI eI)) r_4.1.2))).no.bind fun r_7 =>
  (loopT (ρ := Bool) (rngT 0 8) r_4.2 fun k_8 (s_10 : (List Int)) =>
  (T_law_value s_10 r_4.1).no.bind fun r_12 =>
  (T_is_ring r_7.2 r_12.1).no.bind fun r_15 =>
  ((O.opt (isiY .bl (eB r_15))).bind fun r_21 =>
  (if (!r_21) = true then .ok (true, ()) else (T_law_is_ring r_4.1 r_12.1).no.bind fun r_23 =>
  .ok ((!decide (r_15 = r_23)), ())) : O (Bool × Unit)).bind fun p_24 =>
  (if p_24.1 = true then
  .ok (.ret false)
  else .ok (.nx r_12.2))).aft (fun s_11 =>
  (T_some_ring r_7.2).no.bind fun r_27 =>
  O.ck (okS r_4.1.1) <|
  (T_law_ringless r_4.1.2 ((rngT 0 r_4.1.1))).no.bind fun r_30 =>
  (if (!decide (r_30 = (r_27).isNone)) = true then
  .ok false
  else ((if (r_27).isSome = true then (T_law_is_ring r_4.1 (((eO (eT eI)) r_27))).no.bind fun r_34 =>
  .ok ((!r_34), ()) else .ok (false, ())) : O (Bool × Unit)).bind fun p_35 =>
  (if p_35.1 = true then
  .ok false
  else (loopT (ρ := Bool) (rngT 0 4) s_11 fun k_36 (s_38 : (List Int)) =>
  O.ck (okR r_4.1.1) <|
  O.ck ((rngT 0 r_4.1.1).length ≤ 16777216) <|
  (compT (rngT 0 r_4.1.1) s_38 fun i_42 s_43 =>
  ((T_law_draw s_43 3).no.bind fun r_44 =>
  .ok ((decide (0 < r_44.1)), r_44.2)).bind fun x_46 => if x_46.1 = true then .ok (some i_42, x_46.2) else .ok (none, x_46.2)).no.bind fun l_48 =>
  (T_can_order r_7.2 (((eT eI) l_48.1))).no.bind fun r_50 =>
  ((O.opt (isiY .bl (eB r_50))).bind fun r_56 =>
  (if (!r_56) = true then .ok (true, ()) else (T_law_ringless r_4.1.2 l_48.1).no.bind fun r_58 =>
  .ok ((!decide (r_50 = r_58)), ())) : O (Bool × Unit)).bind fun p_59 =>
  (if p_59.1 = true then
  .ok (.ret false)
  else .ok (.nx l_48.2))).aft (fun s_39 =>
  (T_law_draw s_39 r_4.1.1).no.bind fun r_62 =>
  O.lt ([(eU ()), ((eP2 eI eI) ((r_62.1, r_62.1))), ((eL eI) ([r_62.1])), ((eT eI) ([r_4.1.1])), ((eP2 eI eI) (((-1), r_62.1))), (eS ((PySem.Str.ofString "0"))), ((eT eB) ([true])), ((eP3 eI eI eI) ((r_62.1, 0, 1))), ((eT (eT eI)) ([[]])), (eI 5), ((eP2 eI eU) ((r_62.1, ())))]) fun bad_64 =>
  ((T_is_ring r_7.2 ((e_Net r_7.2))).no.bind fun r_66 =>
  (if (decide (r_66 = false)) = true then (T_law_draw r_62.2 11).no.bind fun r_67 =>
  (O.opt (L2.atI bad_64 r_67.1)).bind fun r_70 =>
  (T_law_refused r_7.2 r_70).bind fun r_71 =>
  .ok (r_71, r_67.2) else .ok (false, r_62.2)) : O (Bool × (List Int))).bind fun p_73 =>
  .ok p_73.1) (fun r => .ok r)))) (fun r => .ok r)
end Lk09
namespace Lk09
open PySem KS KT
theorem rf_law_pool (script_1 : List Int) (many_2 : Int) : Rf (fn_law_pool (toDs [eSc script_1, eI many_2])) (T_law_pool script_1 many_2) (KF (eL eI) 2 os0) (KX 2 os0) := by
  unfold fn_law_pool T_law_pool
  refine fn_rf0 (fr0 := ([some (toD (eSc script_1)), some (toD (eI many_2)), none, none, none, none, none, none, none] : Fr)) rfl ?_
  unfold g_law_pool
  exact (by exact (s_setF (x_v (v := (eL eI) ([])) (by exact (v_lst va_nil rfl)) (by exact (k_SetF (d := toD ((eL eI) ([] : List Int))) (fr' := ([some (toD (eSc script_1)), some (toD (eI many_2)), some (toD ((eL eI) (([] : List Int)))), none, none, none, none, none, none] : Fr)) rfl (by exact (s_set (x_v (v := eI 1) (by exact v_cI) (by exact (k_Set (v := eI 1) (fr' := ([some (toD (eSc script_1)), some (toD (eI many_2)), some (toD ((eL eI) (([] : List Int)))), some (toD (eI 1)), none, none, none, none, none] : Fr)) rfl (by exact (s_forH (x_vi (by exact (vi_S (v_var (i := 0) (by exact rfl)))) (by exact (k_for (js := [false, false, false, false, true, true, true, true, true]) (F := (fun (s_4 : (List Int) × Int) => ([some (toD (eSc script_1)), some (toD (eI many_2)), some (toD ((eL eI) s_4.1)), some (toD (eI s_4.2)), none, none, none, none, none] : Fr))) (s0 := (([] : List Int), 1)) rfl (fun _ _ => rfl) (fun cell_3 s_5 => (by exact (s_set (x_v (v := eI ((if cell_3 < 0 then -cell_3 else cell_3))) (by exact (v_op1 ((v_op1 ((v_var (i := 4) (by exact rfl))).l f_abs)).l f_int)) (by exact (k_SetN (E := eI) (fr' := fun rest_7 => ([some (toD (eSc script_1)), some (toD (eI many_2)), some (toD ((eL eI) s_5.1)), some (toD (eI s_5.2)), some (toD (eI cell_3)), some (toD (eI rest_7)), none, none, none] : Fr)) (fun _ => rfl) (fun rest_7 => (by exact (s_if (js := [false, false, false, false, false, true, true, true, true]) (F := (fun (s_8 : (List Int)) => ([some (toD (eSc script_1)), some (toD (eI many_2)), some (toD ((eL eI) s_8)), some (toD (eI s_5.2)), some (toD (eI cell_3)), none, none, none, none] : Fr))) (vb_E (v_op2 ((v_var (i := 5) (by exact rfl))).l ((v_op2 (v_cI).l (v_cI).l (f_pow (by decide)))).l f_ge)) (by exact (s_forH (Rf.ck fun h_10 =>
  (by exact (x_vi (by exact (vi_rg1 ((v_op2 (v_cI).l ((v_op2 ((v_var (i := 1) (by exact rfl))).l ((v_op1 (l_pl (i := 2) (by exact rfl) (by exact rfl)) f_lenL)).l f_sub)).l f_min2)).l h_10)) (by exact (k_loop (KR := (KD (eL eI) os0)) (js := [false, false, false, false, false, false, true, false, false]) (F := (fun (s_12 : (List Int) × Int) => ([some (toD (eSc script_1)), some (toD (eI many_2)), some (toD ((eL eI) s_12.1)), some (toD (eI s_5.2)), some (toD (eI cell_3)), some (toD (eI s_12.2)), none, none, none] : Fr))) (s0 := (s_5.1, rest_7)) rfl (fun _ _ => rfl) (fun k_11 s_13 => (by exact (s_x (x_mut (i := 2) rfl rfl (x_cons (by exact (x_v (v := eI ((s_13.2 % 2520))) (by exact (v_op2 ((v_op1 ((v_var (i := 5) (by exact rfl))).l f_int)).l (v_cI).l (f_mod (by decide)))) (by exact (k_A (by exact (x_nil (Rf.ck fun h_15 =>
  (by exact (k_mut (i := 2) (vs := [eI ((s_13.2 % 2520))]) (fr' := ([some (toD (eSc script_1)), some (toD (eI many_2)), some (toD ((eL eI) ((s_13.1 ++ [(s_13.2 % 2520)])))), some (toD (eI s_5.2)), some (toD (eI cell_3)), some (toD (eI s_13.2)), some (toD (eI k_11)), none, none] : Fr)) rfl rfl (m_app (E := eI) (a := (s_13.2 % 2520)) h_15) rfl (by exact (k_X (by exact (s_set (x_v (v := eI ((s_13.2 / 2520))) (by exact (v_op2 ((v_var (i := 5) (by exact rfl))).l (v_cI).l (f_div (by decide)))) (by exact (k_SetN (E := eI) (fr' := fun rest_16 => ([some (toD (eSc script_1)), some (toD (eI many_2)), some (toD ((eL eI) ((s_13.1 ++ [(s_13.2 % 2520)])))), some (toD (eI s_5.2)), some (toD (eI cell_3)), some (toD (eI rest_16)), some (toD (eI k_11)), none, none] : Fr)) (fun _ => rfl) (fun rest_16 => (by exact (s_ifX (x_vb (vb_E (v_op2 ((v_var (i := 5) (by exact rfl))).l (v_cI).l (f_eq eqb_I))) (by exact (k_If (by exact (s_seqE (s_brk ⟨rfl, rfl⟩))) (by exact (s_nx (by exact (s_end ⟨.inl rfl, rfl⟩))))))))))))))))))))))))))))))) (fun s_14 => (by exact (s_end ⟨rfl, rfl⟩))) (fun x d fr h => ⟨trivial⟩)))))))) (by exact (s_set (x_v (v := eI (((((cell_3 * 48271) + (((s_5.1).length : Int) * 69621)) + 11) % 2147483647))) (by exact (v_op2 ((v_op1 ((v_op2 ((v_op2 ((v_op2 ((v_var (i := 4) (by exact rfl))).l (v_cI).l (f_mul (mul_r (by decide))))).l ((v_op2 ((v_op1 (l_pl (i := 2) (by exact rfl) (by exact rfl)) f_lenL)).l (v_cI).l (f_mul (mul_r (by decide))))).l f_add)).l (v_cI).l f_add)).l f_int)).l (v_cI).l (f_mod (by decide)))) (by exact (k_SetN (E := eI) (fr' := fun first_17 => ([some (toD (eSc script_1)), some (toD (eI many_2)), some (toD ((eL eI) s_5.1)), some (toD (eI s_5.2)), some (toD (eI cell_3)), some (toD (eI rest_7)), none, some (toD (eI first_17)), none] : Fr)) (fun _ => rfl) (fun first_17 => (by exact (s_set (Rf.ck fun h_18 =>
  (by exact (x_v (v := eI ((((first_17 * first_17) + 5) % 2147483629))) (by exact (v_op2 ((v_op1 ((v_op2 ((v_op2 ((v_var (i := 7) (by exact rfl))).l ((v_var (i := 7) (by exact rfl))).l (f_mul h_18))).l (v_cI).l f_add)).l f_int)).l (v_cI).l (f_mod (by decide)))) (by exact (k_SetN (E := eI) (fr' := fun second_19 => ([some (toD (eSc script_1)), some (toD (eI many_2)), some (toD ((eL eI) s_5.1)), some (toD (eI s_5.2)), some (toD (eI cell_3)), some (toD (eI rest_7)), none, some (toD (eI first_17)), some (toD (eI second_19))] : Fr)) (fun _ => rfl) (fun second_19 => (by exact (s_x (x_mut (i := 2) rfl rfl (x_cons (by exact (x_v (v := eI (((second_19 / 7) % 2520))) (by exact (v_op2 ((v_op1 ((v_op2 ((v_var (i := 8) (by exact rfl))).l (v_cI).l (f_div (by decide)))).l f_int)).l (v_cI).l (f_mod (by decide)))) (by exact (k_A (by exact (x_nil (Rf.ck fun h_20 =>
  (by exact (k_mut (i := 2) (vs := [eI (((second_19 / 7) % 2520))]) (fr' := ([some (toD (eSc script_1)), some (toD (eI many_2)), some (toD ((eL eI) ((s_5.1 ++ [((second_19 / 7) % 2520)])))), some (toD (eI s_5.2)), some (toD (eI cell_3)), some (toD (eI rest_7)), none, some (toD (eI first_17)), some (toD (eI second_19))] : Fr)) rfl rfl (m_app (E := eI) (a := ((second_19 / 7) % 2520)) h_20) rfl (by exact (k_X (by exact (s_x (x_mut (i := 2) rfl rfl (x_cons (by exact (x_v (v := eI (((((second_19 * 16807) + first_17) % 2147483587) % 2520))) (by exact (v_op2 ((v_op2 ((v_op1 ((v_op2 ((v_op2 ((v_var (i := 8) (by exact rfl))).l (v_cI).l (f_mul (mul_r (by decide))))).l ((v_var (i := 7) (by exact rfl))).l f_add)).l f_int)).l (v_cI).l (f_mod (by decide)))).l (v_cI).l (f_mod (by decide)))) (by exact (k_A (by exact (x_nil (Rf.ck fun h_21 =>
  (by exact (k_mut (i := 2) (vs := [eI (((((second_19 * 16807) + first_17) % 2147483587) % 2520))]) (fr' := ([some (toD (eSc script_1)), some (toD (eI many_2)), some (toD ((eL eI) (((s_5.1 ++ [((second_19 / 7) % 2520)]) ++ [((((second_19 * 16807) + first_17) % 2147483587) % 2520)])))), some (toD (eI s_5.2)), some (toD (eI cell_3)), some (toD (eI rest_7)), none, some (toD (eI first_17)), some (toD (eI second_19))] : Fr)) rfl rfl (m_app (E := eI) (a := ((((second_19 * 16807) + first_17) % 2147483587) % 2520)) h_21) rfl (by exact (k_X (by exact (s_end ⟨rfl, rfl⟩)))))))))))))))))))))))))))))))))))))))))))))) (fun s_9 => (by exact (s_set (x_v (v := eI ((((s_5.2 * 263) + cell_3) % 1000003))) (by exact (v_op2 ((v_op1 ((v_op2 ((v_op2 ((v_var (i := 3) (by exact rfl))).l (v_cI).l (f_mul (mul_r (by decide))))).l ((v_var (i := 4) (by exact rfl))).l f_add)).l f_int)).l (v_cI).l (f_mod (by decide)))) (by exact (k_SetN (E := eI) (fr' := fun total_22 => ([some (toD (eSc script_1)), some (toD (eI many_2)), some (toD ((eL eI) s_9)), some (toD (eI total_22)), some (toD (eI cell_3)), none, none, none, none] : Fr)) (fun _ => rfl) (fun total_22 => (by exact (s_end ⟨.inl rfl, rfl⟩)))))))))))))))))) (fun s_6 => (by exact (s_forH (Rf.ck fun h_23 =>
  (by exact (x_vi (by exact (vi_rg1 ((v_var (i := 1) (by exact rfl))).l h_23)) (by exact (k_for (js := [false, false, false, false, false, false, true, false, false]) (F := (fun (s_25 : (List Int) × Int) => ([some (toD (eSc script_1)), some (toD (eI many_2)), some (toD ((eL eI) s_25.1)), some (toD (eI s_25.2)), none, none, none, none, none] : Fr))) (s0 := (s_6.1, s_6.2)) rfl (fun _ _ => rfl) (fun k_24 s_26 => (by exact (s_set (x_v (v := eI (((((s_26.2 * 48271) + (k_24 * 69621)) + 17) % 2147483647))) (by exact (v_op2 ((v_op1 ((v_op2 ((v_op2 ((v_op2 ((v_var (i := 3) (by exact rfl))).l (v_cI).l (f_mul (mul_r (by decide))))).l ((v_op2 ((v_var (i := 6) (by exact rfl))).l (v_cI).l (f_mul (mul_r (by decide))))).l f_add)).l (v_cI).l f_add)).l f_int)).l (v_cI).l (f_mod (by decide)))) (by exact (k_SetN (E := eI) (fr' := fun total_28 => ([some (toD (eSc script_1)), some (toD (eI many_2)), some (toD ((eL eI) s_26.1)), some (toD (eI total_28)), none, none, some (toD (eI k_24)), none, none] : Fr)) (fun _ => rfl) (fun total_28 => (by exact (s_x (x_mut (i := 2) rfl rfl (x_cons (by exact (x_v (v := eI (((total_28 / 5) % 2520))) (by exact (v_op2 ((v_op1 ((v_op2 ((v_var (i := 3) (by exact rfl))).l (v_cI).l (f_div (by decide)))).l f_int)).l (v_cI).l (f_mod (by decide)))) (by exact (k_A (by exact (x_nil (Rf.ck fun h_29 =>
  (by exact (k_mut (i := 2) (vs := [eI (((total_28 / 5) % 2520))]) (fr' := ([some (toD (eSc script_1)), some (toD (eI many_2)), some (toD ((eL eI) ((s_26.1 ++ [((total_28 / 5) % 2520)])))), some (toD (eI total_28)), none, none, some (toD (eI k_24)), none, none] : Fr)) rfl rfl (m_app (E := eI) (a := ((total_28 / 5) % 2520)) h_29) rfl (by exact (k_X (by exact (s_end ⟨.inl rfl, rfl⟩)))))))))))))))))))))))) (fun s_27 => (by exact (s_setF (x_v (v := (eL eI) ((cutT s_27.1 none (some many_2)))) (by exact (v_slLF (l_pl (i := 2) (by exact rfl) (by exact rfl)) vo_none (vo_some ((v_var (i := 1) (by exact rfl))).l))) (by exact (k_SetFN (E := (eL eI)) (fr' := fun pool_here_30 => ([some (toD (eSc script_1)), some (toD (eI many_2)), some (toD ((eL eI) pool_here_30)), some (toD (eI s_27.2)), none, none, none, none, none] : Fr)) (fun _ => rfl) (fun pool_here_30 => (by exact (s_x (x_mut (i := 2) rfl rfl (x_va (vs := []) rfl (k_mut (i := 2) (vs := []) (fr' := ([some (toD (eSc script_1)), some (toD (eI many_2)), some (toD ((eL eI) pool_here_30.reverse)), some (toD (eI s_27.2)), none, none, none, none, none] : Fr)) rfl rfl m_rev rfl (by exact (k_X (by exact (s_retO (i := 2) rfl rfl (kd_ret rfl))))))))))))))))))))))))))))))))))))))))
theorem rf_law_draw (pool_here_1 : List Int) (many_2 : Int) : Rf (fn_law_draw (toDs [(eL eI) pool_here_1, eI many_2])) (T_law_draw pool_here_1 many_2) (KF (fun a => eI a.1) 2 (os1 0 fun a => (eL eI) a.2)) (KX 2 os0) := by
  unfold fn_law_draw T_law_draw
  refine fn_rf1e (by decide) (fr0 := ([some (toD ((eL eI) pool_here_1)), some (toD (eI many_2))] : Fr)) rfl ?_
  unfold g_law_draw
  exact (by exact (s_ifX (x_vb (vb_E (v_op2 ((v_op1 (l_pl (i := 0) (by exact rfl) (by exact rfl)) f_lenL)).l (v_cI).l (f_eq eqb_I))) (by exact (k_If (by exact (s_seqE (s_ret (x_v (v := eI 0) (by exact v_cI) (by exact (k_Ret (kd_ret1 (E := fun a => eI a.1) (i := 0) (f := fun a => (eL eI) a.2) (a := (0, pool_here_1)) rfl rfl))))))) (by exact (s_nx (by exact (s_ret (x_op2 (x_op1 (Rf.opt fun x_3 h_4 =>
  (by exact (x_mut (i := 0) rfl rfl (x_va (vs := []) rfl (k_mut (i := 0) (vs := []) (fr' := ([some (toD ((eL eI) pool_here_1.dropLast)), some (toD (eI many_2))] : Fr)) rfl rfl (m_pop h_4) rfl (by exact (k_op1 f_int (Rf.ck fun h_5 =>
  (by exact (k_op2a ((v_var (i := 1) (by exact rfl))).l (f_mod h_5) (k_Ret (kd_ret1 (E := fun a => eI a.1) (i := 0) (f := fun a => (eL eI) a.2) (a := ((x_3 % many_2), pool_here_1.dropLast)) rfl rfl)))))))))))))))))))))))
theorem rf_law_arcs (pool_here_1 : List Int) (most_2 : Int) (odds_3 : Int) : Rf (fn_law_arcs (toDs [(eL eI) pool_here_1, eI most_2, eI odds_3])) (T_law_arcs pool_here_1 most_2 odds_3) (KF (fun a => (eP2 eI (eT (eP2 eI eI))) a.1) 3 (os1 0 fun a => (eL eI) a.2)) (KX 3 os0) := by
  unfold fn_law_arcs T_law_arcs
  refine fn_rf1e (by decide) (fr0 := ([some (toD ((eL eI) pool_here_1)), some (toD (eI most_2)), some (toD (eI odds_3)), none, none, none, none, none, none, none, none, none, none] : Fr)) rfl ?_
  unfold g_law_arcs
  exact (by exact (s_set (x_op2r v_cI (x_call (x_cons (x_plv (i := 0) rfl rfl (k_A (by exact (x_cons (by exact (x_v (v := eI most_2) (by exact (v_var (i := 1) (by exact rfl))) (by exact (k_A (by exact (x_nil (Rf.no fun r_4 h_5 => (k_call1 (vs1 := []) (vs2 := [eI most_2]) (v := (eL eI) pool_here_1) (i := 0) (fr' := ([some (toD ((eL eI) r_4.2)), some (toD (eI most_2)), some (toD (eI odds_3)), none, none, none, none, none, none, none, none, none, none] : Fr)) (rf_law_draw pool_here_1 most_2) h_5 rfl rfl rfl rfl rfl rfl rfl (by exact (k_op2b (look_toD _ _) f_add (k_SetN (E := eI) (fr' := fun size_6 => ([some (toD ((eL eI) r_4.2)), some (toD (eI most_2)), some (toD (eI odds_3)), some (toD (eI size_6)), none, none, none, none, none, none, none, none, none] : Fr)) (fun _ => rfl) (fun size_6 => (by exact (s_setF (x_v (v := (eDP eB) ([])) (by exact v_cD) (by exact (k_SetF (d := toD ((eDP eB) ([] : List (PP × Bool)))) (fr' := ([some (toD ((eL eI) r_4.2)), some (toD (eI most_2)), some (toD (eI odds_3)), some (toD (eI size_6)), some (toD ((eDP eB) (([] : List (PP × Bool))))), none, none, none, none, none, none, none, none] : Fr)) rfl (by exact (s_ifXJ (js := [false, false, false, false, false, true, true, true, true, true, true, true, true]) (G := (fun (s_12 : (List Int)) => ([some (toD ((eL eI) s_12)), some (toD (eI most_2)), some (toD (eI odds_3)), some (toD (eI size_6)), some (toD ((eDP eB) (([] : List (PP × Bool))))), none, none, none, none, none, none, none, none] : Fr))) (F := (fun (s_7 : (List Int) × Int × (List (PP × Bool))) => ([some (toD ((eL eI) s_7.1)), some (toD (eI most_2)), some (toD (eI odds_3)), some (toD (eI s_7.2.1)), some (toD ((eDP eB) s_7.2.2)), none, none, none, none, none, none, none, none] : Fr))) (ta := fun x_11 => (T_law_draw x_11 5).no.bind fun r_66 =>
  (T_law_draw r_66.2 2).no.bind fun r_68 =>
  O.lt ((1 + r_68.1)) fun step_70 =>
  (foldT (rngT 0 5) (([] : List (PP × Bool))) fun k_71 (s_73 : (List (PP × Bool))) =>
  O.ck (mulC k_71 step_70) <|
  O.lt (((r_66.1 + (k_71 * step_70)) % 5)) fun one_76 =>
  O.ck (mulC k_71 step_70) <|
  O.lt ((((r_66.1 + (k_71 * step_70)) + step_70) % 5)) fun two_78 =>
  O.ck (appC s_73) <|
  O.lt (putT s_73 (one_76, two_78) true) fun there_80 =>
  O.ck (appC there_80) <|
  O.lt (putT there_80 (two_78, one_76) true) fun there_82 =>
  .ok there_82).bind fun s_74 =>
  (T_law_draw r_68.2 4).no.bind fun r_83 =>
  O.ck (okR r_83.1) <|
  (foldT (rngT 0 r_83.1) ((r_83.2, s_74)) fun k_86 (s_88 : (List Int) × (List (PP × Bool))) =>
  (T_law_draw s_88.1 5).no.bind fun r_90 =>
  (T_law_draw r_90.2 4).no.bind fun r_92 =>
  O.lt ((((r_90.1 + 1) + r_92.1) % 5)) fun two_94 =>
  (if (hasT s_88.2 (r_90.1, two_94)) = true then
  (O.opt (getT s_88.2 (r_90.1, two_94))).bind fun r_96 =>
  .ok ((r_92.2, (delT s_88.2 (r_90.1, two_94))))
  else O.ck (appC s_88.2) <|
  O.lt (putT s_88.2 (r_90.1, two_94) true) fun there_98 =>
  .ok ((r_92.2, there_98)))).bind fun s_89 =>
  .ok ((s_89.1, 5, s_89.2))) (tb := fun x_11 => (T_law_draw x_11 5).no.bind fun r_99 =>
  (O.opt (L2.atI [1, 2, 3, 5, 6] r_99.1)).bind fun r_102 =>
  O.ck (okR size_6) <|
  (foldT (rngT 0 size_6) ((r_99.2, ([] : List (PP × Bool)))) fun i_104 (s_106 : (List Int) × (List (PP × Bool))) =>
  O.ck (okR size_6) <|
  (foldT (rngT 0 size_6) ((s_106.1, s_106.2)) fun j_109 (s_111 : (List Int) × (List (PP × Bool))) =>
  ((if (!decide (i_104 = j_109)) = true then (T_law_draw s_111.1 6).no.bind fun r_113 =>
  .ok ((decide (r_113.1 < r_102)), r_113.2) else .ok (false, s_111.1)) : O (Bool × (List Int))).bind fun p_115 =>
  (if p_115.1 = true then
  O.ck (appC s_111.2) <|
  O.lt (putT s_111.2 (i_104, j_109) true) fun there_117 =>
  .ok ((p_115.2, there_117))
  else .ok ((p_115.2, s_111.2)))).bind fun s_112 =>
  .ok ((s_112.1, s_112.2))).bind fun s_107 =>
  .ok ((s_107.1, size_6, s_107.2))) (x_tail (x_bE (x_op2 (x_call (x_cons (x_plv (i := 0) rfl rfl (k_A (by exact (x_cons (by exact (x_v (v := eI 6) (by exact v_cI) (by exact (k_A (by exact (x_nil (Rf.no fun r_9 h_10 => (k_call1 (vs1 := []) (vs2 := [eI 6]) (v := (eL eI) r_4.2) (i := 0) (fr' := ([some (toD ((eL eI) r_9.2)), some (toD (eI most_2)), some (toD (eI odds_3)), some (toD (eI size_6)), some (toD ((eDP eB) (([] : List (PP × Bool))))), none, none, none, none, none, none, none, none] : Fr)) (rf_law_draw r_4.2 6) h_10 rfl rfl rfl rfl rfl rfl rfl (by exact (k_op2a ((v_var (i := 2) (by exact rfl))).l f_ltA (k_E (kb_ok rfl))))))))))))))))))))) (fun x_11 => (by exact (s_set (x_v (v := eI 5) (by exact v_cI) (by exact (k_Set (v := eI 5) (fr' := ([some (toD ((eL eI) x_11)), some (toD (eI most_2)), some (toD (eI odds_3)), some (toD (eI 5)), some (toD ((eDP eB) (([] : List (PP × Bool))))), none, none, none, none, none, none, none, none] : Fr)) rfl (by exact (s_set (x_call (x_cons (x_plv (i := 0) rfl rfl (k_A (by exact (x_cons (by exact (x_v (v := eI 5) (by exact v_cI) (by exact (k_A (by exact (x_nil (Rf.no fun r_66 h_67 => (k_call1 (vs1 := []) (vs2 := [eI 5]) (v := (eL eI) x_11) (i := 0) (fr' := ([some (toD ((eL eI) r_66.2)), some (toD (eI most_2)), some (toD (eI odds_3)), some (toD (eI 5)), some (toD ((eDP eB) (([] : List (PP × Bool))))), none, none, none, none, none, none, none, none] : Fr)) (rf_law_draw x_11 5) h_67 rfl rfl rfl rfl rfl rfl rfl (by exact (k_Set (v := eI r_66.1) (fr' := ([some (toD ((eL eI) r_66.2)), some (toD (eI most_2)), some (toD (eI odds_3)), some (toD (eI 5)), some (toD ((eDP eB) (([] : List (PP × Bool))))), some (toD (eI r_66.1)), none, none, none, none, none, none, none] : Fr)) rfl (by exact (s_set (x_op2r v_cI (x_call (x_cons (x_plv (i := 0) rfl rfl (k_A (by exact (x_cons (by exact (x_v (v := eI 2) (by exact v_cI) (by exact (k_A (by exact (x_nil (Rf.no fun r_68 h_69 => (k_call1 (vs1 := []) (vs2 := [eI 2]) (v := (eL eI) r_66.2) (i := 0) (fr' := ([some (toD ((eL eI) r_68.2)), some (toD (eI most_2)), some (toD (eI odds_3)), some (toD (eI 5)), some (toD ((eDP eB) (([] : List (PP × Bool))))), some (toD (eI r_66.1)), none, none, none, none, none, none, none] : Fr)) (rf_law_draw r_66.2 2) h_69 rfl rfl rfl rfl rfl rfl rfl (by exact (k_op2b (look_toD _ _) f_add (k_SetN (E := eI) (fr' := fun step_70 => ([some (toD ((eL eI) r_68.2)), some (toD (eI most_2)), some (toD (eI odds_3)), some (toD (eI 5)), some (toD ((eDP eB) (([] : List (PP × Bool))))), some (toD (eI r_66.1)), some (toD (eI step_70)), none, none, none, none, none, none] : Fr)) (fun _ => rfl) (fun step_70 => (by exact (s_forH (x_vi (by exact (vi_rg1 (v_cI).l (by decide))) (by exact (k_for (js := [false, false, false, false, false, false, false, true, true, true, false, false, false]) (F := (fun (s_72 : (List (PP × Bool))) => ([some (toD ((eL eI) r_68.2)), some (toD (eI most_2)), some (toD (eI odds_3)), some (toD (eI 5)), some (toD ((eDP eB) s_72)), some (toD (eI r_66.1)), some (toD (eI step_70)), none, none, none, none, none, none] : Fr))) (s0 := ([] : List (PP × Bool))) rfl (fun _ _ => rfl) (fun k_71 s_73 => (by exact (s_set (Rf.ck fun h_75 =>
  (by exact (x_v (v := eI (((r_66.1 + (k_71 * step_70)) % 5))) (by exact (v_op2 ((v_op1 ((v_op2 ((v_var (i := 5) (by exact rfl))).l ((v_op2 ((v_var (i := 7) (by exact rfl))).l ((v_var (i := 6) (by exact rfl))).l (f_mul h_75))).l f_add)).l f_int)).l (v_cI).l (f_mod (by decide)))) (by exact (k_SetN (E := eI) (fr' := fun one_76 => ([some (toD ((eL eI) r_68.2)), some (toD (eI most_2)), some (toD (eI odds_3)), some (toD (eI 5)), some (toD ((eDP eB) s_73)), some (toD (eI r_66.1)), some (toD (eI step_70)), some (toD (eI k_71)), some (toD (eI one_76)), none, none, none, none] : Fr)) (fun _ => rfl) (fun one_76 => (by exact (s_set (Rf.ck fun h_77 =>
  (by exact (x_v (v := eI ((((r_66.1 + (k_71 * step_70)) + step_70) % 5))) (by exact (v_op2 ((v_op1 ((v_op2 ((v_op2 ((v_var (i := 5) (by exact rfl))).l ((v_op2 ((v_var (i := 7) (by exact rfl))).l ((v_var (i := 6) (by exact rfl))).l (f_mul h_77))).l f_add)).l ((v_var (i := 6) (by exact rfl))).l f_add)).l f_int)).l (v_cI).l (f_mod (by decide)))) (by exact (k_SetN (E := eI) (fr' := fun two_78 => ([some (toD ((eL eI) r_68.2)), some (toD (eI most_2)), some (toD (eI odds_3)), some (toD (eI 5)), some (toD ((eDP eB) s_73)), some (toD (eI r_66.1)), some (toD (eI step_70)), some (toD (eI k_71)), some (toD (eI one_76)), some (toD (eI two_78)), none, none, none] : Fr)) (fun _ => rfl) (fun two_78 => (by exact (Rf.ck fun h_79 =>
  (by exact (s_dputN (f := eB) (i := 4) (fr' := fun there_80 => ([some (toD ((eL eI) r_68.2)), some (toD (eI most_2)), some (toD (eI odds_3)), some (toD (eI 5)), some (toD ((eDP eB) there_80)), some (toD (eI r_66.1)), some (toD (eI step_70)), some (toD (eI k_71)), some (toD (eI one_76)), some (toD (eI two_78)), none, none, none] : Fr)) rfl v_cB (va_cons (v_var (i := 8) (by exact rfl)) (va_cons (v_var (i := 9) (by exact rfl)) va_nil)) h_79 (fun _ => rfl) (fun there_80 => (by exact (Rf.ck fun h_81 =>
  (by exact (s_dputN (f := eB) (i := 4) (fr' := fun there_82 => ([some (toD ((eL eI) r_68.2)), some (toD (eI most_2)), some (toD (eI odds_3)), some (toD (eI 5)), some (toD ((eDP eB) there_82)), some (toD (eI r_66.1)), some (toD (eI step_70)), some (toD (eI k_71)), some (toD (eI one_76)), some (toD (eI two_78)), none, none, none] : Fr)) rfl v_cB (va_cons (v_var (i := 9) (by exact rfl)) (va_cons (v_var (i := 8) (by exact rfl)) va_nil)) h_81 (fun _ => rfl) (fun there_82 => (by exact (s_end ⟨.inl rfl, rfl⟩))))))))))))))))))))))))))))) (fun s_74 => (by exact (s_forH (x_rg1 (x_call (x_cons (x_plv (i := 0) rfl rfl (k_A (by exact (x_cons (by exact (x_v (v := eI 4) (by exact v_cI) (by exact (k_A (by exact (x_nil (Rf.no fun r_83 h_84 => (k_call1 (vs1 := []) (vs2 := [eI 4]) (v := (eL eI) r_68.2) (i := 0) (fr' := ([some (toD ((eL eI) r_83.2)), some (toD (eI most_2)), some (toD (eI odds_3)), some (toD (eI 5)), some (toD ((eDP eB) s_74)), some (toD (eI r_66.1)), some (toD (eI step_70)), none, none, none, none, none, none] : Fr)) (rf_law_draw r_68.2 4) h_84 rfl rfl rfl rfl rfl rfl rfl (by exact (Rf.ck fun h_85 =>
  (by exact (k_rg1 h_85 (k_for (js := [false, false, false, false, false, false, false, true, true, true, false, false, false]) (F := (fun (s_87 : (List Int) × (List (PP × Bool))) => ([some (toD ((eL eI) s_87.1)), some (toD (eI most_2)), some (toD (eI odds_3)), some (toD (eI 5)), some (toD ((eDP eB) s_87.2)), some (toD (eI r_66.1)), some (toD (eI step_70)), none, none, none, none, none, none] : Fr))) (s0 := (r_83.2, s_74)) rfl (fun _ _ => rfl) (fun k_86 s_88 => (by exact (s_set (x_call (x_cons (x_plv (i := 0) rfl rfl (k_A (by exact (x_cons (by exact (x_v (v := eI 5) (by exact v_cI) (by exact (k_A (by exact (x_nil (Rf.no fun r_90 h_91 => (k_call1 (vs1 := []) (vs2 := [eI 5]) (v := (eL eI) s_88.1) (i := 0) (fr' := ([some (toD ((eL eI) r_90.2)), some (toD (eI most_2)), some (toD (eI odds_3)), some (toD (eI 5)), some (toD ((eDP eB) s_88.2)), some (toD (eI r_66.1)), some (toD (eI step_70)), some (toD (eI k_86)), none, none, none, none, none] : Fr)) (rf_law_draw s_88.1 5) h_91 rfl rfl rfl rfl rfl rfl rfl (by exact (k_Set (v := eI r_90.1) (fr' := ([some (toD ((eL eI) r_90.2)), some (toD (eI most_2)), some (toD (eI odds_3)), some (toD (eI 5)), some (toD ((eDP eB) s_88.2)), some (toD (eI r_66.1)), some (toD (eI step_70)), some (toD (eI k_86)), some (toD (eI r_90.1)), none, none, none, none] : Fr)) rfl (by exact (s_set (x_op2 (x_op1 (x_op2r (v_op2 ((v_var (i := 8) (by exact rfl))).l (v_cI).l f_add) (x_call (x_cons (x_plv (i := 0) rfl rfl (k_A (by exact (x_cons (by exact (x_v (v := eI 4) (by exact v_cI) (by exact (k_A (by exact (x_nil (Rf.no fun r_92 h_93 => (k_call1 (vs1 := []) (vs2 := [eI 4]) (v := (eL eI) r_90.2) (i := 0) (fr' := ([some (toD ((eL eI) r_92.2)), some (toD (eI most_2)), some (toD (eI odds_3)), some (toD (eI 5)), some (toD ((eDP eB) s_88.2)), some (toD (eI r_66.1)), some (toD (eI step_70)), some (toD (eI k_86)), some (toD (eI r_90.1)), none, none, none, none] : Fr)) (rf_law_draw r_90.2 4) h_93 rfl rfl rfl rfl rfl rfl rfl (by exact (k_op2b (look_toD _ _) f_add (k_op1 f_int (k_op2a (v_cI).l (f_mod (by decide)) (k_SetN (E := eI) (fr' := fun two_94 => ([some (toD ((eL eI) r_92.2)), some (toD (eI most_2)), some (toD (eI odds_3)), some (toD (eI 5)), some (toD ((eDP eB) s_88.2)), some (toD (eI r_66.1)), some (toD (eI step_70)), some (toD (eI k_86)), some (toD (eI r_90.1)), some (toD (eI two_94)), none, none, none] : Fr)) (fun _ => rfl) (fun two_94 => (by exact (s_ifX (x_vb (vb_E (v_din (i := 4) rfl (va_cons (v_var (i := 8) (by exact rfl)) (va_cons (v_var (i := 9) (by exact rfl)) va_nil)))) (by exact (k_If (by exact (s_seqE (s_x (Rf.opt fun r_96 h_95 =>
  (by exact (x_dpop (i := 4) (fr' := ([some (toD ((eL eI) r_92.2)), some (toD (eI most_2)), some (toD (eI odds_3)), some (toD (eI 5)), some (toD ((eDP eB) ((delT s_88.2 (r_90.1, two_94))))), some (toD (eI r_66.1)), some (toD (eI step_70)), some (toD (eI k_86)), some (toD (eI r_90.1)), some (toD (eI two_94)), none, none, none] : Fr)) rfl (va_cons (v_var (i := 8) (by exact rfl)) (va_cons (v_var (i := 9) (by exact rfl)) va_nil)) h_95 rfl (by exact (k_X (by exact (s_nx (by exact (s_end ⟨.inl rfl, rfl⟩)))))))))))) (by exact (s_seqE (Rf.ck fun h_97 =>
  (by exact (s_dputN (f := eB) (i := 4) (fr' := fun there_98 => ([some (toD ((eL eI) r_92.2)), some (toD (eI most_2)), some (toD (eI odds_3)), some (toD (eI 5)), some (toD ((eDP eB) there_98)), some (toD (eI r_66.1)), some (toD (eI step_70)), some (toD (eI k_86)), some (toD (eI r_90.1)), some (toD (eI two_94)), none, none, none] : Fr)) rfl v_cB (va_cons (v_var (i := 8) (by exact rfl)) (va_cons (v_var (i := 9) (by exact rfl)) va_nil)) h_97 (fun _ => rfl) (fun there_98 => (by exact (s_nx (by exact (s_end ⟨.inl rfl, rfl⟩))))))))))))))))))))))))))))))))))))))))))))))))))))))))))) (fun s_89 => (by exact (s_end ⟨rfl, rfl⟩)))))))))))))))))))))))))))))))))))))))))))))))))))))))))))))))))))))))))))) (fun x_11 => (by exact (s_set (x_op2r (v_eq (w := eL eI [1, 2, 3, 5, 6]) rfl (v_lst (va_cons v_cI (va_cons v_cI (va_cons v_cI (va_cons v_cI (va_cons v_cI va_nil))))) rfl)) (x_call (x_cons (x_plv (i := 0) rfl rfl (k_A (by exact (x_cons (by exact (x_v (v := eI 5) (by exact v_cI) (by exact (k_A (by exact (x_nil (Rf.no fun r_99 h_100 => (k_call1 (vs1 := []) (vs2 := [eI 5]) (v := (eL eI) x_11) (i := 0) (fr' := ([some (toD ((eL eI) r_99.2)), some (toD (eI most_2)), some (toD (eI odds_3)), some (toD (eI size_6)), some (toD ((eDP eB) (([] : List (PP × Bool))))), none, none, none, none, none, none, none, none] : Fr)) (rf_law_draw x_11 5) h_100 rfl rfl rfl rfl rfl rfl rfl (by exact (Rf.opt fun r_102 h_101 =>
  (by exact (k_op2b (look_toD _ _) (f_ixL (e := eI) h_101) (k_Set (v := eI r_102) (fr' := ([some (toD ((eL eI) r_99.2)), some (toD (eI most_2)), some (toD (eI odds_3)), some (toD (eI size_6)), some (toD ((eDP eB) (([] : List (PP × Bool))))), none, none, none, none, none, some (toD (eI r_102)), none, none] : Fr)) rfl (by exact (s_forH (Rf.ck fun h_103 =>
  (by exact (x_vi (by exact (vi_rg1 ((v_var (i := 3) (by exact rfl))).l h_103)) (by exact (k_for (js := [false, false, false, false, false, false, false, false, false, false, false, true, true]) (F := (fun (s_105 : (List Int) × (List (PP × Bool))) => ([some (toD ((eL eI) s_105.1)), some (toD (eI most_2)), some (toD (eI odds_3)), some (toD (eI size_6)), some (toD ((eDP eB) s_105.2)), none, none, none, none, none, some (toD (eI r_102)), none, none] : Fr))) (s0 := (r_99.2, ([] : List (PP × Bool)))) rfl (fun _ _ => rfl) (fun i_104 s_106 => (by exact (s_forH (Rf.ck fun h_108 =>
  (by exact (x_vi (by exact (vi_rg1 ((v_var (i := 3) (by exact rfl))).l h_108)) (by exact (k_for (js := [false, false, false, false, false, false, false, false, false, false, false, false, true]) (F := (fun (s_110 : (List Int) × (List (PP × Bool))) => ([some (toD ((eL eI) s_110.1)), some (toD (eI most_2)), some (toD (eI odds_3)), some (toD (eI size_6)), some (toD ((eDP eB) s_110.2)), none, none, none, none, none, some (toD (eI r_102)), some (toD (eI i_104)), none] : Fr))) (s0 := (s_106.1, s_106.2)) rfl (fun _ _ => rfl) (fun j_109 s_111 => (by exact (s_ifX (x_join (F := (fun (s_118 : (List Int)) => ([some (toD ((eL eI) s_118)), some (toD (eI most_2)), some (toD (eI odds_3)), some (toD (eI size_6)), some (toD ((eDP eB) s_111.2)), none, none, none, none, none, some (toD (eI r_102)), some (toD (eI i_104)), some (toD (eI j_109))] : Fr))) (x_and (vb_E (v_op2 ((v_var (i := 11) (by exact rfl))).l ((v_var (i := 12) (by exact rfl))).l (f_ne eqb_I))) rfl (fun _ => (x_tail (x_bE (x_op2 (x_call (x_cons (x_plv (i := 0) rfl rfl (k_A (by exact (x_cons (by exact (x_v (v := eI 6) (by exact v_cI) (by exact (k_A (by exact (x_nil (Rf.no fun r_113 h_114 => (k_call1 (vs1 := []) (vs2 := [eI 6]) (v := (eL eI) s_111.1) (i := 0) (fr' := ([some (toD ((eL eI) r_113.2)), some (toD (eI most_2)), some (toD (eI odds_3)), some (toD (eI size_6)), some (toD ((eDP eB) s_111.2)), none, none, none, none, none, some (toD (eI r_102)), some (toD (eI i_104)), some (toD (eI j_109))] : Fr)) (rf_law_draw s_111.1 6) h_114 rfl rfl rfl rfl rfl rfl rfl (by exact (k_op2a ((v_var (i := 10) (by exact rfl))).l f_ltA (k_E (kb_ok rfl))))))))))))))))))))))) (fun p_115 => (k_If (by exact (s_seqE (Rf.ck fun h_116 =>
  (by exact (s_dputN (f := eB) (i := 4) (fr' := fun there_117 => ([some (toD ((eL eI) p_115.2)), some (toD (eI most_2)), some (toD (eI odds_3)), some (toD (eI size_6)), some (toD ((eDP eB) there_117)), none, none, none, none, none, some (toD (eI r_102)), some (toD (eI i_104)), some (toD (eI j_109))] : Fr)) rfl v_cB (va_cons (v_var (i := 11) (by exact rfl)) (va_cons (v_var (i := 12) (by exact rfl)) va_nil)) h_116 (fun _ => rfl) (fun there_117 => (by exact (s_nx (by exact (s_end ⟨.inl rfl, rfl⟩)))))))))) (by exact (s_nx (by exact (s_end ⟨.inl rfl, rfl⟩)))))))))) (fun s_112 => (by exact (s_end ⟨.inl rfl, rfl⟩))))))))))) (fun s_107 => (by exact (s_end ⟨rfl, rfl⟩))))))))))))))))))))))))))))))))) (fun s_8 => (by exact (s_ret (x_v (v := (eP2 eI (eT (eP2 eI eI))) ((s_8.2.1, ((s_8.2.2.map (·.1)).mergeSort leP)))) (by exact (v_tup (va_cons (v_var (i := 3) (by exact rfl)) (va_cons (v_op1 ((v_sortD (f := eB) (l := s_8.2.2) (i := 4) (by exact rfl))).l f_tupL) va_nil)) rfl)) (by exact (k_Ret (kd_ret1 (E := fun a => (eP2 eI (eT (eP2 eI eI))) a.1) (i := 0) (f := fun a => (eL eI) a.2) (a := ((s_8.2.1, ((s_8.2.2.map (·.1)).mergeSort leP)), s_8.1)) rfl rfl)))))))))))))))))))))))))))))))))))
theorem rf_is_below (value_1 : DV) (many_2 : Int) : Rf (fn_is_below (toDs [eY value_1, eI many_2])) (T_is_below value_1 many_2) (KF eB 2 os0) (KX 2 os0) := by
  unfold fn_is_below T_is_below
  refine fn_rf0 (fr0 := ([some (toD (eY value_1)), some (toD (eI many_2))] : Fr)) rfl ?_
  unfold g_is_below
  exact (by exact (s_ret (x_joinV (E := eB) (F := fun _ => [some (toD (eY value_1)), some (toD (eI many_2))]) (Rf.opt fun r_9 h_8 =>
  (by exact (x_andV (v_op1 ((v_var (i := 0) (by exact rfl))).l (f_isi h_8)) (fun _ => (Rf.opt fun r_11 h_10 =>
  (by exact (x_andV (v_not (v_op1 ((v_var (i := 0) (by exact rfl))).l (f_isi h_10))) (fun _ => (x_tail (Rf.opt fun r_13 h_12 =>
  (by exact (x_v (v := eB (((decide (0 ≤ r_13)) && (decide (r_13 < many_2))))) (by exact (v_chain (v_cI).l ((v_dec asI_of h_12 (v_var (i := 0) (by exact rfl)))).l ((v_var (i := 1) (by exact rfl))).l f_le f_ltA)) (by exact (kv_ok rfl rfl)))))))))))))) (fun b_7 => (k_Ret (kd_ret rfl))))))
theorem rf_first_wrong_arc (size_1 : Int) (arcs_2 : DV) : Rf (fn_first_wrong_arc (toDs [eI size_1, eY arcs_2])) (T_first_wrong_arc size_1 arcs_2) (KF (eO eI) 2 os0) (KX 2 os0) := by
  unfold fn_first_wrong_arc T_first_wrong_arc
  refine fn_rf0 (fr0 := ([some (toD (eI size_1)), some (toD (eY arcs_2)), none, none, none, none] : Fr)) rfl ?_
  unfold g_first_wrong_arc
  exact (by exact (s_ifX (Rf.opt fun r_4 h_3 =>
  (by exact (x_vb (vb_not (vb_E (v_op1 ((v_var (i := 1) (by exact rfl))).l (f_isiT h_3)))) (by exact (k_If (by exact (s_seqE (s_ret (x_v (v := eI 0) (by exact v_cI) (by exact (k_Ret (kd_ret rfl))))))) (by exact (s_nx (by exact (s_set (x_v (v := (eP2 eI eI) (((-1), (-1)))) (by exact (v_tup (va_cons (v_op1 (v_cI).l f_neg) (va_cons (v_op1 (v_cI).l f_neg) va_nil)) rfl)) (by exact (k_SetN (E := eY) (fr' := fun ahead_5 => ([some (toD (eI size_1)), some (toD (eY arcs_2)), some (toD (eY ahead_5)), none, none, none] : Fr)) (fun _ => rfl) (fun ahead_5 => (by exact (s_forH (Rf.opt fun r_7 h_6 =>
  (by exact (x_vi (by exact (vi_enY h_6 (v_var (i := 1) (by exact rfl)))) (by exact (k_loop (KR := (KD (eO eI) os0)) (js := [false, false, false, true, true, false]) (F := (fun (s_9 : DV) => ([some (toD (eI size_1)), some (toD (eY arcs_2)), some (toD (eY s_9)), none, none, none] : Fr))) (s0 := ahead_5) rfl (fun _ _ => rfl) (fun p_8 s_10 => (by exact (s_ifX (x_join (F := (fun (s_68 : Unit) => ([some (toD (eI size_1)), some (toD (eY arcs_2)), some (toD (eY s_10)), some (toD (eI p_8.1)), some (toD (eY p_8.2)), none] : Fr))) (Rf.opt fun r_17 h_16 =>
  (by exact (x_or (vb_not (vb_E (v_op1 ((v_var (i := 4) (by exact rfl))).l (f_isi h_16)))) rfl (fun _ => (Rf.opt fun r_19 h_18 =>
  (by exact (x_or (vb_E (v_op2 ((v_op1 ((v_var (i := 4) (by exact rfl))).l (f_lenY h_18))).l (v_cI).l (f_ne eqb_I))) rfl (fun _ => (x_tail (x_not (x_bE (x_op1 (x_compH (Rf.opt fun r_41 h_40 =>
  (by exact (x_vi (by exact (vi_Y h_40 (v_var (i := 4) (by exact rfl)))) (by exact (Rf.ck fun h_42 =>
  (by exact (k_comp (E2 := eB) (G := (fun (s_48 : Unit) => ([some (toD (eI size_1)), some (toD (eY arcs_2)), some (toD (eY s_10)), some (toD (eI p_8.1)), some (toD (eY p_8.2)), none] : Fr))) (s0 := ()) h_42 rfl (fun _ _ => rfl) (fun place_43 s_44 => (by exact (t_yes (Rf.no fun r_46 h_45 =>
  (by exact (x_v (v := eB r_46) (by exact (v_call (a := r_46) (E := eB) (rf_is_below place_43 size_1) h_45 rfl rfl (va_cons (v_var (i := 5) (by exact rfl)) (va_cons (v_var (i := 0) (by exact rfl)) va_nil)))) (by exact (k_turn (E2 := eB) (y := r_46) ⟨rfl, rfl⟩)))))))) (fun _ => rfl) (fun l_47 => (by exact (k_op1 f_all (k_E (kb_ok rfl))))))))))))))))))))))))) (fun p_49 => (k_If (by exact (s_seqE (s_ret (x_v (v := eI p_8.1) (by exact (v_var (i := 3) (by exact rfl))) (by exact (k_Ret ⟨⟨_, rfl⟩, kd_ret rfl⟩)))))) (by exact (s_nx (by exact (s_ifX (x_join (F := (fun (s_67 : Unit) => ([some (toD (eI size_1)), some (toD (eY arcs_2)), some (toD (eY s_10)), some (toD (eI p_8.1)), some (toD (eY p_8.2)), none] : Fr))) (Rf.opt fun r_59 h_58 =>
  (by exact (Rf.opt fun r_61 h_60 =>
  (by exact (Rf.opt fun r_63 h_62 =>
  (by exact (x_or (vb_E (v_op2 ((v_op2 ((v_var (i := 4) (by exact rfl))).l (v_cI).l (f_ixY h_58))).l ((v_op2 ((v_var (i := 4) (by exact rfl))).l (v_cI).l (f_ixY h_60))).l (f_eqY h_62))) rfl (fun _ => (x_tail (Rf.opt fun r_65 h_64 =>
  (by exact (x_vb (vb_E (v_op2 ((v_var (i := 4) (by exact rfl))).l ((v_var (i := 2) (by exact rfl))).l (f_leY h_64))) (by exact (kb_ok rfl)))))))))))))) (fun p_66 => (k_If (by exact (s_seqE (s_ret (x_v (v := eI p_8.1) (by exact (v_var (i := 3) (by exact rfl))) (by exact (k_Ret ⟨⟨_, rfl⟩, kd_ret rfl⟩)))))) (by exact (s_nx (by exact (s_set (x_v (v := p_8.2) (by exact (v_var (i := 4) (by exact rfl))) (by exact (k_Set (v := eY p_8.2) (fr' := ([some (toD (eI size_1)), some (toD (eY arcs_2)), some (toD (eY p_8.2)), some (toD (eI p_8.1)), some (toD (eY p_8.2)), none] : Fr)) rfl (by exact (s_end ⟨.inl rfl, rfl⟩)))))))))))))))))))))) (fun s_11 => (by exact (s_ret (x_v (v := .non) (by exact v_cN) (by exact (k_Ret (kd_ret rfl))))))) (fun x d fr h => ⟨_, _, rfl, h⟩)))))))))))))))))))))))
theorem rf_Net_init (size_1 : Int) (arcs_2 : DV) : Rf (fn_Net_init (toDs [.obj 0 [] [], eI size_1, eY arcs_2])) (T_Net_init size_1 arcs_2) (KF (fun a => eU a.1) 3 (os1 0 fun a => e_Net a.2)) (KX 3 os0) := by
  unfold fn_Net_init T_Net_init
  refine fn_rf1e (by decide) (fr0 := ([some (toD (.obj 0 [] [])), some (toD (eI size_1)), some (toD (eY arcs_2)), none, none, none, none] : Fr)) rfl ?_
  unfold g_Net_init
  exact (by exact (s_ifX (Rf.no fun r_4 h_3 =>
  (by exact (x_vb (vb_or (vb_not (vb_E (v_call (a := r_4) (E := eB) (rf_is_below ((eI size_1)) ((12 + 1))) h_3 rfl rfl (va_cons (v_var (i := 1) (by exact rfl)) (va_cons (v_op2 (v_cI).l (v_cI).l f_add) va_nil))))) (vb_E (v_op2 ((v_var (i := 1) (by exact rfl))).l (v_cI).l f_ltA))) (by exact (k_If (by exact (s_seqE (s_raise (va_cons v_cS (va_cons v_cI va_nil)) rfl (kde0 (st := []))))) (by exact (s_nx (by exact (s_set (Rf.no fun r_6 h_5 =>
  (by exact (x_v (v := (eO eI) r_6) (by exact (v_call (a := r_6) (E := (eO eI)) (rf_first_wrong_arc size_1 arcs_2) h_5 rfl rfl (va_cons (v_var (i := 1) (by exact rfl)) (va_cons (v_var (i := 2) (by exact rfl)) va_nil)))) (by exact (k_Set (v := (eO eI) r_6) (fr' := ([some (toD (.obj 0 [] [])), some (toD (eI size_1)), some (toD (eY arcs_2)), some (toD ((eO eI) r_6)), none, none, none] : Fr)) rfl (by exact (s_ifX (x_vb (vb_E (v_op2 ((v_var (i := 3) (by exact rfl))).l (v_cN).l (f_isNnO fun _ => rfl))) (by exact (k_If (by exact (s_seqE (s_raise (va_cons v_cS (va_cons (v_var (i := 3) (by exact rfl)) va_nil)) rfl (kde0 (st := []))))) (by exact (s_nx (by exact (s_fldX (x_v (v := eI size_1) (by exact (v_var (i := 1) (by exact rfl))) (by exact (k_fldN (E := eI) (i := 0) (n := 0) (cs := [0]) (c := 0) (ns := []) (fs := []) (ns' := [0]) (fs' := fun size_7 => [eI size_7]) (fr' := fun size_7 => ([some (toD (.obj 0 [0] [eI size_7])), some (toD (eI size_1)), some (toD (eY arcs_2)), some (toD ((eO eI) r_6)), none, none, none] : Fr)) rfl rfl rfl (fun _ => rfl) (fun _ => rfl) (fun size_7 => (by exact (s_fldX (Rf.opt fun r_9 h_8 =>
  (by exact (x_v (v := r_9) (by exact (v_op1 ((v_var (i := 2) (by exact rfl))).l (f_tupY h_8))) (by exact (Rf.opt fun r_11 h_10 =>
  (by exact (k_cv ((asT_of (asP2_of asI_of asI_of)) _ _ h_10) (k_fldN (E := (eT (eP2 eI eI))) (i := 0) (n := 1) (cs := [0]) (c := 0) (ns := [0]) (fs := [eI size_7]) (ns' := [0, 1]) (fs' := fun arcs_12 => [eI size_7, (eT (eP2 eI eI)) arcs_12]) (fr' := fun arcs_12 => ([some (toD (.obj 0 [0, 1] [eI size_7, (eT (eP2 eI eI)) arcs_12])), some (toD (eI size_1)), some (toD (eY arcs_2)), some (toD ((eO eI) r_6)), none, none, none] : Fr)) rfl rfl rfl (fun _ => rfl) (fun _ => rfl) (fun arcs_12 => (by exact (s_fldX (Rf.ck fun h_13 =>
  (by exact (Rf.ck fun h_16 =>
  (by exact (Rf.ck fun h_17 =>
  (by exact (x_v (v := (eT (eT eI)) (((rngT 0 size_1).map fun place_14 => ((arcs_12.filter fun p_15 => (decide (p_15.1 = place_14))).map fun p_15 => p_15.2)))) (by exact (v_op1 ((v_comp0 (E := eI) (E2 := (eT eI)) (vi_rg1 ((v_var (i := 1) (by exact rfl))).l h_13) h_17 (fun _ => rfl) (tgIn_N rfl) (fun place_14 => (by exact (v_op1 ((v_comp (E := (eP2 eI eI)) (E2 := eI) (vi_T (v_attr (c := 0) (ns := [0, 1]) (fs := [eI size_7, (eT (eP2 eI eI)) arcs_12]) (z := (eT (eP2 eI eI)) arcs_12) (l_pl (i := 0) (by exact rfl) (by exact rfl)) rfl rfl)) h_16 (fun _ => rfl) (tgIn_T rfl) (fun p_15 => (by exact (vb_E (v_op2 ((v_var (i := 5) (by exact rfl))).l ((v_var (i := 4) (by exact rfl))).l (f_eq eqb_I))))) (fun p_15 _ => (by exact (v_var (i := 6) (by exact rfl)))))).l f_tupL))))).l f_tupL)) (by exact (k_fldN (E := (eT (eT eI))) (i := 0) (n := 2) (cs := [0]) (c := 0) (ns := [0, 1]) (fs := [eI size_7, (eT (eP2 eI eI)) arcs_12]) (ns' := [0, 1, 2]) (fs' := fun knows_18 => [eI size_7, (eT (eP2 eI eI)) arcs_12, (eT (eT eI)) knows_18]) (fr' := fun knows_18 => ([some (toD (.obj 0 [0, 1, 2] [eI size_7, (eT (eP2 eI eI)) arcs_12, (eT (eT eI)) knows_18])), some (toD (eI size_1)), some (toD (eY arcs_2)), some (toD ((eO eI) r_6)), none, none, none] : Fr)) rfl rfl rfl (fun _ => rfl) (fun _ => rfl) (fun knows_18 => (by exact (s_end (kd_nx1 (E := fun a => eU a.1) (i := 0) (f := fun a => e_Net a.2) (a := ((), (size_7, arcs_12, knows_18))) rfl rfl)))))))))))))))))))))))))))))))))))))))))))))))))))))))
theorem rf_stripped (net_1 : O_Net) (places_2 : (Bool × List Int)) : Rf (fn_stripped (toDs [e_Net net_1, (eTL eI) places_2])) (T_stripped net_1 places_2) (KF (eL eI) 2 os0) (KX 2 os0) := by
  unfold fn_stripped T_stripped
  refine fn_rf0 (fr0 := ([some (toD (e_Net net_1)), some (toD ((eTL eI) places_2)), none, none, none, none] : Fr)) rfl ?_
  unfold g_stripped
  exact (by exact (s_set (x_v (v := (eL eI) ((places_2).2)) (by exact (v_op1 ((v_var (i := 1) (by exact rfl))).l f_lstTL)) (by exact (k_SetN (E := (eL eI)) (fr' := fun left_3 => ([some (toD (e_Net net_1)), some (toD ((eTL eI) places_2)), some (toD ((eL eI) left_3)), none, none, none] : Fr)) (fun _ => rfl) (fun left_3 => (by exact (s_set (x_v (v := eI ((((left_3).length : Int) + 1))) (by exact (v_op2 ((v_op1 ((v_var (i := 2) (by exact rfl))).l f_lenL)).l (v_cI).l f_add)) (by exact (k_SetN (E := eI) (fr' := fun before_4 => ([some (toD (e_Net net_1)), some (toD ((eTL eI) places_2)), some (toD ((eL eI) left_3)), some (toD (eI before_4)), none, none] : Fr)) (fun _ => rfl) (fun before_4 => (by exact (s_while (KR := (KD (eL eI) os0)) (js := [false, false, false, false, false, false]) (F := (fun (s_5 : (List Int) × Int) => ([some (toD (e_Net net_1)), some (toD ((eTL eI) places_2)), some (toD ((eL eI) s_5.1)), some (toD (eI s_5.2)), none, none] : Fr))) (s0 := (left_3, before_4)) rfl (fun s_8 => (wh_v (vb_E (v_op2 ((v_op1 ((v_var (i := 2) (by exact rfl))).l f_lenL)).l ((v_var (i := 3) (by exact rfl))).l f_ltA)))) (fun s_6 => (by exact (s_set (x_v (v := eI (((s_6.1).length : Int))) (by exact (v_op1 ((v_var (i := 2) (by exact rfl))).l f_lenL)) (by exact (k_SetN (E := eI) (fr' := fun before_9 => ([some (toD (e_Net net_1)), some (toD ((eTL eI) places_2)), some (toD ((eL eI) s_6.1)), some (toD (eI before_9)), none, none] : Fr)) (fun _ => rfl) (fun before_9 => (by exact (s_set (x_compH (x_vi (by exact (vi_L (v_var (i := 2) (by exact rfl)))) (by exact (Rf.ck fun h_15 =>
  (by exact (k_comp (E2 := eI) (G := (fun (s_23 : Unit) => ([some (toD (e_Net net_1)), some (toD ((eTL eI) places_2)), some (toD ((eL eI) s_6.1)), some (toD (eI before_9)), none, none] : Fr))) (s0 := ()) h_15 rfl (fun _ _ => rfl) (fun place_16 s_17 => (by exact (Rf.opt fun r_19 h_18 =>
  (by exact (Rf.ck fun h_21 =>
  (by exact (t_v (vb_E (v_op1 ((v_comp0 (E := eI) (E2 := eB) (vi_T (v_op2 ((v_attr (c := 0) (ns := [0, 1, 2]) (fs := [eI net_1.1, (eT (eP2 eI eI)) net_1.2.1, (eT (eT eI)) net_1.2.2]) (z := (eT (eT eI)) net_1.2.2) ((v_var (i := 0) (by exact rfl))).l rfl rfl)).l ((v_var (i := 4) (by exact rfl))).l (f_ixT (e := (eT eI)) h_18))) h_21 (fun _ => rfl) (tgIn_N rfl) (fun other_20 => (by exact (v_op2 ((v_var (i := 5) (by exact rfl))).l ((v_var (i := 2) (by exact rfl))).l (f_in dat_I (by decide))))))).l f_any)) (x_v (v := eI place_16) (by exact (v_var (i := 4) (by exact rfl))) (by exact (k_turn (E2 := eI) (y := place_16) ⟨rfl, rfl⟩))) ⟨_, _, rfl, rfl, rfl⟩))))))) (fun _ => rfl) (fun l_22 => (by exact (k_Set (v := (eL eI) l_22.1) (fr' := ([some (toD (e_Net net_1)), some (toD ((eTL eI) places_2)), some (toD ((eL eI) l_22.1)), some (toD (eI before_9)), none, none] : Fr)) rfl (by exact (s_end ⟨.inl rfl, rfl⟩)))))))))))))))))))) (fun s_7 => (by exact (s_ret (x_v (v := (eL eI) s_7.1) (by exact (v_var (i := 2) (by exact rfl))) (by exact (k_Ret (kd_ret rfl))))))) (fun x d fr h => ⟨_, _, rfl, h⟩)))))))))))))))
theorem rf_some_ring (net_1 : O_Net) : Rf (fn_some_ring (toDs [e_Net net_1])) (T_some_ring net_1) (KF (eO (eT eI)) 1 os0) (KX 1 os0) := by
  unfold fn_some_ring T_some_ring
  refine fn_rf0 (fr0 := ([some (toD (e_Net net_1)), none, none, none, none, none] : Fr)) rfl ?_
  unfold g_some_ring
  exact (by exact (s_set (Rf.ck fun h_2 =>
  (by exact (Rf.no fun r_4 h_3 =>
  (by exact (x_v (v := (eL eI) r_4) (by exact (v_call (a := r_4) (E := (eL eI)) (rf_stripped net_1 ((false, (rngT 0 net_1.1)))) h_3 rfl rfl (va_cons (v_var (i := 0) (by exact rfl)) (va_cons (v_op1 ((v_attr (c := 0) (ns := [0, 1, 2]) (fs := [eI net_1.1, (eT (eP2 eI eI)) net_1.2.1, (eT (eT eI)) net_1.2.2]) (z := eI net_1.1) ((v_var (i := 0) (by exact rfl))).l rfl rfl)).l (f_rgL h_2)) va_nil)))) (by exact (k_Set (v := (eL eI) r_4) (fr' := ([some (toD (e_Net net_1)), some (toD ((eL eI) r_4)), none, none, none, none] : Fr)) rfl (by exact (s_ifX (x_vb (vb_not (vb_tru ((v_var (i := 1) (by exact rfl))).l tru_L)) (by exact (k_If (by exact (s_seqE (s_ret (x_v (v := .non) (by exact v_cN) (by exact (k_Ret (kd_ret rfl))))))) (by exact (s_nx (by exact (s_setF (Rf.opt fun r_6 h_5 =>
  (by exact (x_v (v := (eL eI) ([r_6])) (by exact (v_eq (w := eL eI [r_6]) rfl (v_lst (va_cons (v_op2 ((v_var (i := 1) (by exact rfl))).l (v_cI).l (f_ixL (e := eI) h_5)) va_nil) rfl))) (by exact (k_SetFN (E := (eL eI)) (fr' := fun way_7 => ([some (toD (e_Net net_1)), some (toD ((eL eI) r_4)), some (toD ((eL eI) way_7)), none, none, none] : Fr)) (fun _ => rfl) (fun way_7 => (by exact (s_forH (Rf.ck fun h_8 =>
  (by exact (x_vi (by exact (vi_rg1 ((v_attr (c := 0) (ns := [0, 1, 2]) (fs := [eI net_1.1, (eT (eP2 eI eI)) net_1.2.1, (eT (eT eI)) net_1.2.2]) (z := eI net_1.1) ((v_var (i := 0) (by exact rfl))).l rfl rfl)).l h_8)) (by exact (k_loop (KR := (KD (eO (eT eI)) os0)) (js := [false, false, false, true, true, false]) (F := (fun (s_10 : (List Int)) => ([some (toD (e_Net net_1)), some (toD ((eL eI) r_4)), some (toD ((eL eI) s_10)), none, none, none] : Fr))) (s0 := way_7) rfl (fun _ _ => rfl) (fun x_9 s_11 => (by exact (s_set (Rf.opt fun r_14 h_13 =>
  (by exact (Rf.opt fun r_16 h_15 =>
  (by exact (Rf.ck fun h_18 =>
  (by exact (Rf.opt fun r_20 h_19 =>
  (by exact (x_v (v := eI r_20) (by exact (v_op2 ((v_comp (E := eI) (E2 := eI) (vi_T (v_op2 ((v_attr (c := 0) (ns := [0, 1, 2]) (fs := [eI net_1.1, (eT (eP2 eI eI)) net_1.2.1, (eT (eT eI)) net_1.2.2]) (z := (eT (eT eI)) net_1.2.2) ((v_var (i := 0) (by exact rfl))).l rfl rfl)).l ((v_op2 (l_pl (i := 2) (by exact rfl) (by exact rfl)) ((v_op1 (v_cI).l f_neg)).l (f_ixL (e := eI) h_13))).l (f_ixT (e := (eT eI)) h_15))) h_18 (fun _ => rfl) (tgIn_N rfl) (fun other_17 => (by exact (vb_E (v_op2 ((v_var (i := 5) (by exact rfl))).l ((v_var (i := 1) (by exact rfl))).l (f_in dat_I (by decide)))))) (fun other_17 _ => (by exact (v_var (i := 5) (by exact rfl)))))).l (v_cI).l (f_ixL (e := eI) h_19))) (by exact (k_Set (v := eI r_20) (fr' := ([some (toD (e_Net net_1)), some (toD ((eL eI) r_4)), some (toD ((eL eI) s_11)), some (toD (eI x_9)), some (toD (eI r_20)), none] : Fr)) rfl (by exact (s_ifX (x_vb (vb_E (v_op2 ((v_var (i := 4) (by exact rfl))).l (l_pl (i := 2) (by exact rfl) (by exact rfl)) (f_in dat_I (by decide)))) (by exact (k_If (by exact (s_seqE (s_ret (Rf.opt fun r_22 h_21 =>
  (by exact (x_v (v := (eT eI) ((cutT s_11 (some r_22) none))) (by exact (v_op1 ((v_slLF (l_pl (i := 2) (by exact rfl) (by exact rfl)) (vo_some ((v_lm (l_pl (i := 2) (by exact rfl) (by exact rfl)) rfl ((v_var (i := 4) (by exact rfl))).l (f_idxI h_21))).l) vo_none)).l f_tupL)) (by exact (k_Ret ⟨⟨_, rfl⟩, kd_ret rfl⟩)))))))) (by exact (s_nx (by exact (s_x (x_mut (i := 2) rfl rfl (x_cons (by exact (x_v (v := eI r_20) (by exact (v_var (i := 4) (by exact rfl))) (by exact (k_A (by exact (x_nil (Rf.ck fun h_23 =>
  (by exact (k_mut (i := 2) (vs := [eI r_20]) (fr' := ([some (toD (e_Net net_1)), some (toD ((eL eI) r_4)), some (toD ((eL eI) ((s_11 ++ [r_20])))), some (toD (eI x_9)), some (toD (eI r_20)), none] : Fr)) rfl rfl (m_app (E := eI) (a := r_20) h_23) rfl (by exact (k_X (by exact (s_end ⟨.inl rfl, rfl⟩)))))))))))))))))))))))))))))))))))))) (fun s_12 => (by exact (s_ret (x_v (v := .non) (by exact v_cN) (by exact (k_Ret (kd_ret rfl))))))) (fun x d fr h => ⟨_, _, rfl, h⟩))))))))))))))))))))))))))))))))
theorem rf_law_knows (net_1 : (Int × (List (Int × Int)))) (i_2 : Int) : Rf (fn_law_knows (toDs [(eP2 eI (eT (eP2 eI eI))) net_1, eI i_2])) (T_law_knows net_1 i_2) (KF (eT eI) 2 os0) (KX 2 os0) := by
  unfold fn_law_knows T_law_knows
  refine fn_rf0 (fr0 := ([some (toD ((eP2 eI (eT (eP2 eI eI))) net_1)), some (toD (eI i_2)), none] : Fr)) rfl ?_
  unfold g_law_knows
  exact (by exact (s_ret (Rf.ck fun h_4 =>
  (by exact (x_v (v := (eT eI) (((net_1.2.filter fun arc_3 => (decide (arc_3.1 = i_2))).map fun arc_3 => arc_3.2))) (by exact (v_op1 ((v_comp (E := (eP2 eI eI)) (E2 := eI) (vi_T (v_op2 ((v_var (i := 0) (by exact rfl))).l (v_cI).l (f_ixP (i := 1) (vs := [eI net_1.1, (eT (eP2 eI eI)) net_1.2]) (v := (eT (eP2 eI eI)) net_1.2) rfl))) h_4 (fun _ => rfl) (tgIn_N rfl) (fun arc_3 => (by exact (vb_E (v_op2 ((v_op2 ((v_var (i := 2) (by exact rfl))).l (v_cI).l (f_ixP (i := 0) (vs := [eI arc_3.1, eI arc_3.2]) (v := eI arc_3.1) rfl))).l ((v_var (i := 1) (by exact rfl))).l (f_eq eqb_I))))) (fun arc_3 _ => (by exact (v_op2 ((v_var (i := 2) (by exact rfl))).l (v_cI).l (f_ixP (i := 1) (vs := [eI arc_3.1, eI arc_3.2]) (v := eI arc_3.2) rfl)))))).l f_tupL)) (by exact (k_Ret (kd_ret rfl))))))))
theorem rf_law_walked (pool_here_1 : List Int) (net_2 : (Int × (List (Int × Int)))) : Rf (fn_law_walked (toDs [(eL eI) pool_here_1, (eP2 eI (eT (eP2 eI eI))) net_2])) (T_law_walked pool_here_1 net_2) (KF (fun a => (eT eI) a.1) 2 (os1 0 fun a => (eL eI) a.2)) (KX 2 os0) := by
  unfold fn_law_walked T_law_walked
  refine fn_rf1e (by decide) (fr0 := ([some (toD ((eL eI) pool_here_1)), some (toD ((eP2 eI (eT (eP2 eI eI))) net_2)), none, none, none, none] : Fr)) rfl ?_
  unfold g_law_walked
  exact (by exact (s_setF (x_lst (x_cons (by exact (x_call (x_cons (x_plv (i := 0) rfl rfl (k_A (by exact (x_cons (by exact (x_v (v := eI net_2.1) (by exact (v_op2 ((v_var (i := 1) (by exact rfl))).l (v_cI).l (f_ixP (i := 0) (vs := [eI net_2.1, (eT (eP2 eI eI)) net_2.2]) (v := eI net_2.1) rfl))) (by exact (k_A (by exact (x_nil (Rf.no fun r_3 h_4 => (k_call1 (vs1 := []) (vs2 := [eI net_2.1]) (v := (eL eI) pool_here_1) (i := 0) (fr' := ([some (toD ((eL eI) r_3.2)), some (toD ((eP2 eI (eT (eP2 eI eI))) net_2)), none, none, none, none] : Fr)) (rf_law_draw pool_here_1 net_2.1) h_4 rfl rfl rfl rfl rfl rfl rfl (by exact (k_A (by exact (x_nil (k_lst (vs := [eI r_3.1]) rfl (k_cv (show DV.lst [eI r_3.1] = eL eI [r_3.1] from rfl) (k_SetFN (E := (eL eI)) (fr' := fun row_5 => ([some (toD ((eL eI) r_3.2)), some (toD ((eP2 eI (eT (eP2 eI eI))) net_2)), some (toD ((eL eI) row_5)), none, none, none] : Fr)) (fun _ => rfl) (fun row_5 => (by exact (s_forH (x_vi (by exact (vi_rg1 (v_cI).l (by decide))) (by exact (k_loop (KR := (KD (fun a => (eT eI) a.1) (os1 0 fun a => (eL eI) a.2))) (js := [false, false, false, true, true, true]) (F := (fun (s_7 : (List Int) × (List Int)) => ([some (toD ((eL eI) s_7.1)), some (toD ((eP2 eI (eT (eP2 eI eI))) net_2)), some (toD ((eL eI) s_7.2)), none, none, none] : Fr))) (s0 := (r_3.2, row_5)) rfl (fun _ _ => rfl) (fun k_6 s_8 => (by exact (s_set (Rf.opt fun r_11 h_10 =>
  (by exact (Rf.no fun r_13 h_12 =>
  (by exact (x_v (v := (eT eI) r_13) (by exact (v_call (a := r_13) (E := (eT eI)) (rf_law_knows net_2 r_11) h_12 rfl rfl (va_cons (v_var (i := 1) (by exact rfl)) (va_cons (v_op2 (l_pl (i := 2) (by exact rfl) (by exact rfl)) ((v_op1 (v_cI).l f_neg)).l (f_ixL (e := eI) h_10)) va_nil)))) (by exact (k_Set (v := (eT eI) r_13) (fr' := ([some (toD ((eL eI) s_8.1)), some (toD ((eP2 eI (eT (eP2 eI eI))) net_2)), some (toD ((eL eI) s_8.2)), some (toD (eI k_6)), some (toD ((eT eI) r_13)), none] : Fr)) rfl (by exact (s_ifX (x_vb (vb_E (v_op2 ((v_op1 ((v_var (i := 4) (by exact rfl))).l f_lenT)).l (v_cI).l (f_eq eqb_I))) (by exact (k_If (by exact (s_seqE (s_ret (x_v (v := (eT eI) s_8.2) (by exact (v_op1 (l_pl (i := 2) (by exact rfl) (by exact rfl)) f_tupL)) (by exact (k_Ret ⟨⟨_, rfl⟩, kd_ret1 (E := fun a => (eT eI) a.1) (i := 0) (f := fun a => (eL eI) a.2) (a := (s_8.2, s_8.1)) rfl rfl⟩)))))) (by exact (s_nx (by exact (s_set (x_op2r (v_var (i := 4) (by exact rfl)) (x_call (x_cons (x_plv (i := 0) rfl rfl (k_A (by exact (x_cons (by exact (x_v (v := eI (((r_13).length : Int))) (by exact (v_op1 ((v_var (i := 4) (by exact rfl))).l f_lenT)) (by exact (k_A (by exact (x_nil (Rf.no fun r_14 h_15 => (k_call1 (vs1 := []) (vs2 := [eI (((r_13).length : Int))]) (v := (eL eI) s_8.1) (i := 0) (fr' := ([some (toD ((eL eI) r_14.2)), some (toD ((eP2 eI (eT (eP2 eI eI))) net_2)), some (toD ((eL eI) s_8.2)), some (toD (eI k_6)), some (toD ((eT eI) r_13)), none] : Fr)) (rf_law_draw s_8.1 (((r_13).length : Int))) h_15 rfl rfl rfl rfl rfl rfl rfl (by exact (Rf.opt fun r_17 h_16 =>
  (by exact (k_op2b (look_toD _ _) (f_ixT (e := eI) h_16) (k_Set (v := eI r_17) (fr' := ([some (toD ((eL eI) r_14.2)), some (toD ((eP2 eI (eT (eP2 eI eI))) net_2)), some (toD ((eL eI) s_8.2)), some (toD (eI k_6)), some (toD ((eT eI) r_13)), some (toD (eI r_17))] : Fr)) rfl (by exact (s_ifX (x_vb (vb_E (v_op2 ((v_var (i := 5) (by exact rfl))).l (l_pl (i := 2) (by exact rfl) (by exact rfl)) (f_in dat_I (by decide)))) (by exact (k_If (by exact (s_seqE (s_ret (Rf.opt fun r_19 h_18 =>
  (by exact (x_v (v := (eT eI) ((cutT s_8.2 (some r_19) none))) (by exact (v_op1 ((v_slLF (l_pl (i := 2) (by exact rfl) (by exact rfl)) (vo_some ((v_lm (l_pl (i := 2) (by exact rfl) (by exact rfl)) rfl ((v_var (i := 5) (by exact rfl))).l (f_idxI h_18))).l) vo_none)).l f_tupL)) (by exact (k_Ret ⟨⟨_, rfl⟩, kd_ret1 (E := fun a => (eT eI) a.1) (i := 0) (f := fun a => (eL eI) a.2) (a := ((cutT s_8.2 (some r_19) none), r_14.2)) rfl rfl⟩)))))))) (by exact (s_nx (by exact (s_x (x_mut (i := 2) rfl rfl (x_cons (by exact (x_v (v := eI r_17) (by exact (v_var (i := 5) (by exact rfl))) (by exact (k_A (by exact (x_nil (Rf.ck fun h_20 =>
  (by exact (k_mut (i := 2) (vs := [eI r_17]) (fr' := ([some (toD ((eL eI) r_14.2)), some (toD ((eP2 eI (eT (eP2 eI eI))) net_2)), some (toD ((eL eI) ((s_8.2 ++ [r_17])))), some (toD (eI k_6)), some (toD ((eT eI) r_13)), some (toD (eI r_17))] : Fr)) rfl rfl (m_app (E := eI) (a := r_17) h_20) rfl (by exact (k_X (by exact (s_end ⟨.inl rfl, rfl⟩))))))))))))))))))))))))))))))))))))))))))))))))))))))))))))))) (fun s_9 => (by exact (s_ret (x_v (v := (eT eI) s_9.2) (by exact (v_op1 (l_pl (i := 2) (by exact rfl) (by exact rfl)) f_tupL)) (by exact (k_Ret (kd_ret1 (E := fun a => (eT eI) a.1) (i := 0) (f := fun a => (eL eI) a.2) (a := (s_9.2, s_9.1)) rfl rfl))))))) (fun x d fr h => ⟨_, _, rfl, h⟩)))))))))))))))))))))))))))))))))
theorem rf_law_value (pool_here_1 : List Int) (net_2 : (Int × (List (Int × Int)))) : Rf (fn_law_value (toDs [(eL eI) pool_here_1, (eP2 eI (eT (eP2 eI eI))) net_2])) (T_law_value pool_here_1 net_2) (KF (fun a => eY a.1) 2 (os1 0 fun a => (eL eI) a.2)) (KX 2 os0) := by
  unfold fn_law_value T_law_value
  refine fn_rf1e (by decide) (fr0 := ([some (toD ((eL eI) pool_here_1)), some (toD ((eP2 eI (eT (eP2 eI eI))) net_2)), none, none, none, none, none] : Fr)) rfl ?_
  unfold g_law_value
  exact (by exact (s_set (x_call (x_cons (x_plv (i := 0) rfl rfl (k_A (by exact (x_cons (by exact (x_v (v := (eP2 eI (eT (eP2 eI eI))) net_2) (by exact (v_var (i := 1) (by exact rfl))) (by exact (k_A (by exact (x_nil (Rf.no fun r_3 h_4 => (k_call1 (vs1 := []) (vs2 := [(eP2 eI (eT (eP2 eI eI))) net_2]) (v := (eL eI) pool_here_1) (i := 0) (fr' := ([some (toD ((eL eI) r_3.2)), some (toD ((eP2 eI (eT (eP2 eI eI))) net_2)), none, none, none, none, none] : Fr)) (rf_law_walked pool_here_1 net_2) h_4 rfl rfl rfl rfl rfl rfl rfl (by exact (k_Set (v := (eT eI) r_3.1) (fr' := ([some (toD ((eL eI) r_3.2)), some (toD ((eP2 eI (eT (eP2 eI eI))) net_2)), some (toD ((eT eI) r_3.1)), none, none, none, none] : Fr)) rfl (by exact (s_set (x_call (x_cons (x_plv (i := 0) rfl rfl (k_A (by exact (x_cons (by exact (x_v (v := eI (((r_3.1).length : Int))) (by exact (v_op1 ((v_var (i := 2) (by exact rfl))).l f_lenT)) (by exact (k_A (by exact (x_nil (Rf.no fun r_5 h_6 => (k_call1 (vs1 := []) (vs2 := [eI (((r_3.1).length : Int))]) (v := (eL eI) r_3.2) (i := 0) (fr' := ([some (toD ((eL eI) r_5.2)), some (toD ((eP2 eI (eT (eP2 eI eI))) net_2)), some (toD ((eT eI) r_3.1)), none, none, none, none] : Fr)) (rf_law_draw r_3.2 (((r_3.1).length : Int))) h_6 rfl rfl rfl rfl rfl rfl rfl (by exact (k_Set (v := eI r_5.1) (fr' := ([some (toD ((eL eI) r_5.2)), some (toD ((eP2 eI (eT (eP2 eI eI))) net_2)), some (toD ((eT eI) r_3.1)), some (toD (eI r_5.1)), none, none, none] : Fr)) rfl (by exact (s_set (x_call (x_cons (x_plv (i := 0) rfl rfl (k_A (by exact (x_cons (by exact (x_v (v := eI 15) (by exact v_cI) (by exact (k_A (by exact (x_nil (Rf.no fun r_7 h_8 => (k_call1 (vs1 := []) (vs2 := [eI 15]) (v := (eL eI) r_5.2) (i := 0) (fr' := ([some (toD ((eL eI) r_7.2)), some (toD ((eP2 eI (eT (eP2 eI eI))) net_2)), some (toD ((eT eI) r_3.1)), some (toD (eI r_5.1)), none, none, none] : Fr)) (rf_law_draw r_5.2 15) h_8 rfl rfl rfl rfl rfl rfl rfl (by exact (k_Set (v := eI r_7.1) (fr' := ([some (toD ((eL eI) r_7.2)), some (toD ((eP2 eI (eT (eP2 eI eI))) net_2)), some (toD ((eT eI) r_3.1)), some (toD (eI r_5.1)), some (toD (eI r_7.1)), none, none] : Fr)) rfl (by exact (s_set (x_call (x_cons (x_plv (i := 0) rfl rfl (k_A (by exact (x_cons (by exact (x_v (v := eI 10) (by exact v_cI) (by exact (k_A (by exact (x_nil (Rf.no fun r_9 h_10 => (k_call1 (vs1 := []) (vs2 := [eI 10]) (v := (eL eI) r_7.2) (i := 0) (fr' := ([some (toD ((eL eI) r_9.2)), some (toD ((eP2 eI (eT (eP2 eI eI))) net_2)), some (toD ((eT eI) r_3.1)), some (toD (eI r_5.1)), some (toD (eI r_7.1)), none, none] : Fr)) (rf_law_draw r_7.2 10) h_10 rfl rfl rfl rfl rfl rfl rfl (by exact (k_Set (v := eI r_9.1) (fr' := ([some (toD ((eL eI) r_9.2)), some (toD ((eP2 eI (eT (eP2 eI eI))) net_2)), some (toD ((eT eI) r_3.1)), some (toD (eI r_5.1)), some (toD (eI r_7.1)), some (toD (eI r_9.1)), none] : Fr)) rfl (by exact (s_ifX (x_vb (vb_E (v_op2 ((v_var (i := 5) (by exact rfl))).l (v_cI).l f_ltA)) (by exact (k_If (by exact (s_seqE (s_ret (Rf.ck fun h_11 =>
  (by exact (x_v (v := (eT eI) (((cutT r_3.1 (some r_5.1) none) ++ (cutT r_3.1 none (some r_5.1))))) (by exact (v_op2 ((v_slT ((v_var (i := 2) (by exact rfl))).l (vo_some ((v_var (i := 3) (by exact rfl))).l) vo_none)).l ((v_slT ((v_var (i := 2) (by exact rfl))).l vo_none (vo_some ((v_var (i := 3) (by exact rfl))).l))).l (f_addT h_11))) (by exact (k_Ret (kd_ret1 (E := fun a => eY a.1) (i := 0) (f := fun a => (eL eI) a.2) (a := (((eT eI) (((cutT r_3.1 (some r_5.1) none) ++ (cutT r_3.1 none (some r_5.1))))), r_9.2)) rfl rfl))))))))) (by exact (s_nx (by exact (s_ifX (x_vb (vb_E (v_op2 ((v_var (i := 5) (by exact rfl))).l (v_cI).l (f_eq eqb_I))) (by exact (k_If (by exact (s_seqE (s_ret (x_v (v := (eT eI) (r_3.1.reverse)) (by exact (v_op1 ((v_var (i := 2) (by exact rfl))).l f_revT)) (by exact (k_Ret (kd_ret1 (E := fun a => eY a.1) (i := 0) (f := fun a => (eL eI) a.2) (a := (((eT eI) (r_3.1.reverse)), r_9.2)) rfl rfl))))))) (by exact (s_nx (by exact (s_ifX (x_vb (vb_E (v_op2 ((v_var (i := 5) (by exact rfl))).l (v_cI).l (f_eq eqb_I))) (by exact (k_If (by exact (s_seqE (s_ret (Rf.ck fun h_12 =>
  (by exact (x_v (v := (eT eI) (((cutT r_3.1 none (some r_5.1)) ++ (cutT r_3.1 (some (r_5.1 + 1)) none)))) (by exact (v_op2 ((v_slT ((v_var (i := 2) (by exact rfl))).l vo_none (vo_some ((v_var (i := 3) (by exact rfl))).l))).l ((v_slT ((v_var (i := 2) (by exact rfl))).l (vo_some ((v_op2 ((v_var (i := 3) (by exact rfl))).l (v_cI).l f_add)).l) vo_none)).l (f_addT h_12))) (by exact (k_Ret (kd_ret1 (E := fun a => eY a.1) (i := 0) (f := fun a => (eL eI) a.2) (a := (((eT eI) (((cutT r_3.1 none (some r_5.1)) ++ (cutT r_3.1 (some (r_5.1 + 1)) none)))), r_9.2)) rfl rfl))))))))) (by exact (s_nx (by exact (s_ifX (x_vb (vb_E (v_op2 ((v_var (i := 5) (by exact rfl))).l (v_cI).l (f_eq eqb_I))) (by exact (k_If (by exact (s_seqE (s_ret (Rf.ck fun h_13 =>
  (by exact (x_v (v := (eT eI) ((r_3.1 ++ (cutT r_3.1 (some r_5.1) none)))) (by exact (v_op2 ((v_var (i := 2) (by exact rfl))).l ((v_slT ((v_var (i := 2) (by exact rfl))).l (vo_some ((v_var (i := 3) (by exact rfl))).l) vo_none)).l (f_addT h_13))) (by exact (k_Ret (kd_ret1 (E := fun a => eY a.1) (i := 0) (f := fun a => (eL eI) a.2) (a := (((eT eI) ((r_3.1 ++ (cutT r_3.1 (some r_5.1) none)))), r_9.2)) rfl rfl))))))))) (by exact (s_nx (by exact (s_ifX (x_vb (vb_E (v_op2 ((v_var (i := 5) (by exact rfl))).l (v_cI).l (f_eq eqb_I))) (by exact (k_If (by exact (s_seqE (s_ret (x_op2 (x_op2r (v_eq (eT_dyn eI ((cutT r_3.1 none (some r_5.1)))) (v_slT ((v_var (i := 2) (by exact rfl))).l vo_none (vo_some ((v_var (i := 3) (by exact rfl))).l))) (x_tup (x_cons (by exact (x_op2r (v_eq (w := eL eY [(eI r_7.1), (eI (-1)), (eB true), (eU ()), (eS ((PySem.Str.ofString "0"))), ((eT eI) ([0]))]) rfl (v_lst (va_cons (v_var (i := 4) (by exact rfl)) (va_cons (v_op1 (v_cI).l f_neg) (va_cons v_cB (va_cons v_cN (va_cons v_cS (va_cons (v_eq (w := eT eI [0]) rfl (v_tup (va_cons v_cI va_nil) rfl)) va_nil)))))) rfl)) (x_call (x_cons (x_plv (i := 0) rfl rfl (k_A (by exact (x_cons (by exact (x_v (v := eI 6) (by exact v_cI) (by exact (k_A (by exact (x_nil (Rf.no fun r_14 h_15 => (k_call1 (vs1 := []) (vs2 := [eI 6]) (v := (eL eI) r_9.2) (i := 0) (fr' := ([some (toD ((eL eI) r_14.2)), some (toD ((eP2 eI (eT (eP2 eI eI))) net_2)), some (toD ((eT eI) r_3.1)), some (toD (eI r_5.1)), some (toD (eI r_7.1)), some (toD (eI r_9.1)), none] : Fr)) (rf_law_draw r_9.2 6) h_15 rfl rfl rfl rfl rfl rfl rfl (by exact (Rf.opt fun r_17 h_16 =>
  (by exact (k_op2b (look_toD _ _) (f_ixL (e := eY) h_16) (k_A (by exact (x_nil (k_tup (vs := [r_17]) rfl (k_cv (show DV.tup [r_17] = eT eY [r_17] from congrArg DV.tup (List.map_id' _).symm) (Rf.ck fun h_18 =>
  (by exact (k_op2b (look_toD _ _) (f_addT h_18) (Rf.ck fun h_19 =>
  (by exact (k_op2a ((v_eq (eT_dyn eI ((cutT r_3.1 (some (r_5.1 + 1)) none))) (v_slT ((v_var (i := 2) (by exact rfl))).l (vo_some ((v_op2 ((v_var (i := 3) (by exact rfl))).l (v_cI).l f_add)).l) vo_none))).l (f_addT h_19) (k_Ret (kd_ret1 (E := fun a => eY a.1) (i := 0) (f := fun a => (eL eI) a.2) (a := (((eT eY) ((((((cutT r_3.1 none (some r_5.1))).map eI) ++ [r_17]) ++ (((cutT r_3.1 (some (r_5.1 + 1)) none)).map eI)))), r_14.2)) rfl rfl)))))))))))))))))))))))))))))))))))))))) (by exact (s_nx (by exact (s_ifX (x_vb (vb_E (v_op2 ((v_var (i := 5) (by exact rfl))).l (v_cI).l (f_eq eqb_I))) (by exact (k_If (by exact (s_seqE (s_ret (Rf.opt fun r_23 h_22 =>
  (by exact (x_op2r (v_eq (w := eL eY [((eL eI) r_3.1), (eU ()), (eI r_7.1), (eS ((PySem.Str.ofString ""))), (eI r_23), ((eT eI) ([])), ((eT (eP2 eI eI)) ([(0, 1)])), (eB true)]) rfl (v_lst (va_cons (v_op1 ((v_var (i := 2) (by exact rfl))).l f_lstT) (va_cons v_cN (va_cons (v_var (i := 4) (by exact rfl)) (va_cons v_cS (va_cons (v_op2 ((v_var (i := 2) (by exact rfl))).l (v_cI).l (f_ixT (e := eI) h_22)) (va_cons (v_tup va_nil rfl) (va_cons (v_eq (w := eT (eP2 eI eI) [(0, 1)]) rfl (v_tup (va_cons (v_tup (va_cons v_cI (va_cons v_cI va_nil)) rfl) va_nil) rfl)) (va_cons v_cB va_nil)))))))) rfl)) (x_call (x_cons (x_plv (i := 0) rfl rfl (k_A (by exact (x_cons (by exact (x_v (v := eI 8) (by exact v_cI) (by exact (k_A (by exact (x_nil (Rf.no fun r_24 h_25 => (k_call1 (vs1 := []) (vs2 := [eI 8]) (v := (eL eI) r_9.2) (i := 0) (fr' := ([some (toD ((eL eI) r_24.2)), some (toD ((eP2 eI (eT (eP2 eI eI))) net_2)), some (toD ((eT eI) r_3.1)), some (toD (eI r_5.1)), some (toD (eI r_7.1)), some (toD (eI r_9.1)), none] : Fr)) (rf_law_draw r_9.2 8) h_25 rfl rfl rfl rfl rfl rfl rfl (by exact (Rf.opt fun r_27 h_26 =>
  (by exact (k_op2b (look_toD _ _) (f_ixL (e := eY) h_26) (k_Ret (kd_ret1 (E := fun a => eY a.1) (i := 0) (f := fun a => (eL eI) a.2) (a := (r_27, r_24.2)) rfl rfl)))))))))))))))))))))))))) (by exact (s_nx (by exact (s_ret (x_op1 (x_compH (x_rg1 (x_call (x_cons (x_plv (i := 0) rfl rfl (k_A (by exact (x_cons (by exact (x_v (v := eI 6) (by exact v_cI) (by exact (k_A (by exact (x_nil (Rf.no fun r_28 h_29 => (k_call1 (vs1 := []) (vs2 := [eI 6]) (v := (eL eI) r_9.2) (i := 0) (fr' := ([some (toD ((eL eI) r_28.2)), some (toD ((eP2 eI (eT (eP2 eI eI))) net_2)), some (toD ((eT eI) r_3.1)), some (toD (eI r_5.1)), some (toD (eI r_7.1)), some (toD (eI r_9.1)), none] : Fr)) (rf_law_draw r_9.2 6) h_29 rfl rfl rfl rfl rfl rfl rfl (by exact (Rf.ck fun h_30 =>
  (by exact (k_rg1 h_30 (Rf.ck fun h_31 =>
  (by exact (k_comp (E2 := eI) (G := (fun (s_37 : (List Int)) => ([some (toD ((eL eI) s_37)), some (toD ((eP2 eI (eT (eP2 eI eI))) net_2)), some (toD ((eT eI) r_3.1)), some (toD (eI r_5.1)), some (toD (eI r_7.1)), some (toD (eI r_9.1)), none] : Fr))) (s0 := r_28.2) h_31 rfl (fun _ _ => rfl) (fun k_32 s_33 => (by exact (t_yes (x_call (x_cons (x_plv (i := 0) rfl rfl (k_A (by exact (x_cons (by exact (x_v (v := eI net_2.1) (by exact (v_op2 ((v_var (i := 1) (by exact rfl))).l (v_cI).l (f_ixP (i := 0) (vs := [eI net_2.1, (eT (eP2 eI eI)) net_2.2]) (v := eI net_2.1) rfl))) (by exact (k_A (by exact (x_nil (Rf.no fun r_34 h_35 => (k_call1 (vs1 := []) (vs2 := [eI net_2.1]) (v := (eL eI) s_33) (i := 0) (fr' := ([some (toD ((eL eI) r_34.2)), some (toD ((eP2 eI (eT (eP2 eI eI))) net_2)), some (toD ((eT eI) r_3.1)), some (toD (eI r_5.1)), some (toD (eI r_7.1)), some (toD (eI r_9.1)), some (toD (eI k_32))] : Fr)) (rf_law_draw s_33 net_2.1) h_35 rfl rfl rfl rfl rfl rfl rfl (by exact (k_turn (E2 := eI) (y := r_34.1) ⟨rfl, rfl⟩))))))))))))))))))) (fun _ => rfl) (fun l_36 => (by exact (k_op1 f_tupL (k_Ret (kd_ret1 (E := fun a => eY a.1) (i := 0) (f := fun a => (eL eI) a.2) (a := (((eT eI) l_36.1), l_36.2)) rfl rfl)))))))))))))))))))))))))))))))))))))))))))))))))))))))))))))))))))))))))))))))))))))))))))))))))))))))))))))))))))))))))))))))))))))))))))))))))
theorem rf_is_ring (net_1 : O_Net) (value_2 : DV) : Rf (fn_is_ring (toDs [e_Net net_1, eY value_2])) (T_is_ring net_1 value_2) (KF eB 2 os0) (KX 2 os0) := by
  unfold fn_is_ring T_is_ring
  refine fn_rf0 (fr0 := ([some (toD (e_Net net_1)), some (toD (eY value_2)), none, none, none] : Fr)) rfl ?_
  unfold g_is_ring
  exact (by exact (s_ifX (x_join (F := (fun (s_83 : Unit) => ([some (toD (e_Net net_1)), some (toD (eY value_2)), none, none, none] : Fr))) (Rf.opt fun r_8 h_7 =>
  (by exact (x_or (vb_not (vb_E (v_op1 ((v_var (i := 1) (by exact rfl))).l (f_isiO h_7)))) rfl (fun _ => (Rf.opt fun r_10 h_9 =>
  (by exact (x_or (vb_E (v_op2 ((v_op1 ((v_var (i := 1) (by exact rfl))).l (f_lenY h_9))).l (v_cI).l (f_eq eqb_I))) rfl (fun _ => (x_tail (x_not (x_bE (x_op1 (x_compH (Rf.opt fun r_32 h_31 =>
  (by exact (x_vi (by exact (vi_Y h_31 (v_var (i := 1) (by exact rfl)))) (by exact (Rf.ck fun h_33 =>
  (by exact (k_comp (E2 := eB) (G := (fun (s_39 : Unit) => ([some (toD (e_Net net_1)), some (toD (eY value_2)), none, none, none] : Fr))) (s0 := ()) h_33 rfl (fun _ _ => rfl) (fun place_34 s_35 => (by exact (t_yes (Rf.no fun r_37 h_36 =>
  (by exact (x_v (v := eB r_37) (by exact (v_call (a := r_37) (E := eB) (rf_is_below place_34 net_1.1) h_36 rfl rfl (va_cons (v_var (i := 3) (by exact rfl)) (va_cons (v_attr (c := 0) (ns := [0, 1, 2]) (fs := [eI net_1.1, (eT (eP2 eI eI)) net_1.2.1, (eT (eT eI)) net_1.2.2]) (z := eI net_1.1) ((v_var (i := 0) (by exact rfl))).l rfl rfl) va_nil)))) (by exact (k_turn (E2 := eB) (y := r_37) ⟨rfl, rfl⟩)))))))) (fun _ => rfl) (fun l_38 => (by exact (k_op1 f_all (k_E (kb_ok rfl))))))))))))))))))))))))) (fun p_40 => (k_If (by exact (s_seqE (s_ret (x_v (v := eB false) (by exact v_cB) (by exact (k_Ret (kd_ret rfl))))))) (by exact (s_nx (by exact (s_ifX (Rf.opt fun r_42 h_41 =>
  (by exact (Rf.ck fun h_43 =>
  (by exact (Rf.opt fun r_45 h_44 =>
  (by exact (x_vb (vb_E (v_op2 ((v_op1 ((v_dec (asT_of asI_of) h_41 (v_var (i := 1) (by exact rfl)))).l (f_lsetT h_43))).l ((v_op1 ((v_var (i := 1) (by exact rfl))).l (f_lenY h_44))).l f_ltA)) (by exact (k_If (by exact (s_seqE (s_ret (x_v (v := eB false) (by exact v_cB) (by exact (k_Ret (kd_ret rfl))))))) (by exact (s_nx (by exact (s_set (Rf.opt fun r_47 h_46 =>
  (by exact (Rf.opt fun r_49 h_48 =>
  (by exact (Rf.ck fun h_50 =>
  (by exact (x_v (v := (eT eY) (((cutT r_47 (some 1) none) ++ (cutT r_49 none (some 1))))) (by exact (v_op2 ((v_slT ((v_dec (asT_of asY_of) h_46 (v_var (i := 1) (by exact rfl)))).l (vo_some (v_cI).l) vo_none)).l ((v_slT ((v_dec (asT_of asY_of) h_48 (v_var (i := 1) (by exact rfl)))).l vo_none (vo_some (v_cI).l))).l (f_addT h_50))) (by exact (k_SetN (E := (eT eY)) (fr' := fun after_51 => ([some (toD (e_Net net_1)), some (toD (eY value_2)), some (toD ((eT eY) after_51)), none, none] : Fr)) (fun _ => rfl) (fun after_51 => (by exact (s_ret (x_op1 (x_compH (Rf.opt fun r_71 h_70 =>
  (by exact (x_vi (by exact (vi_zipTT (v_dec (asT_of asY_of) h_70 (v_var (i := 1) (by exact rfl))) (v_var (i := 2) (by exact rfl)))) (by exact (Rf.ck fun h_72 =>
  (by exact (k_comp (E2 := eB) (G := (fun (s_82 : Unit) => ([some (toD (e_Net net_1)), some (toD (eY value_2)), some (toD ((eT eY) after_51)), none, none] : Fr))) (s0 := ()) h_72 rfl (fun _ _ => rfl) (fun p_73 s_74 => (by exact (t_yes (Rf.opt fun r_76 h_75 =>
  (by exact (Rf.opt fun r_78 h_77 =>
  (by exact (Rf.opt fun r_80 h_79 =>
  (by exact (x_v (v := eB ((memT r_80 r_78))) (by exact (v_op2 ((v_dec asI_of h_79 (v_var (i := 4) (by exact rfl)))).l ((v_op2 ((v_attr (c := 0) (ns := [0, 1, 2]) (fs := [eI net_1.1, (eT (eP2 eI eI)) net_1.2.1, (eT (eT eI)) net_1.2.2]) (z := (eT (eT eI)) net_1.2.2) ((v_var (i := 0) (by exact rfl))).l rfl rfl)).l ((v_dec asI_of h_75 (v_var (i := 3) (by exact rfl)))).l (f_ixT (e := (eT eI)) h_77))).l (f_inT dat_I (by decide)))) (by exact (k_turn (E2 := eB) (y := (memT r_80 r_78)) ⟨rfl, rfl⟩)))))))))))) (fun _ => rfl) (fun l_81 => (by exact (k_op1 f_all (k_Ret (kd_ret rfl))))))))))))))))))))))))))))))))))))))))))))))))
theorem rf_law_ringless (arcs_here_1 : List (Int × Int)) (lot_2 : List Int) : Rf (fn_law_ringless (toDs [(eT (eP2 eI eI)) arcs_here_1, (eT eI) lot_2])) (T_law_ringless arcs_here_1 lot_2) (KF eB 2 os0) (KX 2 os0) := by
  unfold fn_law_ringless T_law_ringless
  refine fn_rf0 (fr0 := ([some (toD ((eT (eP2 eI eI)) arcs_here_1)), some (toD ((eT eI) lot_2)), none, none, none, none, none] : Fr)) rfl ?_
  unfold g_law_ringless
  exact (by exact (s_set (x_v (v := (eL eI) lot_2) (by exact (v_op1 ((v_var (i := 1) (by exact rfl))).l f_lstT)) (by exact (k_Set (v := (eL eI) lot_2) (fr' := ([some (toD ((eT (eP2 eI eI)) arcs_here_1)), some (toD ((eT eI) lot_2)), some (toD ((eL eI) lot_2)), none, none, none, none] : Fr)) rfl (by exact (s_forH (Rf.ck fun h_3 =>
  (by exact (x_vi (by exact (vi_rg1 ((v_op1 ((v_var (i := 1) (by exact rfl))).l f_lenT)).l h_3)) (by exact (k_for (js := [false, false, false, true, true, false, false]) (F := (fun (s_5 : (List Int)) => ([some (toD ((eT (eP2 eI eI)) arcs_here_1)), some (toD ((eT eI) lot_2)), some (toD ((eL eI) s_5)), none, none, none, none] : Fr))) (s0 := lot_2) rfl (fun _ _ => rfl) (fun k_4 s_6 => (by exact (s_set (Rf.ck fun h_10 =>
  (by exact (Rf.ck fun h_11 =>
  (by exact (x_v (v := (eL eI) (((s_6.filter fun i_8 => (decide (((((arcs_here_1.filter fun arc_9 => ((decide (arc_9.1 = i_8)) && (memT arc_9.2 s_6))).map fun arc_9 => arc_9)).length : Int) = 0))).map fun i_8 => i_8))) (by exact (v_comp (E := eI) (E2 := eI) (vi_L (v_var (i := 2) (by exact rfl))) h_11 (fun _ => rfl) (tgIn_N rfl) (fun i_8 => (by exact (vb_E (v_op2 ((v_op1 ((v_comp (E := (eP2 eI eI)) (E2 := (eP2 eI eI)) (vi_T (v_var (i := 0) (by exact rfl))) h_10 (fun _ => rfl) (tgIn_N rfl) (fun arc_9 => (by exact (vb_and (vb_E (v_op2 ((v_op2 ((v_var (i := 6) (by exact rfl))).l (v_cI).l (f_ixP (i := 0) (vs := [eI arc_9.1, eI arc_9.2]) (v := eI arc_9.1) rfl))).l ((v_var (i := 5) (by exact rfl))).l (f_eq eqb_I))) (vb_E (v_op2 ((v_op2 ((v_var (i := 6) (by exact rfl))).l (v_cI).l (f_ixP (i := 1) (vs := [eI arc_9.1, eI arc_9.2]) (v := eI arc_9.2) rfl))).l ((v_var (i := 2) (by exact rfl))).l (f_in dat_I (by decide))))))) (fun arc_9 _ => (by exact (v_var (i := 6) (by exact rfl)))))).l f_lenL)).l (v_cI).l (f_eq eqb_I))))) (fun i_8 _ => (by exact (v_var (i := 5) (by exact rfl)))))) (by exact (k_SetN (E := (eL eI)) (fr' := fun ends_12 => ([some (toD ((eT (eP2 eI eI)) arcs_here_1)), some (toD ((eT eI) lot_2)), some (toD ((eL eI) s_6)), some (toD (eI k_4)), some (toD ((eL eI) ends_12)), none, none] : Fr)) (fun _ => rfl) (fun ends_12 => (by exact (s_set (Rf.ck fun h_14 =>
  (by exact (x_v (v := (eL eI) (((s_6.filter fun i_13 => (!memT i_13 ends_12)).map fun i_13 => i_13))) (by exact (v_comp (E := eI) (E2 := eI) (vi_L (v_var (i := 2) (by exact rfl))) h_14 (fun _ => rfl) (tgIn_N rfl) (fun i_13 => (by exact (vb_E (v_op2 ((v_var (i := 5) (by exact rfl))).l ((v_var (i := 4) (by exact rfl))).l (f_nin dat_I (by decide)))))) (fun i_13 _ => (by exact (v_var (i := 5) (by exact rfl)))))) (by exact (k_SetN (E := (eL eI)) (fr' := fun left_15 => ([some (toD ((eT (eP2 eI eI)) arcs_here_1)), some (toD ((eT eI) lot_2)), some (toD ((eL eI) left_15)), some (toD (eI k_4)), some (toD ((eL eI) ends_12)), none, none] : Fr)) (fun _ => rfl) (fun left_15 => (by exact (s_end ⟨.inl rfl, rfl⟩))))))))))))))))))))) (fun s_7 => (by exact (s_ret (x_v (v := eB ((decide (((s_7).length : Int) = 0)))) (by exact (v_op2 ((v_op1 ((v_var (i := 2) (by exact rfl))).l f_lenL)).l (v_cI).l (f_eq eqb_I))) (by exact (k_Ret (kd_ret rfl)))))))))))))))))))
theorem rf_is_lot (value_1 : DV) (size_2 : Int) : Rf (fn_is_lot (toDs [eY value_1, eI size_2])) (T_is_lot value_1 size_2) (KF eB 2 os0) (KX 2 os0) := by
  unfold fn_is_lot T_is_lot
  refine fn_rf0 (fr0 := ([some (toD (eY value_1)), some (toD (eI size_2)), none, none, none] : Fr)) rfl ?_
  unfold g_is_lot
  exact (by exact (s_ifX (x_join (F := (fun (s_73 : Unit) => ([some (toD (eY value_1)), some (toD (eI size_2)), none, none, none] : Fr))) (Rf.opt fun r_11 h_10 =>
  (by exact (x_or (vb_not (vb_E (v_op1 ((v_var (i := 0) (by exact rfl))).l (f_isi h_10)))) rfl (fun _ => (x_tail (x_not (x_bE (x_op1 (x_compH (Rf.opt fun r_33 h_32 =>
  (by exact (x_vi (by exact (vi_Y h_32 (v_var (i := 0) (by exact rfl)))) (by exact (Rf.ck fun h_34 =>
  (by exact (k_comp (E2 := eB) (G := (fun (s_40 : Unit) => ([some (toD (eY value_1)), some (toD (eI size_2)), none, none, none] : Fr))) (s0 := ()) h_34 rfl (fun _ _ => rfl) (fun place_35 s_36 => (by exact (t_yes (Rf.no fun r_38 h_37 =>
  (by exact (x_v (v := eB r_38) (by exact (v_call (a := r_38) (E := eB) (rf_is_below place_35 size_2) h_37 rfl rfl (va_cons (v_var (i := 2) (by exact rfl)) (va_cons (v_var (i := 1) (by exact rfl)) va_nil)))) (by exact (k_turn (E2 := eB) (y := r_38) ⟨rfl, rfl⟩)))))))) (fun _ => rfl) (fun l_39 => (by exact (k_op1 f_all (k_E (kb_ok rfl))))))))))))))))))))) (fun p_41 => (k_If (by exact (s_seqE (s_ret (x_v (v := eB false) (by exact v_cB) (by exact (k_Ret (kd_ret rfl))))))) (by exact (s_nx (by exact (s_ret (x_op1 (x_compH (Rf.opt fun r_61 h_60 =>
  (by exact (Rf.opt fun r_63 h_62 =>
  (by exact (x_vi (by exact (vi_zipTT (v_dec (asT_of asY_of) h_62 (v_var (i := 0) (by exact rfl))) (v_slT ((v_dec (asT_of asY_of) h_60 (v_var (i := 0) (by exact rfl)))).l (vo_some (v_cI).l) vo_none))) (by exact (Rf.ck fun h_64 =>
  (by exact (k_comp (E2 := eB) (G := (fun (s_72 : Unit) => ([some (toD (eY value_1)), some (toD (eI size_2)), none, none, none] : Fr))) (s0 := ()) h_64 rfl (fun _ _ => rfl) (fun p_65 s_66 => (by exact (t_yes (Rf.opt fun r_68 h_67 =>
  (by exact (Rf.opt fun r_70 h_69 =>
  (by exact (x_v (v := eB ((decide (r_68 < r_70)))) (by exact (v_op2 ((v_dec asI_of h_67 (v_var (i := 3) (by exact rfl)))).l ((v_dec asI_of h_69 (v_var (i := 4) (by exact rfl)))).l f_ltA)) (by exact (k_turn (E2 := eB) (y := (decide (r_68 < r_70))) ⟨rfl, rfl⟩)))))))))) (fun _ => rfl) (fun l_71 => (by exact (k_op1 f_all (k_Ret (kd_ret rfl)))))))))))))))))))))))))
theorem rf_can_order (net_1 : O_Net) (lot_2 : DV) : Rf (fn_can_order (toDs [e_Net net_1, eY lot_2])) (T_can_order net_1 lot_2) (KF eB 2 os0) (KX 2 os0) := by
  unfold fn_can_order T_can_order
  refine fn_rf0 (fr0 := ([some (toD (e_Net net_1)), some (toD (eY lot_2))] : Fr)) rfl ?_
  unfold g_can_order
  exact (by exact (s_ifX (Rf.no fun r_4 h_3 =>
  (by exact (x_vb (vb_not (vb_E (v_call (a := r_4) (E := eB) (rf_is_lot lot_2 net_1.1) h_3 rfl rfl (va_cons (v_var (i := 1) (by exact rfl)) (va_cons (v_attr (c := 0) (ns := [0, 1, 2]) (fs := [eI net_1.1, (eT (eP2 eI eI)) net_1.2.1, (eT (eT eI)) net_1.2.2]) (z := eI net_1.1) ((v_var (i := 0) (by exact rfl))).l rfl rfl) va_nil))))) (by exact (k_If (by exact (s_seqE (s_raise (va_cons (v_var (i := 1) (by exact rfl)) va_nil) rfl (kde0 (st := []))))) (by exact (s_nx (by exact (s_ret (Rf.opt fun r_6 h_5 =>
  (by exact (Rf.no fun r_8 h_7 =>
  (by exact (x_v (v := eB ((decide (((r_8).length : Int) = 0)))) (by exact (v_op2 ((v_op1 ((v_call (a := r_8) (E := (eL eI)) (rf_stripped net_1 r_6) h_7 rfl rfl (va_cons (v_var (i := 0) (by exact rfl)) (va_cons (v_dec (asTL_of asI_of) h_5 (v_var (i := 1) (by exact rfl))) va_nil)))).l f_lenL)).l (v_cI).l (f_eq eqb_I))) (by exact (k_Ret (kd_ret rfl)))))))))))))))))))
theorem rf_law_kinds (c : Nat) (fs : List DV) : RfX (X_law_kinds c (toDs fs)) (T_law_kinds c fs) (eL eB) := by
  unfold X_law_kinds T_law_kinds
  refine fnx_rf (KE := KDE os0) (fr0 := ([some (.tup [.var 0]), none] : Fr)) rfl ?_
  unfold g_law_kinds
  exact (by exact (s_setF (x_v (v := (eL eB) ([(tI_InvalidNumber c), (tI_InvalidMatrix c), (tI_InvalidAudience c)])) (by exact (v_eq (w := eL eB [(tI_InvalidNumber c), (tI_InvalidMatrix c), (tI_InvalidAudience c)]) rfl (v_lst (va_cons (v_isE (i := 0) rfl) (va_cons (v_isE (i := 0) rfl) (va_cons (v_isE (i := 0) rfl) va_nil))) rfl))) (by exact (k_SetFN (E := (eL eB)) (fr' := fun kinds_here_1 => ([some (.tup [.var 0]), some (toD ((eL eB) kinds_here_1))] : Fr)) (fun _ => rfl) (fun kinds_here_1 => (by exact (s_setF (Rf.ck fun h_2 =>
  (by exact (x_v (v := (eL eB) ((kinds_here_1 ++ [(tI_InvalidNet c), (tI_InvalidLot c), (tI_InvalidWord c)]))) (by exact (v_op2 (l_pl (i := 1) (by exact rfl) (by exact rfl)) ((v_eq (w := eL eB [(tI_InvalidNet c), (tI_InvalidLot c), (tI_InvalidWord c)]) rfl (v_lst (va_cons (v_isE (i := 0) rfl) (va_cons (v_isE (i := 0) rfl) (va_cons (v_isE (i := 0) rfl) va_nil))) rfl))).l (f_catL h_2))) (by exact (k_SetFN (E := (eL eB)) (fr' := fun kinds_here_3 => ([some (.tup [.var 0]), some (toD ((eL eB) kinds_here_3))] : Fr)) (fun _ => rfl) (fun kinds_here_3 => (by exact (s_setF (Rf.ck fun h_4 =>
  (by exact (x_v (v := (eL eB) ((kinds_here_3 ++ [(tI_InvalidWords c), (tI_InvalidSignals c), (tI_InvalidLosses c)]))) (by exact (v_op2 (l_pl (i := 1) (by exact rfl) (by exact rfl)) ((v_eq (w := eL eB [(tI_InvalidWords c), (tI_InvalidSignals c), (tI_InvalidLosses c)]) rfl (v_lst (va_cons (v_isE (i := 0) rfl) (va_cons (v_isE (i := 0) rfl) (va_cons (v_isE (i := 0) rfl) va_nil))) rfl))).l (f_catL h_4))) (by exact (k_SetFN (E := (eL eB)) (fr' := fun kinds_here_5 => ([some (.tup [.var 0]), some (toD ((eL eB) kinds_here_5))] : Fr)) (fun _ => rfl) (fun kinds_here_5 => (by exact (s_setF (Rf.ck fun h_6 =>
  (by exact (x_v (v := (eL eB) ((kinds_here_5 ++ [(tI_InvalidText c), (tI_InvalidLine c), (tI_UnknownWord c)]))) (by exact (v_op2 (l_pl (i := 1) (by exact rfl) (by exact rfl)) ((v_eq (w := eL eB [(tI_InvalidText c), (tI_InvalidLine c), (tI_UnknownWord c)]) rfl (v_lst (va_cons (v_isE (i := 0) rfl) (va_cons (v_isE (i := 0) rfl) (va_cons (v_isE (i := 0) rfl) va_nil))) rfl))).l (f_catL h_6))) (by exact (k_SetFN (E := (eL eB)) (fr' := fun kinds_here_7 => ([some (.tup [.var 0]), some (toD ((eL eB) kinds_here_7))] : Fr)) (fun _ => rfl) (fun kinds_here_7 => (by exact (s_setF (Rf.ck fun h_8 =>
  (by exact (x_v (v := (eL eB) ((kinds_here_7 ++ [(tI_TooMany c), (tI_Undefined c), (tI_NothingToUndo c)]))) (by exact (v_op2 (l_pl (i := 1) (by exact rfl) (by exact rfl)) ((v_eq (w := eL eB [(tI_TooMany c), (tI_Undefined c), (tI_NothingToUndo c)]) rfl (v_lst (va_cons (v_isE (i := 0) rfl) (va_cons (v_isE (i := 0) rfl) (va_cons (v_isE (i := 0) rfl) va_nil))) rfl))).l (f_catL h_8))) (by exact (k_SetFN (E := (eL eB)) (fr' := fun kinds_here_9 => ([some (.tup [.var 0]), some (toD ((eL eB) kinds_here_9))] : Fr)) (fun _ => rfl) (fun kinds_here_9 => (by exact (s_x (x_mut (i := 1) rfl rfl (x_cons (by exact (x_v (v := eB ((tI_InvalidDeed c))) (by exact (v_isE (i := 0) rfl)) (by exact (k_A (by exact (x_nil (Rf.ck fun h_10 =>
  (by exact (k_mut (i := 1) (vs := [eB ((tI_InvalidDeed c))]) (fr' := ([some (.tup [.var 0]), some (toD ((eL eB) ((kinds_here_9 ++ [(tI_InvalidDeed c)]))))] : Fr)) rfl rfl (m_app (E := eB) (a := (tI_InvalidDeed c)) h_10) rfl (by exact (k_X (by exact (s_ret (x_fz (i := 1) (fr' := ([some (.tup [.var 0]), some (.tup [toD ((eL eB) ((kinds_here_9 ++ [(tI_InvalidDeed c)])))])] : Fr)) rfl rfl rfl (by exact (k_Ret (kd_ret rfl)))))))))))))))))))))))))))))))))))))))))))))))))))))))))))
theorem rf_law_alone (c : Nat) (fs : List DV) (kind_1 : Int) : RfXA (X_law_alone c (toDs fs)) [eI kind_1] (T_law_alone c fs kind_1) eB := by
  unfold X_law_alone T_law_alone
  refine fnxa_rf (KE := KDE os0) (fr0 := ([some (.tup [.var 0]), some (toD (eI kind_1)), none] : Fr)) rfl ?_
  unfold g_law_alone
  exact (by exact (s_set (Rf.no fun r_3 h_2 =>
  (by exact (x_v (v := (eL eB) r_3) (by exact (v_callX (a := r_3) (E := (eL eB)) (rf_law_kinds c fs) h_2 rfl)) (by exact (k_Set (v := (eL eB) r_3) (fr' := ([some (.tup [.var 0]), some (toD (eI kind_1)), some (toD ((eL eB) r_3))] : Fr)) rfl (by exact (s_ret (x_joinV (E := eB) (F := fun _ => [some (.tup [.var 0]), some (toD (eI kind_1)), some (toD ((eL eB) r_3))]) (x_andV (v_isE (i := 0) rfl) (fun _ => (x_andV (v_isE (i := 0) rfl) (fun _ => (Rf.opt fun r_8 h_7 =>
  (by exact (x_andV (v_op2 ((v_var (i := 2) (by exact rfl))).l ((v_var (i := 1) (by exact rfl))).l (f_ixL (e := eB) h_7)) (fun _ => (x_tail (x_v (v := eB ((decide ((((r_3).count true : Nat) : Int) = 1)))) (by exact (v_op2 ((v_lm ((v_var (i := 2) (by exact rfl))).l rfl (v_cB).l f_cntB)).l (v_cI).l (f_eq eqb_I))) (by exact (kv_ok rfl rfl)))))))))))) (fun b_6 => (k_Ret (kd_ret rfl)))))))))))))
theorem rf_law_sameN : ∀ (n : Nat) (told_1 : DV) (due_2 : DV), Rf (fn_law_sameN n (toDs [eY told_1, eY due_2])) (T_law_sameN n told_1 due_2) (KF eB 2 os0) (KX 2 os0)
  | 0, _, _ => ⟨trivial⟩
  | n + 1, told_1, due_2 => by
    have ih := rf_law_sameN n
    unfold fn_law_sameN T_law_sameN
    refine fn_rf0 (fr0 := ([some (toD (eY told_1)), some (toD (eY due_2)), none] : Fr)) rfl ?_
    unfold g_law_same
    exact (by exact (s_ifX (Rf.opt fun r_4 h_3 =>
  (by exact (x_vb (vb_E (v_op1 ((v_var (i := 1) (by exact rfl))).l (f_isiT h_3))) (by exact (k_If (by exact (s_seqE (s_ifX (x_join (F := (fun (s_35 : Unit) => ([some (toD (eY told_1)), some (toD (eY due_2)), none] : Fr))) (Rf.opt fun r_12 h_11 =>
  (by exact (x_or (vb_not (vb_E (v_op1 ((v_var (i := 0) (by exact rfl))).l (f_isiT h_11)))) rfl (fun _ => (x_tail (Rf.opt fun r_14 h_13 =>
  (by exact (Rf.opt fun r_16 h_15 =>
  (by exact (x_vb (vb_E (v_op2 ((v_op1 ((v_var (i := 0) (by exact rfl))).l (f_isi h_13))).l ((v_op1 ((v_var (i := 1) (by exact rfl))).l (f_isi h_15))).l (f_ne eqb_B))) (by exact (kb_ok rfl)))))))))))) (fun p_17 => (k_If (by exact (s_seqE (s_ret (x_v (v := eB false) (by exact v_cB) (by exact (k_Ret (kd_ret rfl))))))) (by exact (s_nx (by exact (s_seqE (s_ifX (Rf.opt fun r_19 h_18 =>
  (by exact (Rf.opt fun r_21 h_20 =>
  (by exact (x_vb (vb_E (v_op2 ((v_op1 ((v_var (i := 0) (by exact rfl))).l (f_lenY h_18))).l ((v_op1 ((v_var (i := 1) (by exact rfl))).l (f_lenY h_20))).l (f_ne eqb_I))) (by exact (k_If (by exact (s_seqE (s_ret (x_v (v := eB false) (by exact v_cB) (by exact (k_Ret (kd_ret rfl))))))) (by exact (s_nx (by exact (s_seqE (s_forH (Rf.opt fun r_23 h_22 =>
  (by exact (Rf.ck fun h_24 =>
  (by exact (x_vi (by exact (vi_rg1 ((v_op1 ((v_var (i := 1) (by exact rfl))).l (f_lenY h_22))).l h_24)) (by exact (k_loop (KR := (KD eB os0)) (js := [false, false, true]) (F := (fun (s_26 : Unit) => ([some (toD (eY told_1)), some (toD (eY due_2)), none] : Fr))) (s0 := ()) rfl (fun _ _ => rfl) (fun k_25 s_27 => (by exact (s_ifX (Rf.opt fun r_30 h_29 =>
  (by exact (Rf.opt fun r_32 h_31 =>
  (by exact (Rf.no fun r_34 h_33 =>
  (by exact (x_vb (vb_not (vb_E (v_call (a := r_34) (E := eB) (ih r_30 r_32) h_33 rfl rfl (va_cons (v_op2 ((v_var (i := 0) (by exact rfl))).l ((v_var (i := 2) (by exact rfl))).l (f_ixY h_29)) (va_cons (v_op2 ((v_var (i := 1) (by exact rfl))).l ((v_var (i := 2) (by exact rfl))).l (f_ixY h_31)) va_nil))))) (by exact (k_If (by exact (s_seqE (s_ret (x_v (v := eB false) (by exact v_cB) (by exact (k_Ret ⟨⟨_, rfl⟩, kd_ret rfl⟩)))))) (by exact (s_nx (by exact (s_end ⟨.inl rfl, rfl⟩)))))))))))))))) (fun s_28 => (by exact (s_seqE (s_ret (x_v (v := eB true) (by exact v_cB) (by exact (k_Ret (kd_ret rfl)))))))) (fun x d fr h => ⟨_, _, rfl, h⟩))))))))))))))))))))))))))))))) (by exact (s_nx (by exact (s_ifX (x_vb (vb_E (v_op2 ((v_var (i := 1) (by exact rfl))).l (v_cN).l f_isN)) (by exact (k_If (by exact (s_seqE (s_ret (x_v (v := eB ((isNon (toD told_1)))) (by exact (v_op2 ((v_var (i := 0) (by exact rfl))).l (v_cN).l f_isN)) (by exact (k_Ret (kd_ret rfl))))))) (by exact (s_nx (by exact (s_ifX (Rf.opt fun r_37 h_36 =>
  (by exact (x_vb (vb_E (v_op1 ((v_var (i := 1) (by exact rfl))).l (f_isi h_36))) (by exact (k_If (by exact (s_seqE (s_ret (x_joinV (E := eB) (F := fun _ => [some (toD (eY told_1)), some (toD (eY due_2)), none]) (Rf.opt fun r_44 h_43 =>
  (by exact (x_andV (v_op1 ((v_var (i := 0) (by exact rfl))).l (f_isi h_43)) (fun _ => (x_tail (Rf.opt fun r_46 h_45 =>
  (by exact (x_v (v := eB r_46) (by exact (v_op2 ((v_var (i := 0) (by exact rfl))).l ((v_var (i := 1) (by exact rfl))).l (f_eqY h_45))) (by exact (kv_ok rfl rfl)))))))))) (fun b_42 => (k_Ret (kd_ret rfl))))))) (by exact (s_nx (by exact (s_ifX (Rf.opt fun r_48 h_47 =>
  (by exact (x_vb (vb_E (v_op1 ((v_var (i := 1) (by exact rfl))).l (f_isi h_47))) (by exact (k_If (by exact (s_seqE (s_ret (x_joinV (E := eB) (F := fun _ => [some (toD (eY told_1)), some (toD (eY due_2)), none]) (Rf.opt fun r_55 h_54 =>
  (by exact (x_andV (v_op1 ((v_var (i := 0) (by exact rfl))).l (f_isi h_54)) (fun _ => (x_tail (Rf.opt fun r_57 h_56 =>
  (by exact (x_v (v := eB r_57) (by exact (v_op2 ((v_var (i := 0) (by exact rfl))).l ((v_var (i := 1) (by exact rfl))).l (f_eqY h_56))) (by exact (kv_ok rfl rfl)))))))))) (fun b_53 => (k_Ret (kd_ret rfl))))))) (by exact (s_nx (by exact (s_ret (x_joinV (E := eB) (F := fun _ => [some (toD (eY told_1)), some (toD (eY due_2)), none]) (Rf.opt fun r_64 h_63 =>
  (by exact (x_andV (v_op1 ((v_var (i := 0) (by exact rfl))).l (f_isi h_63)) (fun _ => (Rf.opt fun r_66 h_65 =>
  (by exact (x_andV (v_not (v_op1 ((v_var (i := 0) (by exact rfl))).l (f_isi h_65))) (fun _ => (x_tail (Rf.opt fun r_68 h_67 =>
  (by exact (x_v (v := eB r_68) (by exact (v_op2 ((v_var (i := 0) (by exact rfl))).l ((v_var (i := 1) (by exact rfl))).l (f_eqY h_67))) (by exact (kv_ok rfl rfl)))))))))))))) (fun b_62 => (k_Ret (kd_ret rfl))))))))))))))))))))))))))))))))))))))))
theorem rf_law_same (told_1 : DV) (due_2 : DV) : Rf (fn_law_same (toDs [eY told_1, eY due_2])) (T_law_same told_1 due_2) (KF eB 2 os0) (KX 2 os0) := rf_law_sameN 6 told_1 due_2
theorem rf_law_refused (helper_1 : O_Net) (bad_2 : DV) : Rf (fn_law_refused (toDs [e_Net helper_1, eY bad_2])) (T_law_refused helper_1 bad_2) (KF eB 2 os0) (KX 2 os0) := by
  unfold fn_law_refused T_law_refused
  refine fn_rf0 (fr0 := ([some (toD (e_Net helper_1)), some (toD (eY bad_2)), none] : Fr)) rfl ?_
  unfold g_law_refused
  exact (by exact (s_tryJ (js := [false, false, false]) (F := (fun (s_3 : Unit) => ([some (toD (e_Net helper_1)), some (toD (eY bad_2)), none] : Fr))) (KR := (KD eB os0)) (by exact (s_x (x_call (x_cons (by exact (x_v (v := e_Net helper_1) (by exact (v_var (i := 0) (by exact rfl))) (by exact (k_A (by exact (x_cons (by exact (x_v (v := bad_2) (by exact (v_var (i := 1) (by exact rfl))) (by exact (k_A (by exact (x_nil (k_call (vs := [e_Net helper_1, bad_2]) (rf_can_order helper_1 bad_2) rfl rfl (fun _ _ _ _ => rfl) (fun r_5 => (k_X (by exact (s_end ⟨rfl, rfl⟩))))))))))))))))))))) (fun c fs st hx => (hd_ck (fun hc => (hd_cons (fun ht => (su_in (K1 := fun w fl s => KTr [false, false, false] (fun (s_3 : Unit) => ([some (toD (e_Net helper_1)), some (toD (eY bad_2)), none] : Fr)) (KD eB os0) w fl (outN s (some 2))) (KE1 := KDE os0) (fr1 := ([some (toD (e_Net helper_1)), some (toD (eY bad_2)), some (.tup [.var 2])] : Fr)) rfl (by exact (s_ret (x_joinV (E := eB) (F := fun _ => [some (toD (e_Net helper_1)), some (toD (eY bad_2)), some (.tup [.var 2])]) (Rf.no fun r_15 h_14 =>
  (by exact (x_andV (v_callXA (a := r_15) (E := eB) (rf_law_alone c fs 4) h_14 rfl (va_cons v_cI va_nil) rfl) (fun _ => (x_tail (Rf.opt fun r_17 h_16 =>
  (by exact (Rf.no fun r_19 h_18 =>
  (by exact (x_v (v := eB r_19) (by exact (v_call (a := r_19) (E := eB) (rf_law_same r_17 bad_2) h_18 rfl rfl (va_cons (v_xf (i := 2) rfl h_16) (va_cons (v_var (i := 1) (by exact rfl)) va_nil)))) (by exact (kv_ok rfl rfl)))))))))))) (fun b_13 => (k_Ret ⟨⟨_, rfl⟩, kd_ret rfl⟩))))) (fun _ _ _ k => k))) (hd_nil kde0))))) (fun s_4 => (by exact (s_ret (x_v (v := eB false) (by exact v_cB) (by exact (k_Ret (kd_ret rfl))))))) (fun x d fr h => ⟨_, _, rfl, h⟩)))
theorem rf_law_is_ring (net_1 : (Int × (List (Int × Int)))) (value_here_2 : DV) : Rf (fn_law_is_ring (toDs [(eP2 eI (eT (eP2 eI eI))) net_1, eY value_here_2])) (T_law_is_ring net_1 value_here_2) (KF eB 2 os0) (KX 2 os0) := by
  unfold fn_law_is_ring T_law_is_ring
  refine fn_rf0 (fr0 := ([some (toD ((eP2 eI (eT (eP2 eI eI))) net_1)), some (toD (eY value_here_2)), none] : Fr)) rfl ?_
  unfold g_law_is_ring
  exact (by exact (s_ifX (x_join (F := (fun (s_63 : Unit) => ([some (toD ((eP2 eI (eT (eP2 eI eI))) net_1)), some (toD (eY value_here_2)), none] : Fr))) (Rf.opt fun r_8 h_7 =>
  (by exact (x_or (vb_not (vb_E (v_op1 ((v_var (i := 1) (by exact rfl))).l (f_isi h_7)))) rfl (fun _ => (x_tail (Rf.opt fun r_10 h_9 =>
  (by exact (x_vb (vb_E (v_op2 ((v_op1 ((v_var (i := 1) (by exact rfl))).l (f_lenY h_9))).l (v_cI).l (f_eq eqb_I))) (by exact (kb_ok rfl)))))))))) (fun p_11 => (k_If (by exact (s_seqE (s_ret (x_v (v := eB false) (by exact v_cB) (by exact (k_Ret (kd_ret rfl))))))) (by exact (s_nx (by exact (s_forH (Rf.opt fun r_13 h_12 =>
  (by exact (Rf.ck fun h_14 =>
  (by exact (x_vi (by exact (vi_rg1 ((v_op1 ((v_var (i := 1) (by exact rfl))).l (f_lenY h_12))).l h_14)) (by exact (k_loop (KR := (KD eB os0)) (js := [false, false, true]) (F := (fun (s_16 : Unit) => ([some (toD ((eP2 eI (eT (eP2 eI eI))) net_1)), some (toD (eY value_here_2)), none] : Fr))) (s0 := ()) rfl (fun _ _ => rfl) (fun k_15 s_17 => (by exact (s_ifX (x_join (F := (fun (s_44 : Unit) => ([some (toD ((eP2 eI (eT (eP2 eI eI))) net_1)), some (toD (eY value_here_2)), some (toD (eI k_15))] : Fr))) (Rf.opt fun r_28 h_27 =>
  (by exact (Rf.opt fun r_30 h_29 =>
  (by exact (x_or (vb_not (vb_E (v_op1 ((v_op2 ((v_var (i := 1) (by exact rfl))).l ((v_var (i := 2) (by exact rfl))).l (f_ixY h_27))).l (f_isi h_29)))) rfl (fun _ => (Rf.opt fun r_32 h_31 =>
  (by exact (Rf.opt fun r_34 h_33 =>
  (by exact (x_or (vb_E (v_op1 ((v_op2 ((v_var (i := 1) (by exact rfl))).l ((v_var (i := 2) (by exact rfl))).l (f_ixY h_31))).l (f_isi h_33))) rfl (fun _ => (x_tail (Rf.opt fun r_36 h_35 =>
  (by exact (Rf.opt fun r_38 h_37 =>
  (by exact (Rf.opt fun r_40 h_39 =>
  (by exact (Rf.opt fun r_42 h_41 =>
  (by exact (x_vb (vb_E (v_op2 ((v_dec asI_of h_39 (v_op2 ((v_var (i := 1) (by exact rfl))).l ((v_var (i := 2) (by exact rfl))).l (f_ixY h_35)))).l ((v_dec (asT_of asI_of) h_41 (v_slT ((v_dec (asT_of asY_of) h_37 (v_var (i := 1) (by exact rfl)))).l vo_none (vo_some ((v_var (i := 2) (by exact rfl))).l)))).l (f_inT dat_I (by decide)))) (by exact (kb_ok rfl)))))))))))))))))))))))) (fun p_43 => (k_If (by exact (s_seqE (s_ret (x_v (v := eB false) (by exact v_cB) (by exact (k_Ret ⟨⟨_, rfl⟩, kd_ret rfl⟩)))))) (by exact (s_nx (by exact (s_end ⟨.inl rfl, rfl⟩)))))))))) (fun s_18 => (by exact (s_forH (Rf.opt fun r_46 h_45 =>
  (by exact (Rf.ck fun h_47 =>
  (by exact (x_vi (by exact (vi_rg1 ((v_op1 ((v_var (i := 1) (by exact rfl))).l (f_lenY h_45))).l h_47)) (by exact (k_loop (KR := (KD eB os0)) (js := [false, false, true]) (F := (fun (s_49 : Unit) => ([some (toD ((eP2 eI (eT (eP2 eI eI))) net_1)), some (toD (eY value_here_2)), none] : Fr))) (s0 := ()) rfl (fun _ _ => rfl) (fun k_48 s_50 => (by exact (s_ifX (Rf.opt fun r_53 h_52 =>
  (by exact (Rf.opt fun r_55 h_54 =>
  (by exact (Rf.ck fun h_56 =>
  (by exact (Rf.opt fun r_58 h_57 =>
  (by exact (Rf.opt fun r_60 h_59 =>
  (by exact (Rf.opt fun r_62 h_61 =>
  (by exact (x_vb (vb_E (v_op2 ((v_eq (w := (eP2 eI eI) ((r_60, r_62))) rfl (v_tup (va_cons (v_dec asI_of h_59 (v_op2 ((v_var (i := 1) (by exact rfl))).l ((v_var (i := 2) (by exact rfl))).l (f_ixY h_52))) (va_cons (v_dec asI_of h_61 (v_op2 ((v_var (i := 1) (by exact rfl))).l ((v_op2 ((v_op1 ((v_op2 ((v_var (i := 2) (by exact rfl))).l (v_cI).l f_add)).l f_int)).l ((v_op1 ((v_var (i := 1) (by exact rfl))).l (f_lenY h_54))).l (f_mod h_56))).l (f_ixY h_57))) va_nil)) rfl))).l ((v_op2 ((v_var (i := 0) (by exact rfl))).l (v_cI).l (f_ixP (i := 1) (vs := [eI net_1.1, (eT (eP2 eI eI)) net_1.2]) (v := (eT (eP2 eI eI)) net_1.2) rfl))).l (f_ninT (dat_P dat_I dat_I) (by decide)))) (by exact (k_If (by exact (s_seqE (s_ret (x_v (v := eB false) (by exact v_cB) (by exact (k_Ret ⟨⟨_, rfl⟩, kd_ret rfl⟩)))))) (by exact (s_nx (by exact (s_end ⟨.inl rfl, rfl⟩)))))))))))))))))))))) (fun s_51 => (by exact (s_ret (x_v (v := eB true) (by exact v_cB) (by exact (k_Ret (kd_ret rfl))))))) (fun x d fr h => ⟨_, _, rfl, h⟩))))))))))) (fun x d fr h => ⟨_, _, rfl, h⟩)))))))))))))))))
theorem rf_law (script_1 : List Int) : Rf (fn_law (toDs [eSc script_1])) (T_law script_1) (KF eB 1 os0) (KX 1 os0) := by
  unfold fn_law T_law
  refine fn_rf0 (fr0 := ([some (toD (eSc script_1)), none, none, none, none, none, none, none, none, none, none, none] : Fr)) rfl ?_
  unfold g_law
  exact (by exact (s_setF (Rf.no fun r_3 h_2 =>
  (by exact (x_v (v := (eL eI) r_3) (by exact (v_call (a := r_3) (E := (eL eI)) (rf_law_pool script_1 500) h_2 rfl rfl (va_cons (v_var (i := 0) (by exact rfl)) (va_cons v_cI va_nil)))) (by exact (k_SetF (d := toD ((eL eI) r_3)) (fr' := ([some (toD (eSc script_1)), some (toD ((eL eI) r_3)), none, none, none, none, none, none, none, none, none, none] : Fr)) rfl (by exact (s_set (x_call (x_cons (x_plv (i := 1) rfl rfl (k_A (by exact (x_cons (by exact (x_v (v := eI 9) (by exact v_cI) (by exact (k_A (by exact (x_cons (by exact (x_v (v := eI 2) (by exact v_cI) (by exact (k_A (by exact (x_nil (Rf.no fun r_4 h_5 => (k_call1 (vs1 := []) (vs2 := [eI 9, eI 2]) (v := (eL eI) r_3) (i := 1) (fr' := ([some (toD (eSc script_1)), some (toD ((eL eI) r_4.2)), none, none, none, none, none, none, none, none, none, none] : Fr)) (rf_law_arcs r_3 9 2) h_5 rfl rfl rfl rfl rfl rfl rfl (by exact (k_Set (v := (eP2 eI (eT (eP2 eI eI))) r_4.1) (fr' := ([some (toD (eSc script_1)), some (toD ((eL eI) r_4.2)), some (toD ((eP2 eI (eT (eP2 eI eI))) r_4.1)), none, none, none, none, none, none, none, none, none] : Fr)) rfl (by exact (s_set (Rf.no fun r_7 h_6 =>
  (by exact (x_v (v := e_Net r_7.2) (by exact (v_make (a := r_7) (rf_Net_init r_4.1.1 (((eT (eP2 eI eI)) r_4.1.2))) h_6 (va_cons (v_op2 ((v_var (i := 2) (by exact rfl))).l (v_cI).l (f_ixP (i := 0) (vs := [eI r_4.1.1, (eT (eP2 eI eI)) r_4.1.2]) (v := eI r_4.1.1) rfl)) (va_cons (v_op2 ((v_var (i := 2) (by exact rfl))).l (v_cI).l (f_ixP (i := 1) (vs := [eI r_4.1.1, (eT (eP2 eI eI)) r_4.1.2]) (v := (eT (eP2 eI eI)) r_4.1.2) rfl)) va_nil)))) (by exact (k_Set (v := e_Net r_7.2) (fr' := ([some (toD (eSc script_1)), some (toD ((eL eI) r_4.2)), some (toD ((eP2 eI (eT (eP2 eI eI))) r_4.1)), some (toD (e_Net r_7.2)), none, none, none, none, none, none, none, none] : Fr)) rfl (by exact (s_forH (x_vi (by exact (vi_rg1 (v_cI).l (by decide))) (by exact (k_loop (KR := (KD eB os0)) (js := [false, false, false, false, true, true, true, false, false, false, false, false]) (F := (fun (s_9 : (List Int)) => ([some (toD (eSc script_1)), some (toD ((eL eI) s_9)), some (toD ((eP2 eI (eT (eP2 eI eI))) r_4.1)), some (toD (e_Net r_7.2)), none, none, none, none, none, none, none, none] : Fr))) (s0 := r_4.2) rfl (fun _ _ => rfl) (fun k_8 s_10 => (by exact (s_set (x_call (x_cons (x_plv (i := 1) rfl rfl (k_A (by exact (x_cons (by exact (x_v (v := (eP2 eI (eT (eP2 eI eI))) r_4.1) (by exact (v_var (i := 2) (by exact rfl))) (by exact (k_A (by exact (x_nil (Rf.no fun r_12 h_13 => (k_call1 (vs1 := []) (vs2 := [(eP2 eI (eT (eP2 eI eI))) r_4.1]) (v := (eL eI) s_10) (i := 1) (fr' := ([some (toD (eSc script_1)), some (toD ((eL eI) r_12.2)), some (toD ((eP2 eI (eT (eP2 eI eI))) r_4.1)), some (toD (e_Net r_7.2)), some (toD (eI k_8)), none, none, none, none, none, none, none] : Fr)) (rf_law_value s_10 r_4.1) h_13 rfl rfl rfl rfl rfl rfl rfl (by exact (k_Set (v := eY r_12.1) (fr' := ([some (toD (eSc script_1)), some (toD ((eL eI) r_12.2)), some (toD ((eP2 eI (eT (eP2 eI eI))) r_4.1)), some (toD (e_Net r_7.2)), some (toD (eI k_8)), some (toD (eY r_12.1)), none, none, none, none, none, none] : Fr)) rfl (by exact (s_set (Rf.no fun r_15 h_14 =>
  (by exact (x_v (v := eB r_15) (by exact (v_call (a := r_15) (E := eB) (rf_is_ring r_7.2 r_12.1) h_14 rfl rfl (va_cons (v_var (i := 3) (by exact rfl)) (va_cons (v_var (i := 5) (by exact rfl)) va_nil)))) (by exact (k_Set (v := eB r_15) (fr' := ([some (toD (eSc script_1)), some (toD ((eL eI) r_12.2)), some (toD ((eP2 eI (eT (eP2 eI eI))) r_4.1)), some (toD (e_Net r_7.2)), some (toD (eI k_8)), some (toD (eY r_12.1)), some (toD (eB r_15)), none, none, none, none, none] : Fr)) rfl (by exact (s_ifX (x_join (F := (fun (s_25 : Unit) => ([some (toD (eSc script_1)), some (toD ((eL eI) r_12.2)), some (toD ((eP2 eI (eT (eP2 eI eI))) r_4.1)), some (toD (e_Net r_7.2)), some (toD (eI k_8)), some (toD (eY r_12.1)), some (toD (eB r_15)), none, none, none, none, none] : Fr))) (Rf.opt fun r_21 h_20 =>
  (by exact (x_or (vb_not (vb_E (v_op1 ((v_var (i := 6) (by exact rfl))).l (f_isi h_20)))) rfl (fun _ => (x_tail (Rf.no fun r_23 h_22 =>
  (by exact (x_vb (vb_E (v_op2 ((v_var (i := 6) (by exact rfl))).l ((v_call (a := r_23) (E := eB) (rf_law_is_ring r_4.1 r_12.1) h_22 rfl rfl (va_cons (v_var (i := 2) (by exact rfl)) (va_cons (v_var (i := 5) (by exact rfl)) va_nil)))).l (f_ne eqb_B))) (by exact (kb_ok rfl)))))))))) (fun p_24 => (k_If (by exact (s_seqE (s_ret (x_v (v := eB false) (by exact v_cB) (by exact (k_Ret ⟨⟨_, rfl⟩, kd_ret rfl⟩)))))) (by exact (s_nx (by exact (s_end ⟨.inl rfl, rfl⟩))))))))))))))))))))))))))))))))))) (fun s_11 => (by exact (s_set (Rf.no fun r_27 h_26 =>
  (by exact (x_v (v := (eO (eT eI)) r_27) (by exact (v_call (a := r_27) (E := (eO (eT eI))) (rf_some_ring r_7.2) h_26 rfl rfl (va_cons (v_var (i := 3) (by exact rfl)) va_nil))) (by exact (k_Set (v := (eO (eT eI)) r_27) (fr' := ([some (toD (eSc script_1)), some (toD ((eL eI) s_11)), some (toD ((eP2 eI (eT (eP2 eI eI))) r_4.1)), some (toD (e_Net r_7.2)), none, none, none, some (toD ((eO (eT eI)) r_27)), none, none, none, none] : Fr)) rfl (by exact (s_ifX (Rf.ck fun h_28 =>
  (by exact (Rf.no fun r_30 h_29 =>
  (by exact (x_vb (vb_E (v_op2 ((v_call (a := r_30) (E := eB) (rf_law_ringless r_4.1.2 ((rngT 0 r_4.1.1))) h_29 rfl rfl (va_cons (v_op2 ((v_var (i := 2) (by exact rfl))).l (v_cI).l (f_ixP (i := 1) (vs := [eI r_4.1.1, (eT (eP2 eI eI)) r_4.1.2]) (v := (eT (eP2 eI eI)) r_4.1.2) rfl)) (va_cons (v_op1 ((v_op2 ((v_var (i := 2) (by exact rfl))).l (v_cI).l (f_ixP (i := 0) (vs := [eI r_4.1.1, (eT (eP2 eI eI)) r_4.1.2]) (v := eI r_4.1.1) rfl))).l (f_rgT h_28)) va_nil)))).l ((v_op2 ((v_var (i := 7) (by exact rfl))).l (v_cN).l (f_isNO fun _ => rfl))).l (f_ne eqb_B))) (by exact (k_If (by exact (s_seqE (s_ret (x_v (v := eB false) (by exact v_cB) (by exact (k_Ret (kd_ret rfl))))))) (by exact (s_nx (by exact (s_ifX (x_join (F := (fun (s_75 : Unit) => ([some (toD (eSc script_1)), some (toD ((eL eI) s_11)), some (toD ((eP2 eI (eT (eP2 eI eI))) r_4.1)), some (toD (e_Net r_7.2)), none, none, none, some (toD ((eO (eT eI)) r_27)), none, none, none, none] : Fr))) (x_and (vb_E (v_op2 ((v_var (i := 7) (by exact rfl))).l (v_cN).l (f_isNnO fun _ => rfl))) rfl (fun _ => (x_tail (Rf.no fun r_34 h_33 =>
  (by exact (x_vb (vb_not (vb_E (v_call (a := r_34) (E := eB) (rf_law_is_ring r_4.1 (((eO (eT eI)) r_27))) h_33 rfl rfl (va_cons (v_var (i := 2) (by exact rfl)) (va_cons (v_var (i := 7) (by exact rfl)) va_nil))))) (by exact (kb_ok rfl)))))))) (fun p_35 => (k_If (by exact (s_seqE (s_ret (x_v (v := eB false) (by exact v_cB) (by exact (k_Ret (kd_ret rfl))))))) (by exact (s_nx (by exact (s_forH (x_vi (by exact (vi_rg1 (v_cI).l (by decide))) (by exact (k_loop (KR := (KD eB os0)) (js := [false, false, false, false, true, false, true, false, true, false, false, false]) (F := (fun (s_37 : (List Int)) => ([some (toD (eSc script_1)), some (toD ((eL eI) s_37)), some (toD ((eP2 eI (eT (eP2 eI eI))) r_4.1)), some (toD (e_Net r_7.2)), none, none, none, some (toD ((eO (eT eI)) r_27)), none, none, none, none] : Fr))) (s0 := s_11) rfl (fun _ _ => rfl) (fun k_36 s_38 => (by exact (s_set (x_op1 (x_compH (Rf.ck fun h_40 =>
  (by exact (x_vi (by exact (vi_rg1 ((v_op2 ((v_var (i := 2) (by exact rfl))).l (v_cI).l (f_ixP (i := 0) (vs := [eI r_4.1.1, (eT (eP2 eI eI)) r_4.1.2]) (v := eI r_4.1.1) rfl))).l h_40)) (by exact (Rf.ck fun h_41 =>
  (by exact (k_comp (E2 := eI) (G := (fun (s_61 : (List Int)) => ([some (toD (eSc script_1)), some (toD ((eL eI) s_61)), some (toD ((eP2 eI (eT (eP2 eI eI))) r_4.1)), some (toD (e_Net r_7.2)), some (toD (eI k_36)), none, none, some (toD ((eO (eT eI)) r_27)), none, none, none, none] : Fr))) (s0 := s_38) h_41 rfl (fun _ _ => rfl) (fun i_42 s_43 => (by exact (t_x (G := (fun (s_47 : (List Int)) => ([some (toD (eSc script_1)), some (toD ((eL eI) s_47)), some (toD ((eP2 eI (eT (eP2 eI eI))) r_4.1)), some (toD (e_Net r_7.2)), some (toD (eI k_36)), none, none, some (toD ((eO (eT eI)) r_27)), none, none, none, some (toD (eI i_42))] : Fr))) (tb := fun x_46 => .ok (some i_42, x_46)) (ta := fun x_46 => .ok (none, x_46)) (x_tail (x_bE (x_op2 (x_call (x_cons (x_plv (i := 1) rfl rfl (k_A (by exact (x_cons (by exact (x_v (v := eI 3) (by exact v_cI) (by exact (k_A (by exact (x_nil (Rf.no fun r_44 h_45 => (k_call1 (vs1 := []) (vs2 := [eI 3]) (v := (eL eI) s_43) (i := 1) (fr' := ([some (toD (eSc script_1)), some (toD ((eL eI) r_44.2)), some (toD ((eP2 eI (eT (eP2 eI eI))) r_4.1)), some (toD (e_Net r_7.2)), some (toD (eI k_36)), none, none, some (toD ((eO (eT eI)) r_27)), none, none, none, some (toD (eI i_42))] : Fr)) (rf_law_draw s_43 3) h_45 rfl rfl rfl rfl rfl rfl rfl (by exact (k_op2a (v_cI).l f_gt (k_E (kb_ok rfl))))))))))))))))))))) (fun x_46 => (by exact (x_v (v := eI i_42) (by exact (v_var (i := 11) (by exact rfl))) (by exact (k_turn (E2 := eI) (y := i_42) ⟨rfl, rfl⟩))))) (fun x_46 => ⟨_, _, rfl, rfl, rfl⟩)))) (fun _ => rfl) (fun l_48 => (by exact (k_op1 f_tupL (k_Set (v := (eT eI) l_48.1) (fr' := ([some (toD (eSc script_1)), some (toD ((eL eI) l_48.2)), some (toD ((eP2 eI (eT (eP2 eI eI))) r_4.1)), some (toD (e_Net r_7.2)), some (toD (eI k_36)), none, none, some (toD ((eO (eT eI)) r_27)), some (toD ((eT eI) l_48.1)), none, none, none] : Fr)) rfl (by exact (s_set (Rf.no fun r_50 h_49 =>
  (by exact (x_v (v := eB r_50) (by exact (v_call (a := r_50) (E := eB) (rf_can_order r_7.2 (((eT eI) l_48.1))) h_49 rfl rfl (va_cons (v_var (i := 3) (by exact rfl)) (va_cons (v_var (i := 8) (by exact rfl)) va_nil)))) (by exact (k_Set (v := eB r_50) (fr' := ([some (toD (eSc script_1)), some (toD ((eL eI) l_48.2)), some (toD ((eP2 eI (eT (eP2 eI eI))) r_4.1)), some (toD (e_Net r_7.2)), some (toD (eI k_36)), none, some (toD (eB r_50)), some (toD ((eO (eT eI)) r_27)), some (toD ((eT eI) l_48.1)), none, none, none] : Fr)) rfl (by exact (s_ifX (x_join (F := (fun (s_60 : Unit) => ([some (toD (eSc script_1)), some (toD ((eL eI) l_48.2)), some (toD ((eP2 eI (eT (eP2 eI eI))) r_4.1)), some (toD (e_Net r_7.2)), some (toD (eI k_36)), none, some (toD (eB r_50)), some (toD ((eO (eT eI)) r_27)), some (toD ((eT eI) l_48.1)), none, none, none] : Fr))) (Rf.opt fun r_56 h_55 =>
  (by exact (x_or (vb_not (vb_E (v_op1 ((v_var (i := 6) (by exact rfl))).l (f_isi h_55)))) rfl (fun _ => (x_tail (Rf.no fun r_58 h_57 =>
  (by exact (x_vb (vb_E (v_op2 ((v_var (i := 6) (by exact rfl))).l ((v_call (a := r_58) (E := eB) (rf_law_ringless r_4.1.2 l_48.1) h_57 rfl rfl (va_cons (v_op2 ((v_var (i := 2) (by exact rfl))).l (v_cI).l (f_ixP (i := 1) (vs := [eI r_4.1.1, (eT (eP2 eI eI)) r_4.1.2]) (v := (eT (eP2 eI eI)) r_4.1.2) rfl)) (va_cons (v_var (i := 8) (by exact rfl)) va_nil)))).l (f_ne eqb_B))) (by exact (kb_ok rfl)))))))))) (fun p_59 => (k_If (by exact (s_seqE (s_ret (x_v (v := eB false) (by exact v_cB) (by exact (k_Ret ⟨⟨_, rfl⟩, kd_ret rfl⟩)))))) (by exact (s_nx (by exact (s_end ⟨.inl rfl, rfl⟩)))))))))))))))))))))))))))))))) (fun s_39 => (by exact (s_set (x_call (x_cons (x_plv (i := 1) rfl rfl (k_A (by exact (x_cons (by exact (x_v (v := eI r_4.1.1) (by exact (v_op2 ((v_var (i := 2) (by exact rfl))).l (v_cI).l (f_ixP (i := 0) (vs := [eI r_4.1.1, (eT (eP2 eI eI)) r_4.1.2]) (v := eI r_4.1.1) rfl))) (by exact (k_A (by exact (x_nil (Rf.no fun r_62 h_63 => (k_call1 (vs1 := []) (vs2 := [eI r_4.1.1]) (v := (eL eI) s_39) (i := 1) (fr' := ([some (toD (eSc script_1)), some (toD ((eL eI) r_62.2)), some (toD ((eP2 eI (eT (eP2 eI eI))) r_4.1)), some (toD (e_Net r_7.2)), none, none, none, some (toD ((eO (eT eI)) r_27)), none, none, none, none] : Fr)) (rf_law_draw s_39 r_4.1.1) h_63 rfl rfl rfl rfl rfl rfl rfl (by exact (k_Set (v := eI r_62.1) (fr' := ([some (toD (eSc script_1)), some (toD ((eL eI) r_62.2)), some (toD ((eP2 eI (eT (eP2 eI eI))) r_4.1)), some (toD (e_Net r_7.2)), none, none, none, some (toD ((eO (eT eI)) r_27)), none, some (toD (eI r_62.1)), none, none] : Fr)) rfl (by exact (s_set (x_v (v := (eL eY) ([(eU ()), ((eP2 eI eI) ((r_62.1, r_62.1))), ((eL eI) ([r_62.1])), ((eT eI) ([r_4.1.1])), ((eP2 eI eI) (((-1), r_62.1))), (eS ((PySem.Str.ofString "0"))), ((eT eB) ([true])), ((eP3 eI eI eI) ((r_62.1, 0, 1))), ((eT (eT eI)) ([[]])), (eI 5), ((eP2 eI eU) ((r_62.1, ())))])) (by exact (v_eq (w := eL eY [(eU ()), ((eP2 eI eI) ((r_62.1, r_62.1))), ((eL eI) ([r_62.1])), ((eT eI) ([r_4.1.1])), ((eP2 eI eI) (((-1), r_62.1))), (eS ((PySem.Str.ofString "0"))), ((eT eB) ([true])), ((eP3 eI eI eI) ((r_62.1, 0, 1))), ((eT (eT eI)) ([[]])), (eI 5), ((eP2 eI eU) ((r_62.1, ())))]) rfl (v_lst (va_cons v_cN (va_cons (v_tup (va_cons (v_var (i := 9) (by exact rfl)) (va_cons (v_var (i := 9) (by exact rfl)) va_nil)) rfl) (va_cons (v_eq (w := eL eI [r_62.1]) rfl (v_lst (va_cons (v_var (i := 9) (by exact rfl)) va_nil) rfl)) (va_cons (v_eq (w := eT eI [r_4.1.1]) rfl (v_tup (va_cons (v_op2 ((v_var (i := 2) (by exact rfl))).l (v_cI).l (f_ixP (i := 0) (vs := [eI r_4.1.1, (eT (eP2 eI eI)) r_4.1.2]) (v := eI r_4.1.1) rfl)) va_nil) rfl)) (va_cons (v_tup (va_cons (v_op1 (v_cI).l f_neg) (va_cons (v_var (i := 9) (by exact rfl)) va_nil)) rfl) (va_cons v_cS (va_cons (v_eq (w := eT eB [true]) rfl (v_tup (va_cons v_cB va_nil) rfl)) (va_cons (v_tup (va_cons (v_var (i := 9) (by exact rfl)) (va_cons v_cI (va_cons v_cI va_nil))) rfl) (va_cons (v_eq (w := eT (eT eI) [[]]) rfl (v_tup (va_cons (v_tup va_nil rfl) va_nil) rfl)) (va_cons v_cI (va_cons (v_tup (va_cons (v_var (i := 9) (by exact rfl)) (va_cons v_cN va_nil)) rfl) va_nil))))))))))) rfl))) (by exact (k_SetN (E := (eL eY)) (fr' := fun bad_64 => ([some (toD (eSc script_1)), some (toD ((eL eI) r_62.2)), some (toD ((eP2 eI (eT (eP2 eI eI))) r_4.1)), some (toD (e_Net r_7.2)), none, none, none, some (toD ((eO (eT eI)) r_27)), none, some (toD (eI r_62.1)), some (toD ((eL eY) bad_64)), none] : Fr)) (fun _ => rfl) (fun bad_64 => (by exact (s_ret (x_joinS (F := (fun (s_74 : (List Int)) => ([some (toD (eSc script_1)), some (toD ((eL eI) s_74)), some (toD ((eP2 eI (eT (eP2 eI eI))) r_4.1)), some (toD (e_Net r_7.2)), none, none, none, some (toD ((eO (eT eI)) r_27)), none, some (toD (eI r_62.1)), some (toD ((eL eY) bad_64)), none] : Fr))) (Rf.no fun r_66 h_65 =>
  (by exact (x_andS (v_op2 ((v_call (a := r_66) (E := eB) (rf_is_ring r_7.2 ((e_Net r_7.2))) h_65 rfl rfl (va_cons (v_var (i := 3) (by exact rfl)) (va_cons (v_var (i := 3) (by exact rfl)) va_nil)))).l (v_cB).l f_isB) rfl (fun _ => (x_tail (x_call (x_cons (by exact (x_v (v := e_Net r_7.2) (by exact (v_var (i := 3) (by exact rfl))) (by exact (k_A (by exact (x_cons (by exact (x_op2r (v_var (i := 10) (by exact rfl)) (x_call (x_cons (x_plv (i := 1) rfl rfl (k_A (by exact (x_cons (by exact (x_v (v := eI 11) (by exact v_cI) (by exact (k_A (by exact (x_nil (Rf.no fun r_67 h_68 => (k_call1 (vs1 := []) (vs2 := [eI 11]) (v := (eL eI) r_62.2) (i := 1) (fr' := ([some (toD (eSc script_1)), some (toD ((eL eI) r_67.2)), some (toD ((eP2 eI (eT (eP2 eI eI))) r_4.1)), some (toD (e_Net r_7.2)), none, none, none, some (toD ((eO (eT eI)) r_27)), none, some (toD (eI r_62.1)), some (toD ((eL eY) bad_64)), none] : Fr)) (rf_law_draw r_62.2 11) h_68 rfl rfl rfl rfl rfl rfl rfl (by exact (Rf.opt fun r_70 h_69 =>
  (by exact (k_op2b (look_toD _ _) (f_ixL (e := eY) h_69) (k_A (by exact (x_nil (k_call (vs := [e_Net r_7.2, r_70]) (rf_law_refused r_7.2 r_70) rfl rfl (fun _ _ _ _ => kde0) (fun r_71 => (kvs_ok rfl rfl))))))))))))))))))))))))))))))))))))))) (fun p_73 => (k_Ret (kd_ret rfl))))))))))))))))))))))))))))))) (fun x d fr h => ⟨_, _, rfl, h⟩)))))))))))))))))))))))))))))))) (fun x d fr h => ⟨_, _, rfl, h⟩))))))))))))))))))))))))))))))))))))))))))))
theorem law_of {ns : List Int} (h : T_law ns = .ok true) : ∃ outs, fn_law [.scr ns] = .ok (.bl true) outs := by
  have q := rf_law ns
  rw [h] at q
  obtain ⟨d, outs, e, rfl, _⟩ := q
  exact ⟨outs, e⟩
end Lk09
namespace Lk09
open PySem PySem.Spec L2 KS PyProof.Rows
def main_body : List Stmt := PySem.Challenge.pw_keptandsaid_k09_rings.main.body
def st_law_pool : Stmt := (main_body.getD 43 (.Pass ⟨0, 0, 0, 0⟩))
def st_law_draw : Stmt := (main_body.getD 44 (.Pass ⟨0, 0, 0, 0⟩))
def st_law_arcs : Stmt := (main_body.getD 48 (.Pass ⟨0, 0, 0, 0⟩))
def st_is_below : Stmt := (main_body.getD 32 (.Pass ⟨0, 0, 0, 0⟩))
def st_first_wrong_arc : Stmt := (main_body.getD 35 (.Pass ⟨0, 0, 0, 0⟩))
def st_Net_init : Stmt := (inClass (main_body.getD 36 (.Pass ⟨0, 0, 0, 0⟩)) 0)
def st_stripped : Stmt := (main_body.getD 39 (.Pass ⟨0, 0, 0, 0⟩))
def st_some_ring : Stmt := (main_body.getD 40 (.Pass ⟨0, 0, 0, 0⟩))
def st_law_knows : Stmt := (main_body.getD 49 (.Pass ⟨0, 0, 0, 0⟩))
def st_law_walked : Stmt := (main_body.getD 52 (.Pass ⟨0, 0, 0, 0⟩))
def st_law_value : Stmt := (main_body.getD 53 (.Pass ⟨0, 0, 0, 0⟩))
def st_is_ring : Stmt := (main_body.getD 38 (.Pass ⟨0, 0, 0, 0⟩))
def st_law_ringless : Stmt := (main_body.getD 50 (.Pass ⟨0, 0, 0, 0⟩))
def st_is_lot : Stmt := (main_body.getD 33 (.Pass ⟨0, 0, 0, 0⟩))
def st_can_order : Stmt := (main_body.getD 41 (.Pass ⟨0, 0, 0, 0⟩))
def st_law_kinds : Stmt := (main_body.getD 46 (.Pass ⟨0, 0, 0, 0⟩))
def st_law_alone : Stmt := (main_body.getD 47 (.Pass ⟨0, 0, 0, 0⟩))
def st_law_same : Stmt := (main_body.getD 45 (.Pass ⟨0, 0, 0, 0⟩))
def st_law_refused : Stmt := (main_body.getD 54 (.Pass ⟨0, 0, 0, 0⟩))
def st_law_is_ring : Stmt := (main_body.getD 51 (.Pass ⟨0, 0, 0, 0⟩))
def st_law : Stmt := (main_body.getD 55 (.Pass ⟨0, 0, 0, 0⟩))
def st_xInvalidNet : Stmt := (inClass (main_body.getD 6 (.Pass ⟨0, 0, 0, 0⟩)) 0)
def st_xInvalidLot : Stmt := (inClass (main_body.getD 7 (.Pass ⟨0, 0, 0, 0⟩)) 0)
structure Txt (G : SE) where
  f_law_pool : Addr
  fd_law_pool : FuncData
  f_law_draw : Addr
  fd_law_draw : FuncData
  f_law_arcs : Addr
  fd_law_arcs : FuncData
  f_is_below : Addr
  fd_is_below : FuncData
  f_first_wrong_arc : Addr
  fd_first_wrong_arc : FuncData
  f_Net_init : Addr
  fd_Net_init : FuncData
  f_stripped : Addr
  fd_stripped : FuncData
  f_some_ring : Addr
  fd_some_ring : FuncData
  f_law_knows : Addr
  fd_law_knows : FuncData
  f_law_walked : Addr
  fd_law_walked : FuncData
  f_law_value : Addr
  fd_law_value : FuncData
  f_is_ring : Addr
  fd_is_ring : FuncData
  f_law_ringless : Addr
  fd_law_ringless : FuncData
  f_is_lot : Addr
  fd_is_lot : FuncData
  f_can_order : Addr
  fd_can_order : FuncData
  f_law_kinds : Addr
  fd_law_kinds : FuncData
  f_law_alone : Addr
  fd_law_alone : FuncData
  f_law_same : Addr
  fd_law_same : FuncData
  f_law_refused : Addr
  fd_law_refused : FuncData
  f_law_is_ring : Addr
  fd_law_is_ring : FuncData
  f_law : Addr
  fd_law : FuncData
  of_InvalidNet : Addr
  od_InvalidNet : FuncData
  of_InvalidLot : Addr
  od_InvalidLot : FuncData
  oa_SayError : Addr
  oa_InvalidNumber : Addr
  oa_InvalidMatrix : Addr
  oa_InvalidAudience : Addr
  oa_InvalidDeed : Addr
  oa_InvalidNet : Addr
  oa_InvalidLot : Addr
  oa_InvalidWord : Addr
  oa_InvalidWords : Addr
  oa_InvalidSignals : Addr
  oa_InvalidLosses : Addr
  oa_InvalidText : Addr
  oa_InvalidLine : Addr
  oa_UnknownWord : Addr
  oa_TooMany : Addr
  oa_Undefined : Addr
  oa_NothingToUndo : Addr
  F_law_pool : Fun G.K (PySem.Str.ofString "_law_pool") (PySem.Str.ofString "_law_pool") st_law_pool f_law_pool fd_law_pool
  b_law_pool : Binds G.K fd_law_pool [(PySem.Str.ofString "_law_script"), (PySem.Str.ofString "_law_many")] []
  m_law_pool : G.mg (PySem.Str.ofString "_law_pool") = some (.ref f_law_pool)
  F_law_draw : Fun G.K (PySem.Str.ofString "_law_draw") (PySem.Str.ofString "_law_draw") st_law_draw f_law_draw fd_law_draw
  b_law_draw : Binds G.K fd_law_draw [(PySem.Str.ofString "_law_pool_here"), (PySem.Str.ofString "_law_many")] []
  m_law_draw : G.mg (PySem.Str.ofString "_law_draw") = some (.ref f_law_draw)
  F_law_arcs : Fun G.K (PySem.Str.ofString "_law_arcs") (PySem.Str.ofString "_law_arcs") st_law_arcs f_law_arcs fd_law_arcs
  b_law_arcs : Binds G.K fd_law_arcs [(PySem.Str.ofString "_law_pool_here"), (PySem.Str.ofString "_law_most"), (PySem.Str.ofString "_law_odds")] []
  m_law_arcs : G.mg (PySem.Str.ofString "_law_arcs") = some (.ref f_law_arcs)
  F_is_below : Fun G.K (PySem.Str.ofString "is_below") (PySem.Str.ofString "is_below") st_is_below f_is_below fd_is_below
  b_is_below : Binds G.K fd_is_below [(PySem.Str.ofString "value"), (PySem.Str.ofString "many")] []
  m_is_below : G.mg (PySem.Str.ofString "is_below") = some (.ref f_is_below)
  F_first_wrong_arc : Fun G.K (PySem.Str.ofString "first_wrong_arc") (PySem.Str.ofString "first_wrong_arc") st_first_wrong_arc f_first_wrong_arc fd_first_wrong_arc
  b_first_wrong_arc : Binds G.K fd_first_wrong_arc [(PySem.Str.ofString "size"), (PySem.Str.ofString "arcs")] []
  m_first_wrong_arc : G.mg (PySem.Str.ofString "first_wrong_arc") = some (.ref f_first_wrong_arc)
  F_Net_init : Fun G.K (PySem.Str.ofString "__init__") (PySem.Str.ofString "Net.__init__") st_Net_init f_Net_init fd_Net_init
  b_Net_init : Binds G.K fd_Net_init [(PySem.Str.ofString "self"), (PySem.Str.ofString "size"), (PySem.Str.ofString "arcs")] []
  F_stripped : Fun G.K (PySem.Str.ofString "stripped") (PySem.Str.ofString "stripped") st_stripped f_stripped fd_stripped
  b_stripped : Binds G.K fd_stripped [(PySem.Str.ofString "net"), (PySem.Str.ofString "places")] []
  m_stripped : G.mg (PySem.Str.ofString "stripped") = some (.ref f_stripped)
  F_some_ring : Fun G.K (PySem.Str.ofString "some_ring") (PySem.Str.ofString "some_ring") st_some_ring f_some_ring fd_some_ring
  b_some_ring : Binds G.K fd_some_ring [(PySem.Str.ofString "net")] []
  m_some_ring : G.mg (PySem.Str.ofString "some_ring") = some (.ref f_some_ring)
  F_law_knows : Fun G.K (PySem.Str.ofString "_law_knows") (PySem.Str.ofString "_law_knows") st_law_knows f_law_knows fd_law_knows
  b_law_knows : Binds G.K fd_law_knows [(PySem.Str.ofString "_law_net"), (PySem.Str.ofString "_law_i")] []
  m_law_knows : G.mg (PySem.Str.ofString "_law_knows") = some (.ref f_law_knows)
  F_law_walked : Fun G.K (PySem.Str.ofString "_law_walked") (PySem.Str.ofString "_law_walked") st_law_walked f_law_walked fd_law_walked
  b_law_walked : Binds G.K fd_law_walked [(PySem.Str.ofString "_law_pool_here"), (PySem.Str.ofString "_law_net")] []
  m_law_walked : G.mg (PySem.Str.ofString "_law_walked") = some (.ref f_law_walked)
  F_law_value : Fun G.K (PySem.Str.ofString "_law_value") (PySem.Str.ofString "_law_value") st_law_value f_law_value fd_law_value
  b_law_value : Binds G.K fd_law_value [(PySem.Str.ofString "_law_pool_here"), (PySem.Str.ofString "_law_net")] []
  m_law_value : G.mg (PySem.Str.ofString "_law_value") = some (.ref f_law_value)
  F_is_ring : Fun G.K (PySem.Str.ofString "is_ring") (PySem.Str.ofString "is_ring") st_is_ring f_is_ring fd_is_ring
  b_is_ring : Binds G.K fd_is_ring [(PySem.Str.ofString "net"), (PySem.Str.ofString "value")] []
  m_is_ring : G.mg (PySem.Str.ofString "is_ring") = some (.ref f_is_ring)
  F_law_ringless : Fun G.K (PySem.Str.ofString "_law_ringless") (PySem.Str.ofString "_law_ringless") st_law_ringless f_law_ringless fd_law_ringless
  b_law_ringless : Binds G.K fd_law_ringless [(PySem.Str.ofString "_law_arcs_here"), (PySem.Str.ofString "_law_lot")] []
  m_law_ringless : G.mg (PySem.Str.ofString "_law_ringless") = some (.ref f_law_ringless)
  F_is_lot : Fun G.K (PySem.Str.ofString "is_lot") (PySem.Str.ofString "is_lot") st_is_lot f_is_lot fd_is_lot
  b_is_lot : Binds G.K fd_is_lot [(PySem.Str.ofString "value"), (PySem.Str.ofString "size")] []
  m_is_lot : G.mg (PySem.Str.ofString "is_lot") = some (.ref f_is_lot)
  F_can_order : Fun G.K (PySem.Str.ofString "can_order") (PySem.Str.ofString "can_order") st_can_order f_can_order fd_can_order
  b_can_order : Binds G.K fd_can_order [(PySem.Str.ofString "net"), (PySem.Str.ofString "lot")] []
  m_can_order : G.mg (PySem.Str.ofString "can_order") = some (.ref f_can_order)
  F_law_kinds : Fun G.K (PySem.Str.ofString "_law_kinds") (PySem.Str.ofString "_law_kinds") st_law_kinds f_law_kinds fd_law_kinds
  b_law_kinds : Binds G.K fd_law_kinds [(PySem.Str.ofString "_law_e")] []
  m_law_kinds : G.mg (PySem.Str.ofString "_law_kinds") = some (.ref f_law_kinds)
  F_law_alone : Fun G.K (PySem.Str.ofString "_law_alone") (PySem.Str.ofString "_law_alone") st_law_alone f_law_alone fd_law_alone
  b_law_alone : Binds G.K fd_law_alone [(PySem.Str.ofString "_law_e"), (PySem.Str.ofString "_law_kind")] []
  m_law_alone : G.mg (PySem.Str.ofString "_law_alone") = some (.ref f_law_alone)
  F_law_same : Fun G.K (PySem.Str.ofString "_law_same") (PySem.Str.ofString "_law_same") st_law_same f_law_same fd_law_same
  b_law_same : Binds G.K fd_law_same [(PySem.Str.ofString "_law_told"), (PySem.Str.ofString "_law_due")] []
  m_law_same : G.mg (PySem.Str.ofString "_law_same") = some (.ref f_law_same)
  F_law_refused : Fun G.K (PySem.Str.ofString "_law_refused") (PySem.Str.ofString "_law_refused") st_law_refused f_law_refused fd_law_refused
  b_law_refused : Binds G.K fd_law_refused [(PySem.Str.ofString "_law_helper"), (PySem.Str.ofString "_law_bad")] []
  m_law_refused : G.mg (PySem.Str.ofString "_law_refused") = some (.ref f_law_refused)
  F_law_is_ring : Fun G.K (PySem.Str.ofString "_law_is_ring") (PySem.Str.ofString "_law_is_ring") st_law_is_ring f_law_is_ring fd_law_is_ring
  b_law_is_ring : Binds G.K fd_law_is_ring [(PySem.Str.ofString "_law_net"), (PySem.Str.ofString "_law_value_here")] []
  m_law_is_ring : G.mg (PySem.Str.ofString "_law_is_ring") = some (.ref f_law_is_ring)
  F_law : Fun G.K (PySem.Str.ofString "law") (PySem.Str.ofString "law") st_law f_law fd_law
  b_law : Binds G.K fd_law [(PySem.Str.ofString "_law_script")] []
  m_law : G.mg (PySem.Str.ofString "law") = some (.ref f_law)
  n_ValueError : G.mg (PySem.Str.ofString "ValueError") = none
  n_abs : G.mg (PySem.Str.ofString "abs") = none
  n_all : G.mg (PySem.Str.ofString "all") = none
  n_any : G.mg (PySem.Str.ofString "any") = none
  n_bool : G.mg (PySem.Str.ofString "bool") = none
  n_enumerate : G.mg (PySem.Str.ofString "enumerate") = none
  n_int : G.mg (PySem.Str.ofString "int") = none
  n_isinstance : G.mg (PySem.Str.ofString "isinstance") = none
  n_len : G.mg (PySem.Str.ofString "len") = none
  n_list : G.mg (PySem.Str.ofString "list") = none
  n_min : G.mg (PySem.Str.ofString "min") = none
  n_range : G.mg (PySem.Str.ofString "range") = none
  n_set : G.mg (PySem.Str.ofString "set") = none
  n_sorted : G.mg (PySem.Str.ofString "sorted") = none
  n_str : G.mg (PySem.Str.ofString "str") = none
  n_tuple : G.mg (PySem.Str.ofString "tuple") = none
  n_zip : G.mg (PySem.Str.ofString "zip") = none
  c_MOST_PLACES : ∃ u, G.mg (PySem.Str.ofString "MOST_PLACES") = some u ∧ RelV (.int 12) u
  m_Net : G.mg (PySem.Str.ofString "Net") = some (.ref (G.cls 0))
  cl_Net : Cls G.K (G.cls 0)
  mk_Net : Mk G.K (G.cls 0) f_Net_init
  kt_Net_tuple : C8.InsC G.K (G.cls 0) ∧ PySem.W.kitOne G.K (.ref (G.cls 0)) (.type "tuple") = some false
  kc_Net : ∀ c b, kc_Net c = some b → C8.InsC G.K (G.cls c) ∧ PySem.W.kitOne G.K (.ref (G.cls c)) (.ref (G.cls 0)) = some b
  fx_size : (PySem.Str.ofString "size") = G.fld 0
  inj_size : ∀ m, G.fld m = G.fld 0 → m = 0
  fc_size : ∀ c ∈ ([0] : List Nat), Cls G.K (G.cls c) ∧ NoAttr G.K (G.cls c) (PySem.Str.ofString "size")
  f1_Net_size : ∀ c ∈ ([0] : List Nat), Cls G.K (G.cls c) ∧ NoAttr G.K (G.cls c) (PySem.Str.ofString "size")
  fx_arcs : (PySem.Str.ofString "arcs") = G.fld 1
  inj_arcs : ∀ m, G.fld m = G.fld 1 → m = 1
  fc_arcs : ∀ c ∈ ([0] : List Nat), Cls G.K (G.cls c) ∧ NoAttr G.K (G.cls c) (PySem.Str.ofString "arcs")
  f1_Net_arcs : ∀ c ∈ ([0] : List Nat), Cls G.K (G.cls c) ∧ NoAttr G.K (G.cls c) (PySem.Str.ofString "arcs")
  fx_knows : (PySem.Str.ofString "knows") = G.fld 2
  inj_knows : ∀ m, G.fld m = G.fld 2 → m = 2
  fc_knows : ∀ c ∈ ([0] : List Nat), Cls G.K (G.cls c) ∧ NoAttr G.K (G.cls c) (PySem.Str.ofString "knows")
  f1_Net_knows : ∀ c ∈ ([0] : List Nat), Cls G.K (G.cls c) ∧ NoAttr G.K (G.cls c) (PySem.Str.ofString "knows")
  ox_InvalidNet : OexC G.K (G.ecls 0)
  oi_InvalidNet : PySem.W.findIn G.K (.ref (G.ecls 0)) (PySem.Str.ofString "__init__") = some (some (.ref of_InvalidNet))
  ot_InvalidNet : PySem.W.typeIn G.K (.ref of_InvalidNet) = some (.type "function")
  oF_InvalidNet : Fun G.K (PySem.Str.ofString "__init__") (PySem.Str.ofString "InvalidNet.__init__") st_xInvalidNet of_InvalidNet od_InvalidNet
  ob_InvalidNet : Binds G.K od_InvalidNet [(PySem.Str.ofString "self"), (PySem.Str.ofString "part"), (PySem.Str.ofString "place")] []
  om_InvalidNet : G.mg (PySem.Str.ofString "InvalidNet") = some (.ref (G.ecls 0))
  oe_InvalidNet : G.efld 0 = [(PySem.Str.ofString "part"), (PySem.Str.ofString "place")]
  on_InvalidNet : ∀ n ∈ ([(PySem.Str.ofString "part"), (PySem.Str.ofString "place")] : List Str), PySem.W.findIn G.K (.ref (G.ecls 0)) n = some none
  ox_InvalidLot : OexC G.K (G.ecls 1)
  oi_InvalidLot : PySem.W.findIn G.K (.ref (G.ecls 1)) (PySem.Str.ofString "__init__") = some (some (.ref of_InvalidLot))
  ot_InvalidLot : PySem.W.typeIn G.K (.ref of_InvalidLot) = some (.type "function")
  oF_InvalidLot : Fun G.K (PySem.Str.ofString "__init__") (PySem.Str.ofString "InvalidLot.__init__") st_xInvalidLot of_InvalidLot od_InvalidLot
  ob_InvalidLot : Binds G.K od_InvalidLot [(PySem.Str.ofString "self"), (PySem.Str.ofString "value")] []
  om_InvalidLot : G.mg (PySem.Str.ofString "InvalidLot") = some (.ref (G.ecls 1))
  oe_InvalidLot : G.efld 1 = [(PySem.Str.ofString "value")]
  on_InvalidLot : ∀ n ∈ ([(PySem.Str.ofString "value")] : List Str), PySem.W.findIn G.K (.ref (G.ecls 1)) n = some none
  oy_SayError : G.mg (PySem.Str.ofString "SayError") = some (.ref oa_SayError)
  oy_InvalidNumber : G.mg (PySem.Str.ofString "InvalidNumber") = some (.ref oa_InvalidNumber)
  oy_InvalidMatrix : G.mg (PySem.Str.ofString "InvalidMatrix") = some (.ref oa_InvalidMatrix)
  oy_InvalidAudience : G.mg (PySem.Str.ofString "InvalidAudience") = some (.ref oa_InvalidAudience)
  oy_InvalidDeed : G.mg (PySem.Str.ofString "InvalidDeed") = some (.ref oa_InvalidDeed)
  oy_InvalidNet : G.mg (PySem.Str.ofString "InvalidNet") = some (.ref oa_InvalidNet)
  oy_InvalidLot : G.mg (PySem.Str.ofString "InvalidLot") = some (.ref oa_InvalidLot)
  oy_InvalidWord : G.mg (PySem.Str.ofString "InvalidWord") = some (.ref oa_InvalidWord)
  oy_InvalidWords : G.mg (PySem.Str.ofString "InvalidWords") = some (.ref oa_InvalidWords)
  oy_InvalidSignals : G.mg (PySem.Str.ofString "InvalidSignals") = some (.ref oa_InvalidSignals)
  oy_InvalidLosses : G.mg (PySem.Str.ofString "InvalidLosses") = some (.ref oa_InvalidLosses)
  oy_InvalidText : G.mg (PySem.Str.ofString "InvalidText") = some (.ref oa_InvalidText)
  oy_InvalidLine : G.mg (PySem.Str.ofString "InvalidLine") = some (.ref oa_InvalidLine)
  oy_UnknownWord : G.mg (PySem.Str.ofString "UnknownWord") = some (.ref oa_UnknownWord)
  oy_TooMany : G.mg (PySem.Str.ofString "TooMany") = some (.ref oa_TooMany)
  oy_Undefined : G.mg (PySem.Str.ofString "Undefined") = some (.ref oa_Undefined)
  oy_NothingToUndo : G.mg (PySem.Str.ofString "NothingToUndo") = some (.ref oa_NothingToUndo)
  oh_SayError : ∀ c, c < 2 → PySem.W.exmOne G.K (.ref (G.ecls c)) (.ref oa_SayError) = some (tI_SayError c)
  oi1_InvalidNumber : ∀ c, c < 2 → ExcC G.K (G.ecls c) ∧ PySem.W.kitOne G.K (.ref (G.ecls c)) (.ref oa_InvalidNumber) = some (tI_InvalidNumber c)
  oi1_InvalidMatrix : ∀ c, c < 2 → ExcC G.K (G.ecls c) ∧ PySem.W.kitOne G.K (.ref (G.ecls c)) (.ref oa_InvalidMatrix) = some (tI_InvalidMatrix c)
  oi1_InvalidAudience : ∀ c, c < 2 → ExcC G.K (G.ecls c) ∧ PySem.W.kitOne G.K (.ref (G.ecls c)) (.ref oa_InvalidAudience) = some (tI_InvalidAudience c)
  oi1_InvalidDeed : ∀ c, c < 2 → ExcC G.K (G.ecls c) ∧ PySem.W.kitOne G.K (.ref (G.ecls c)) (.ref oa_InvalidDeed) = some (tI_InvalidDeed c)
  oi1_InvalidNet : ∀ c, c < 2 → ExcC G.K (G.ecls c) ∧ PySem.W.kitOne G.K (.ref (G.ecls c)) (.ref oa_InvalidNet) = some (tI_InvalidNet c)
  oi1_InvalidLot : ∀ c, c < 2 → ExcC G.K (G.ecls c) ∧ PySem.W.kitOne G.K (.ref (G.ecls c)) (.ref oa_InvalidLot) = some (tI_InvalidLot c)
  oi1_InvalidWord : ∀ c, c < 2 → ExcC G.K (G.ecls c) ∧ PySem.W.kitOne G.K (.ref (G.ecls c)) (.ref oa_InvalidWord) = some (tI_InvalidWord c)
  oi1_InvalidWords : ∀ c, c < 2 → ExcC G.K (G.ecls c) ∧ PySem.W.kitOne G.K (.ref (G.ecls c)) (.ref oa_InvalidWords) = some (tI_InvalidWords c)
  oi1_InvalidSignals : ∀ c, c < 2 → ExcC G.K (G.ecls c) ∧ PySem.W.kitOne G.K (.ref (G.ecls c)) (.ref oa_InvalidSignals) = some (tI_InvalidSignals c)
  oi1_InvalidLosses : ∀ c, c < 2 → ExcC G.K (G.ecls c) ∧ PySem.W.kitOne G.K (.ref (G.ecls c)) (.ref oa_InvalidLosses) = some (tI_InvalidLosses c)
  oi1_InvalidText : ∀ c, c < 2 → ExcC G.K (G.ecls c) ∧ PySem.W.kitOne G.K (.ref (G.ecls c)) (.ref oa_InvalidText) = some (tI_InvalidText c)
  oi1_InvalidLine : ∀ c, c < 2 → ExcC G.K (G.ecls c) ∧ PySem.W.kitOne G.K (.ref (G.ecls c)) (.ref oa_InvalidLine) = some (tI_InvalidLine c)
  oi1_UnknownWord : ∀ c, c < 2 → ExcC G.K (G.ecls c) ∧ PySem.W.kitOne G.K (.ref (G.ecls c)) (.ref oa_UnknownWord) = some (tI_UnknownWord c)
  oi1_TooMany : ∀ c, c < 2 → ExcC G.K (G.ecls c) ∧ PySem.W.kitOne G.K (.ref (G.ecls c)) (.ref oa_TooMany) = some (tI_TooMany c)
  oi1_Undefined : ∀ c, c < 2 → ExcC G.K (G.ecls c) ∧ PySem.W.kitOne G.K (.ref (G.ecls c)) (.ref oa_Undefined) = some (tI_Undefined c)
  oi1_NothingToUndo : ∀ c, c < 2 → ExcC G.K (G.ecls c) ∧ PySem.W.kitOne G.K (.ref (G.ecls c)) (.ref oa_NothingToUndo) = some (tI_NothingToUndo c)
  oi1_SayError : ∀ c, c < 2 → ExcC G.K (G.ecls c) ∧ PySem.W.kitOne G.K (.ref (G.ecls c)) (.ref oa_SayError) = some (tI_SayError c)
  ob1_ValueError : ∀ c, c < 2 → ExcC G.K (G.ecls c) ∧ PySem.W.kitOne G.K (.ref (G.ecls c)) (.type "ValueError") = some (tB_ValueError c)
  xg_value : ∀ c j, c < 2 → xf_value c = some j → (G.efld c)[j]? = some (PySem.Str.ofString "value") ∧ XfC G.K (G.ecls c) ∧ PySem.W.findIn G.K (.ref (G.ecls c)) (PySem.Str.ofString "value") = some none
section
variable {G : SE}
theorem sc_xInvalidNet : FnScope [(PySem.Str.ofString "self"), (PySem.Str.ofString "part"), (PySem.Str.ofString "place")] [(PySem.Str.ofString "self"), (PySem.Str.ofString "part"), (PySem.Str.ofString "place")] (defScope st_xInvalidNet) := ⟨rfl, rfl, rfl, by decide +kernel, rfl, by decide +kernel, by decide +kernel⟩
theorem Txt.ok_InvalidNet (T : Txt G) : FnOk G.P G.w G.K G.mg G.base (L2N.CX G.P G.w) 1 T.of_InvalidNet T.od_InvalidNet [(PySem.Str.ofString "self"), (PySem.Str.ofString "part"), (PySem.Str.ofString "place")] (oexSp (G.ecls 0) (G.efld 0)) := by
  rw [T.oe_InvalidNet]
  exact fn_oex 0 T.oF_InvalidNet sc_xInvalidNet rfl (by decide) T.ox_InvalidNet (by decide) (by decide) (by decide +kernel) T.on_InvalidNet fun cdv A outer s H E => (pss_cons (ps_ost (pe_var (i := 0) rfl (by first | exact Or.inl rfl | exact Or.inr (Or.inl rfl))) (pe_var (i := 1) rfl (by first | exact Or.inl rfl | exact Or.inr (Or.inl rfl)))) (pss_cons (ps_ost (pe_var (i := 0) rfl (by first | exact Or.inl rfl | exact Or.inr (Or.inl rfl))) (pe_var (i := 2) rfl (by first | exact Or.inl rfl | exact Or.inr (Or.inl rfl)))) pss_nil))
theorem Txt.ol_InvalidNet (T : Txt G) : (G.efld 0).length = 2 := by rw [T.oe_InvalidNet]; rfl
theorem sc_xInvalidLot : FnScope [(PySem.Str.ofString "self"), (PySem.Str.ofString "value")] [(PySem.Str.ofString "self"), (PySem.Str.ofString "value")] (defScope st_xInvalidLot) := ⟨rfl, rfl, rfl, by decide +kernel, rfl, by decide +kernel, by decide +kernel⟩
theorem Txt.ok_InvalidLot (T : Txt G) : FnOk G.P G.w G.K G.mg G.base (L2N.CX G.P G.w) 1 T.of_InvalidLot T.od_InvalidLot [(PySem.Str.ofString "self"), (PySem.Str.ofString "value")] (oexSp (G.ecls 1) (G.efld 1)) := by
  rw [T.oe_InvalidLot]
  exact fn_oex 0 T.oF_InvalidLot sc_xInvalidLot rfl (by decide) T.ox_InvalidLot (by decide) (by decide) (by decide +kernel) T.on_InvalidLot fun cdv A outer s H E => (pss_cons (ps_ost (pe_var (i := 0) rfl (by first | exact Or.inl rfl | exact Or.inr (Or.inl rfl))) (pe_var (i := 1) rfl (by first | exact Or.inl rfl | exact Or.inr (Or.inl rfl)))) pss_nil)
theorem Txt.ol_InvalidLot (T : Txt G) : (G.efld 1).length = 1 := by rw [T.oe_InvalidLot]; rfl
theorem sc_law_pool : FnScope [(PySem.Str.ofString "_law_script"), (PySem.Str.ofString "_law_many"), (PySem.Str.ofString "_law_pool_here"), (PySem.Str.ofString "_law_total"), (PySem.Str.ofString "_law_cell"), (PySem.Str.ofString "_law_rest"), (PySem.Str.ofString "_law_k"), (PySem.Str.ofString "_law_first"), (PySem.Str.ofString "_law_second")] [(PySem.Str.ofString "_law_script"), (PySem.Str.ofString "_law_many")] (defScope st_law_pool) := ⟨rfl, rfl, rfl, by decide +kernel, rfl, by decide +kernel, by decide +kernel⟩
theorem ret_law_pool : ∀ ds fr, g_law_pool (startF 9 ds) ≠ .ok .nx fr := fun ds fr => (noNx_seq (noNx_seq (noNx_seq (noNx_seq (noNx_seq (noNx_seq (noNx_seqL noNx_retV))))))) _ _
theorem ok_law_pool (T : Txt G) : FnOk G.P G.w G.K G.mg G.base (L2N.CX G.P G.w) 1 T.f_law_pool T.fd_law_pool [(PySem.Str.ofString "_law_script"), (PySem.Str.ofString "_law_many")] (spOf G [false, false] true fn_law_pool) :=
  fnok_of (G := G) (M := [2]) T.F_law_pool sc_law_pool rfl (by decide) (.inr ret_law_pool) fun cdv A outer s H E io Hv hio hr =>
  (ss_cons (s_setF (i := 2) (show 2 ∈ ([2] : List Nat) by decide) (io_ne hio (by decide)) sc_law_pool.nd (d_lst a_nil))
  (ss_cons (s_set (i := 3) (show ¬ 3 ∈ ([2] : List Nat) by decide) sc_law_pool.nd d_int)
  (ss_cons (s_for (passes_of rfl) rfl (i_iK (io_not (js := [false, false, false, false, true, true, true, true, true]) hio rfl) (i_val (d_var (i := 0) (show ¬ 0 ∈ ([2] : List Nat) by decide)))) (g_name (i := 4) (show ¬ 4 ∈ ([2] : List Nat) by decide) sc_law_pool.nd)
  (ss_sK (io_not (js := [false, false, false, false, true, true, true, true, true]) hio rfl) (ss_cons (s_set (i := 5) (show ¬ 5 ∈ ([2] : List Nat) by decide) sc_law_pool.nd (d_t1 cas_int call_intA T.n_int (d_b1 cas_abs call_abs T.n_abs (d_var (i := 4) (show ¬ 4 ∈ ([2] : List Nat) by decide)))))
  (ss_cons (s_sKn (io_not (js := [false, false, false, false, false, true, true, true, true]) hio rfl) (s_if (dt_cmp ops_ge op_ge (d_var (i := 5) (show ¬ 5 ∈ ([2] : List Nat) by decide)) (d_pow d_int d_int) rfl)
  (ss_cons (s_for (passes_of rfl) rfl (i_iK (io_not (js := [false, false, false, false, false, false, true, false, false]) hio rfl) (i_range1 (d_b2 cas_min2 (call_min2 rfl) T.n_min d_int (d_sub (d_var (i := 1) (show ¬ 1 ∈ ([2] : List Nat) by decide)) (d_b1 (cas_len rfl) call_len T.n_len (d_pl (i := 2) (show 2 ∈ ([2] : List Nat) by decide))))) T.n_range)) (g_name (i := 6) (show ¬ 6 ∈ ([2] : List Nat) by decide) sc_law_pool.nd)
  (ss_sK (io_not (js := [false, false, false, false, false, false, true, false, false]) hio rfl) (ss_cons (s_expr (d_mut (i := 2) kd_lst tyV_lst mus_append mt_append F.plainAttrs_list F.slot_list_append F.type_list_append (show 2 ∈ ([2] : List Nat) by decide) (a_cons (d_mod (d_t1 cas_int call_intA T.n_int (d_var (i := 5) (show ¬ 5 ∈ ([2] : List Nat) by decide))) d_int) a_nil)))
  (ss_cons (s_set (i := 5) (show ¬ 5 ∈ ([2] : List Nat) by decide) sc_law_pool.nd (d_fdiv (d_var (i := 5) (show ¬ 5 ∈ ([2] : List Nat) by decide)) d_int))
  (ss_cons (s_if (dt_cmp (ops_eqA) (op_eqA (u64 hr)) (d_var (i := 5) (show ¬ 5 ∈ ([2] : List Nat) by decide)) d_int rfl)
  (ss_cons s_break
  ss_nil)
  ss_nil)
  ss_nil)))))
  ss_nil)
  (ss_cons (s_set (i := 7) (show ¬ 7 ∈ ([2] : List Nat) by decide) sc_law_pool.nd (d_mod (d_t1 cas_int call_intA T.n_int (d_add (d_add (d_mul (d_var (i := 4) (show ¬ 4 ∈ ([2] : List Nat) by decide)) d_int) (d_mul (d_b1 (cas_len rfl) call_len T.n_len (d_pl (i := 2) (show 2 ∈ ([2] : List Nat) by decide))) d_int)) d_int)) d_int))
  (ss_cons (s_set (i := 8) (show ¬ 8 ∈ ([2] : List Nat) by decide) sc_law_pool.nd (d_mod (d_t1 cas_int call_intA T.n_int (d_add (d_mul (d_var (i := 7) (show ¬ 7 ∈ ([2] : List Nat) by decide)) (d_var (i := 7) (show ¬ 7 ∈ ([2] : List Nat) by decide))) d_int)) d_int))
  (ss_cons (s_expr (d_mut (i := 2) kd_lst tyV_lst mus_append mt_append F.plainAttrs_list F.slot_list_append F.type_list_append (show 2 ∈ ([2] : List Nat) by decide) (a_cons (d_mod (d_t1 cas_int call_intA T.n_int (d_fdiv (d_var (i := 8) (show ¬ 8 ∈ ([2] : List Nat) by decide)) d_int)) d_int) a_nil)))
  (ss_cons (s_expr (d_mut (i := 2) kd_lst tyV_lst mus_append mt_append F.plainAttrs_list F.slot_list_append F.type_list_append (show 2 ∈ ([2] : List Nat) by decide) (a_cons (d_mod (d_mod (d_t1 cas_int call_intA T.n_int (d_add (d_mul (d_var (i := 8) (show ¬ 8 ∈ ([2] : List Nat) by decide)) d_int) (d_var (i := 7) (show ¬ 7 ∈ ([2] : List Nat) by decide)))) d_int) d_int) a_nil)))
  ss_nil))))))
  (ss_cons (s_set (i := 3) (show ¬ 3 ∈ ([2] : List Nat) by decide) sc_law_pool.nd (d_mod (d_t1 cas_int call_intA T.n_int (d_add (d_mul (d_var (i := 3) (show ¬ 3 ∈ ([2] : List Nat) by decide)) d_int) (d_var (i := 4) (show ¬ 4 ∈ ([2] : List Nat) by decide)))) d_int))
  ss_nil)))))
  (ss_cons (s_for (passes_of rfl) rfl (i_iK (io_not (js := [false, false, false, false, false, false, true, false, false]) hio rfl) (i_range1 (d_var (i := 1) (show ¬ 1 ∈ ([2] : List Nat) by decide)) T.n_range)) (g_name (i := 6) (show ¬ 6 ∈ ([2] : List Nat) by decide) sc_law_pool.nd)
  (ss_sK (io_not (js := [false, false, false, false, false, false, true, false, false]) hio rfl) (ss_cons (s_set (i := 3) (show ¬ 3 ∈ ([2] : List Nat) by decide) sc_law_pool.nd (d_mod (d_t1 cas_int call_intA T.n_int (d_add (d_add (d_mul (d_var (i := 3) (show ¬ 3 ∈ ([2] : List Nat) by decide)) d_int) (d_mul (d_var (i := 6) (show ¬ 6 ∈ ([2] : List Nat) by decide)) d_int)) d_int)) d_int))
  (ss_cons (s_expr (d_mut (i := 2) kd_lst tyV_lst mus_append mt_append F.plainAttrs_list F.slot_list_append F.type_list_append (show 2 ∈ ([2] : List Nat) by decide) (a_cons (d_mod (d_t1 cas_int call_intA T.n_int (d_fdiv (d_var (i := 3) (show ¬ 3 ∈ ([2] : List Nat) by decide)) d_int)) d_int) a_nil)))
  ss_nil))))
  (ss_cons (s_setF (i := 2) (show 2 ∈ ([2] : List Nat) by decide) (io_ne hio (by decide)) sc_law_pool.nd (d_slF (d_pl (i := 2) (show 2 ∈ ([2] : List Nat) by decide)) do_none (do_some (d_var (i := 1) (show ¬ 1 ∈ ([2] : List Nat) by decide)))))
  (ss_cons (s_expr (d_mut0 (i := 2) kd_lst tyV_lst mus_reverse mt_reverse F.plainAttrs_list F.slot_list_reverse F.type_list_reverse (show 2 ∈ ([2] : List Nat) by decide)))
  (ss_cons (s_retV (i := 2) (show 2 ∈ ([2] : List Nat) by decide) (io_ne hio (by decide)))
  ss_nil)))))))
theorem sc_law_draw : FnScope [(PySem.Str.ofString "_law_pool_here"), (PySem.Str.ofString "_law_many")] [(PySem.Str.ofString "_law_pool_here"), (PySem.Str.ofString "_law_many")] (defScope st_law_draw) := ⟨rfl, rfl, rfl, by decide +kernel, rfl, by decide +kernel, by decide +kernel⟩
theorem ok_law_draw (T : Txt G) : FnOk G.P G.w G.K G.mg G.base (L2N.CX G.P G.w) 1 T.f_law_draw T.fd_law_draw [(PySem.Str.ofString "_law_pool_here"), (PySem.Str.ofString "_law_many")] (spOf G [true, false] false fn_law_draw) :=
  fnok_of (G := G) (M := [0]) T.F_law_draw sc_law_draw rfl (by decide) (.inl rfl) fun cdv A outer s H E io Hv hio hr =>
  (ss_cons (s_if (dt_cmp (ops_eqA) (op_eqA (u64 hr)) (d_b1 (cas_len rfl) call_len T.n_len (d_pl (i := 0) (show 0 ∈ ([0] : List Nat) by decide))) d_int rfl)
  (ss_cons (s_ret rfl d_int)
  ss_nil)
  ss_nil)
  (ss_cons (s_ret rfl (d_mod (d_t1 cas_int call_intA T.n_int (d_mut0 (i := 0) kd_lst tyV_lst mus_pop mt_pop F.plainAttrs_list F.slot_list_pop F.type_list_pop (show 0 ∈ ([0] : List Nat) by decide))) (d_var (i := 1) (show ¬ 1 ∈ ([0] : List Nat) by decide))))
  ss_nil))
theorem sc_law_arcs : FnScope [(PySem.Str.ofString "_law_pool_here"), (PySem.Str.ofString "_law_most"), (PySem.Str.ofString "_law_odds"), (PySem.Str.ofString "_law_size"), (PySem.Str.ofString "_law_there"), (PySem.Str.ofString "_law_turn"), (PySem.Str.ofString "_law_step"), (PySem.Str.ofString "_law_k"), (PySem.Str.ofString "_law_one"), (PySem.Str.ofString "_law_two"), (PySem.Str.ofString "_law_many"), (PySem.Str.ofString "_law_i"), (PySem.Str.ofString "_law_j")] [(PySem.Str.ofString "_law_pool_here"), (PySem.Str.ofString "_law_most"), (PySem.Str.ofString "_law_odds")] (defScope st_law_arcs) := ⟨rfl, rfl, rfl, by decide +kernel, rfl, by decide +kernel, by decide +kernel⟩
theorem ok_law_arcs (T : Txt G) : FnOk G.P G.w G.K G.mg G.base (L2N.CX G.P G.w) 2 T.f_law_arcs T.fd_law_arcs [(PySem.Str.ofString "_law_pool_here"), (PySem.Str.ofString "_law_most"), (PySem.Str.ofString "_law_odds")] (spOf G [true, false, false] false fn_law_arcs) :=
  fnok_of (G := G) (M := [0, 4]) T.F_law_arcs sc_law_arcs rfl (by decide) (.inl rfl) fun cdv A outer s H E io Hv hio hr =>
  (ss_cons (s_set (i := 3) (show ¬ 3 ∈ ([0, 4] : List Nat) by decide) sc_law_arcs.nd (d_add d_int (d_call (ok_law_draw T) (hr.mono (by decide)) T.m_law_draw T.F_law_draw.kp T.b_law_draw (fun σ => L2N.passAt (L2N.takes_of rfl rfl rfl rfl) σ) (a_cons (d_pl (i := 0) (show 0 ∈ ([0, 4] : List Nat) by decide)) (a_cons (d_var (i := 1) (show ¬ 1 ∈ ([0, 4] : List Nat) by decide)) a_nil)))))
  (ss_cons (s_setF (i := 4) (show 4 ∈ ([0, 4] : List Nat) by decide) (io_ne hio (by decide)) sc_law_arcs.nd d_dnew)
  (ss_cons (s_sKn (io_not (js := [false, false, false, false, false, true, true, true, true, true, true, true, true]) hio rfl) (s_if (dt_cmp (ops_ltA) (op_ltA (u0 hr)) (d_call (ok_law_draw T) (hr.mono (by decide)) T.m_law_draw T.F_law_draw.kp T.b_law_draw (fun σ => L2N.passAt (L2N.takes_of rfl rfl rfl rfl) σ) (a_cons (d_pl (i := 0) (show 0 ∈ ([0, 4] : List Nat) by decide)) (a_cons d_int a_nil))) (d_var (i := 2) (show ¬ 2 ∈ ([0, 4] : List Nat) by decide)) rfl)
  (ss_cons (s_set (i := 3) (show ¬ 3 ∈ ([0, 4] : List Nat) by decide) sc_law_arcs.nd d_int)
  (ss_cons (s_set (i := 5) (show ¬ 5 ∈ ([0, 4] : List Nat) by decide) sc_law_arcs.nd (d_call (ok_law_draw T) (hr.mono (by decide)) T.m_law_draw T.F_law_draw.kp T.b_law_draw (fun σ => L2N.passAt (L2N.takes_of rfl rfl rfl rfl) σ) (a_cons (d_pl (i := 0) (show 0 ∈ ([0, 4] : List Nat) by decide)) (a_cons d_int a_nil))))
  (ss_cons (s_set (i := 6) (show ¬ 6 ∈ ([0, 4] : List Nat) by decide) sc_law_arcs.nd (d_add d_int (d_call (ok_law_draw T) (hr.mono (by decide)) T.m_law_draw T.F_law_draw.kp T.b_law_draw (fun σ => L2N.passAt (L2N.takes_of rfl rfl rfl rfl) σ) (a_cons (d_pl (i := 0) (show 0 ∈ ([0, 4] : List Nat) by decide)) (a_cons d_int a_nil)))))
  (ss_cons (s_for (passes_of rfl) rfl (i_iK (io_not (js := [false, false, false, false, false, false, false, true, true, true, false, false, false]) hio rfl) (i_range1 d_int T.n_range)) (g_name (i := 7) (show ¬ 7 ∈ ([0, 4] : List Nat) by decide) sc_law_arcs.nd)
  (ss_sK (io_not (js := [false, false, false, false, false, false, false, true, true, true, false, false, false]) hio rfl) (ss_cons (s_set (i := 8) (show ¬ 8 ∈ ([0, 4] : List Nat) by decide) sc_law_arcs.nd (d_mod (d_t1 cas_int call_intA T.n_int (d_add (d_var (i := 5) (show ¬ 5 ∈ ([0, 4] : List Nat) by decide)) (d_mul (d_var (i := 7) (show ¬ 7 ∈ ([0, 4] : List Nat) by decide)) (d_var (i := 6) (show ¬ 6 ∈ ([0, 4] : List Nat) by decide))))) d_int))
  (ss_cons (s_set (i := 9) (show ¬ 9 ∈ ([0, 4] : List Nat) by decide) sc_law_arcs.nd (d_mod (d_t1 cas_int call_intA T.n_int (d_add (d_add (d_var (i := 5) (show ¬ 5 ∈ ([0, 4] : List Nat) by decide)) (d_mul (d_var (i := 7) (show ¬ 7 ∈ ([0, 4] : List Nat) by decide)) (d_var (i := 6) (show ¬ 6 ∈ ([0, 4] : List Nat) by decide)))) (d_var (i := 6) (show ¬ 6 ∈ ([0, 4] : List Nat) by decide)))) d_int))
  (ss_cons (s_dput (i := 4) (u1 hr) (show 4 ∈ ([0, 4] : List Nat) by decide) (a_cons (d_var (i := 8) (show ¬ 8 ∈ ([0, 4] : List Nat) by decide)) (a_cons (d_var (i := 9) (show ¬ 9 ∈ ([0, 4] : List Nat) by decide)) a_nil)) d_bl)
  (ss_cons (s_dput (i := 4) (u1 hr) (show 4 ∈ ([0, 4] : List Nat) by decide) (a_cons (d_var (i := 9) (show ¬ 9 ∈ ([0, 4] : List Nat) by decide)) (a_cons (d_var (i := 8) (show ¬ 8 ∈ ([0, 4] : List Nat) by decide)) a_nil)) d_bl)
  ss_nil))))))
  (ss_cons (s_for (passes_of rfl) rfl (i_iK (io_not (js := [false, false, false, false, false, false, false, true, true, true, false, false, false]) hio rfl) (i_range1 (d_call (ok_law_draw T) (hr.mono (by decide)) T.m_law_draw T.F_law_draw.kp T.b_law_draw (fun σ => L2N.passAt (L2N.takes_of rfl rfl rfl rfl) σ) (a_cons (d_pl (i := 0) (show 0 ∈ ([0, 4] : List Nat) by decide)) (a_cons d_int a_nil))) T.n_range)) (g_name (i := 7) (show ¬ 7 ∈ ([0, 4] : List Nat) by decide) sc_law_arcs.nd)
  (ss_sK (io_not (js := [false, false, false, false, false, false, false, true, true, true, false, false, false]) hio rfl) (ss_cons (s_set (i := 8) (show ¬ 8 ∈ ([0, 4] : List Nat) by decide) sc_law_arcs.nd (d_call (ok_law_draw T) (hr.mono (by decide)) T.m_law_draw T.F_law_draw.kp T.b_law_draw (fun σ => L2N.passAt (L2N.takes_of rfl rfl rfl rfl) σ) (a_cons (d_pl (i := 0) (show 0 ∈ ([0, 4] : List Nat) by decide)) (a_cons d_int a_nil))))
  (ss_cons (s_set (i := 9) (show ¬ 9 ∈ ([0, 4] : List Nat) by decide) sc_law_arcs.nd (d_mod (d_t1 cas_int call_intA T.n_int (d_add (d_add (d_var (i := 8) (show ¬ 8 ∈ ([0, 4] : List Nat) by decide)) d_int) (d_call (ok_law_draw T) (hr.mono (by decide)) T.m_law_draw T.F_law_draw.kp T.b_law_draw (fun σ => L2N.passAt (L2N.takes_of rfl rfl rfl rfl) σ) (a_cons (d_pl (i := 0) (show 0 ∈ ([0, 4] : List Nat) by decide)) (a_cons d_int a_nil))))) d_int))
  (ss_cons (s_if (dt_dinE (i := 4) (u1 hr) (show 4 ∈ ([0, 4] : List Nat) by decide) (a_cons (d_var (i := 8) (show ¬ 8 ∈ ([0, 4] : List Nat) by decide)) (a_cons (d_var (i := 9) (show ¬ 9 ∈ ([0, 4] : List Nat) by decide)) a_nil)))
  (ss_cons (s_expr (d_dpop (i := 4) (u1 hr) (show 4 ∈ ([0, 4] : List Nat) by decide) (a_cons (d_var (i := 8) (show ¬ 8 ∈ ([0, 4] : List Nat) by decide)) (a_cons (d_var (i := 9) (show ¬ 9 ∈ ([0, 4] : List Nat) by decide)) a_nil))))
  ss_nil)
  (ss_cons (s_dput (i := 4) (u1 hr) (show 4 ∈ ([0, 4] : List Nat) by decide) (a_cons (d_var (i := 8) (show ¬ 8 ∈ ([0, 4] : List Nat) by decide)) (a_cons (d_var (i := 9) (show ¬ 9 ∈ ([0, 4] : List Nat) by decide)) a_nil)) d_bl)
  ss_nil))
  ss_nil)))))
  ss_nil)))))
  (ss_cons (s_set (i := 10) (show ¬ 10 ∈ ([0, 4] : List Nat) by decide) sc_law_arcs.nd (d_ix (DF.de (d_lst (a_cons d_int (a_cons d_int (a_cons d_int (a_cons d_int (a_cons d_int a_nil))))))) (d_call (ok_law_draw T) (hr.mono (by decide)) T.m_law_draw T.F_law_draw.kp T.b_law_draw (fun σ => L2N.passAt (L2N.takes_of rfl rfl rfl rfl) σ) (a_cons (d_pl (i := 0) (show 0 ∈ ([0, 4] : List Nat) by decide)) (a_cons d_int a_nil)))))
  (ss_cons (s_for (passes_of rfl) rfl (i_iK (io_not (js := [false, false, false, false, false, false, false, false, false, false, false, true, true]) hio rfl) (i_range1 (d_var (i := 3) (show ¬ 3 ∈ ([0, 4] : List Nat) by decide)) T.n_range)) (g_name (i := 11) (show ¬ 11 ∈ ([0, 4] : List Nat) by decide) sc_law_arcs.nd)
  (ss_sK (io_not (js := [false, false, false, false, false, false, false, false, false, false, false, true, true]) hio rfl) (ss_cons (s_for (passes_of rfl) rfl (i_iK (io_not (js := [false, false, false, false, false, false, false, false, false, false, false, false, true]) hio rfl) (i_range1 (d_var (i := 3) (show ¬ 3 ∈ ([0, 4] : List Nat) by decide)) T.n_range)) (g_name (i := 12) (show ¬ 12 ∈ ([0, 4] : List Nat) by decide) sc_law_arcs.nd)
  (ss_sK (io_not (js := [false, false, false, false, false, false, false, false, false, false, false, false, true]) hio rfl) (ss_cons (s_if (DW.dt (dw_and (dt_cmp (ops_neA) (op_neA (u64 hr)) (d_var (i := 11) (show ¬ 11 ∈ ([0, 4] : List Nat) by decide)) (d_var (i := 12) (show ¬ 12 ∈ ([0, 4] : List Nat) by decide)) rfl) (dw_and1 (dt_cmp (ops_ltA) (op_ltA (u0 hr)) (d_call (ok_law_draw T) (hr.mono (by decide)) T.m_law_draw T.F_law_draw.kp T.b_law_draw (fun σ => L2N.passAt (L2N.takes_of rfl rfl rfl rfl) σ) (a_cons (d_pl (i := 0) (show 0 ∈ ([0, 4] : List Nat) by decide)) (a_cons d_int a_nil))) (d_var (i := 10) (show ¬ 10 ∈ ([0, 4] : List Nat) by decide)) rfl))))
  (ss_cons (s_dput (i := 4) (u1 hr) (show 4 ∈ ([0, 4] : List Nat) by decide) (a_cons (d_var (i := 11) (show ¬ 11 ∈ ([0, 4] : List Nat) by decide)) (a_cons (d_var (i := 12) (show ¬ 12 ∈ ([0, 4] : List Nat) by decide)) a_nil)) d_bl)
  ss_nil)
  ss_nil)
  ss_nil)))
  ss_nil)))
  ss_nil))))
  (ss_cons (s_ret rfl (d_tup (a_cons (d_var (i := 3) (show ¬ 3 ∈ ([0, 4] : List Nat) by decide)) (a_cons (d_t1 (cas_tup rfl) call_tuple_of T.n_tuple (DF.de (d_sortD (i := 4) (u16 hr) rfl (show 4 ∈ ([0, 4] : List Nat) by decide) T.n_sorted))) a_nil))))
  ss_nil))))
theorem sc_is_below : FnScope [(PySem.Str.ofString "value"), (PySem.Str.ofString "many")] [(PySem.Str.ofString "value"), (PySem.Str.ofString "many")] (defScope st_is_below) := ⟨rfl, rfl, rfl, by decide +kernel, rfl, by decide +kernel, by decide +kernel⟩
theorem ok_is_below (T : Txt G) : FnOk G.P G.w G.K G.mg G.base (L2N.CX G.P G.w) 1 T.f_is_below T.fd_is_below [(PySem.Str.ofString "value"), (PySem.Str.ofString "many")] (spOf G [false, false] false fn_is_below) :=
  fnok_of (G := G) (M := []) T.F_is_below sc_is_below rfl (by decide) (.inl rfl) fun cdv A outer s H E io Hv hio hr =>
  (ss_cons (s_ret rfl (d_and (d_isi .int (d_var (i := 0) (show ¬ 0 ∈ ([] : List Nat) by decide)) T.n_isinstance T.n_int (by decide +kernel)) (d_and (d_not (d_isi .bl (d_var (i := 0) (show ¬ 0 ∈ ([] : List Nat) by decide)) T.n_isinstance T.n_bool (by decide +kernel))) (d_one (d_chain (ops_leA) (ops_ltA) (op_leA (u0 hr)) (op_ltA (u0 hr)) d_int (d_var (i := 0) (show ¬ 0 ∈ ([] : List Nat) by decide)) (d_var (i := 1) (show ¬ 1 ∈ ([] : List Nat) by decide)))))))
  ss_nil)
theorem sc_first_wrong_arc : FnScope [(PySem.Str.ofString "size"), (PySem.Str.ofString "arcs"), (PySem.Str.ofString "ahead"), (PySem.Str.ofString "number"), (PySem.Str.ofString "arc"), (PySem.Str.ofString "place")] [(PySem.Str.ofString "size"), (PySem.Str.ofString "arcs")] (defScope st_first_wrong_arc) := ⟨rfl, rfl, rfl, by decide +kernel, rfl, by decide +kernel, by decide +kernel⟩
theorem ok_first_wrong_arc (T : Txt G) : FnOk G.P G.w G.K G.mg G.base (L2N.CX G.P G.w) 2 T.f_first_wrong_arc T.fd_first_wrong_arc [(PySem.Str.ofString "size"), (PySem.Str.ofString "arcs")] (spOf G [false, false] false fn_first_wrong_arc) :=
  fnok_of (G := G) (M := []) T.F_first_wrong_arc sc_first_wrong_arc rfl (by decide) (.inl rfl) fun cdv A outer s H E io Hv hio hr =>
  (ss_cons (s_if (dt_not (dt_val (d_isi2 .lst .tup (d_var (i := 1) (show ¬ 1 ∈ ([] : List Nat) by decide)) T.n_isinstance T.n_list (by decide +kernel) T.n_tuple (by decide +kernel))))
  (ss_cons (s_ret rfl d_int)
  ss_nil)
  ss_nil)
  (ss_cons (s_set (i := 2) (show ¬ 2 ∈ ([] : List Nat) by decide) sc_first_wrong_arc.nd (d_tup (a_cons (d_neg d_int) (a_cons (d_neg d_int) a_nil))))
  (ss_cons (s_for (passes_of rfl) rfl (i_iK (io_not (js := [false, false, false, true, true, false]) hio rfl) (i_enum (d_var (i := 1) (show ¬ 1 ∈ ([] : List Nat) by decide)) T.n_enumerate)) (g_tup rfl (gs_cons (i := 3) (show ¬ 3 ∈ ([] : List Nat) by decide) sc_first_wrong_arc.nd (gs_cons (i := 4) (show ¬ 4 ∈ ([] : List Nat) by decide) sc_first_wrong_arc.nd gs_nil)))
  (ss_sK (io_not (js := [false, false, false, true, true, false]) hio rfl) (ss_cons (s_if (DW.dt (dw_or (dt_not (dt_val (d_isi .tup (d_var (i := 4) (show ¬ 4 ∈ ([] : List Nat) by decide)) T.n_isinstance T.n_tuple (by decide +kernel)))) (dw_or (dt_cmp (ops_neA) (op_neA (u64 hr)) (d_b1 (cas_len rfl) call_len T.n_len (d_var (i := 4) (show ¬ 4 ∈ ([] : List Nat) by decide))) d_int rfl) (dw_or1 (dt_not (dt_val (d_b1 (cas_all rfl) (cr_all rfl) T.n_all (DF.de (d_lc (own := [((PySem.Str.ofString "place"), 5)]) (show ∀ v ∈ ([5] : List Nat), ¬ v ∈ ([] : List Nat) by decide) (by decide) rfl sc_first_wrong_arc.nd (i_val (d_var (i := 4) (show ¬ 4 ∈ ([] : List Nat) by decide))) (blkOk_by (by kernel_rfl)) (fun _ _ _ _ _ => (g_name (i := 5) (show ¬ 5 ∈ ([] : List Nat) by decide) sc_first_wrong_arc.nd)) (fun _ _ _ _ _ => d_yes) (fun _ _ _ _ _ => (d_call (ok_is_below T) (hr.mono (by decide)) T.m_is_below T.F_is_below.kp T.b_is_below (fun σ => L2N.passAt takes0N σ) (a_cons (d_var (i := 5) (show ¬ 5 ∈ ([] : List Nat) by decide)) (a_cons (d_var (i := 0) (show ¬ 0 ∈ ([] : List Nat) by decide)) a_nil)))))))))))))
  (ss_cons (s_ret rfl (d_var (i := 3) (show ¬ 3 ∈ ([] : List Nat) by decide)))
  ss_nil)
  ss_nil)
  (ss_cons (s_if (DW.dt (dw_or (dt_cmp (ops_eqA) (op_eqA (u64 hr)) (d_ix (d_var (i := 4) (show ¬ 4 ∈ ([] : List Nat) by decide)) d_int) (d_ix (d_var (i := 4) (show ¬ 4 ∈ ([] : List Nat) by decide)) d_int) rfl) (dw_or1 (dt_cmp (ops_leA) (op_leA (u0 hr)) (d_var (i := 4) (show ¬ 4 ∈ ([] : List Nat) by decide)) (d_var (i := 2) (show ¬ 2 ∈ ([] : List Nat) by decide)) rfl))))
  (ss_cons (s_ret rfl (d_var (i := 3) (show ¬ 3 ∈ ([] : List Nat) by decide)))
  ss_nil)
  ss_nil)
  (ss_cons (s_set (i := 2) (show ¬ 2 ∈ ([] : List Nat) by decide) sc_first_wrong_arc.nd (d_var (i := 4) (show ¬ 4 ∈ ([] : List Nat) by decide)))
  ss_nil)))))
  (ss_cons (s_ret rfl d_non)
  ss_nil))))
theorem sc_Net_init : FnScope [(PySem.Str.ofString "self"), (PySem.Str.ofString "size"), (PySem.Str.ofString "arcs"), (PySem.Str.ofString "wrong"), (PySem.Str.ofString "place"), (PySem.Str.ofString "i"), (PySem.Str.ofString "j")] [(PySem.Str.ofString "self"), (PySem.Str.ofString "size"), (PySem.Str.ofString "arcs")] (defScope st_Net_init) := ⟨rfl, rfl, rfl, by decide +kernel, rfl, by decide +kernel, by decide +kernel⟩
theorem ok_Net_init (T : Txt G) : FnOk G.P G.w G.K G.mg G.base (L2N.CX G.P G.w) 3 T.f_Net_init T.fd_Net_init [(PySem.Str.ofString "self"), (PySem.Str.ofString "size"), (PySem.Str.ofString "arcs")] (spOf G [true, false, false] false fn_Net_init) :=
  fnok_of (G := G) (M := [0]) T.F_Net_init sc_Net_init rfl (by decide) (.inl rfl) fun cdv A outer s H E io Hv hio hr =>
  (ss_cons (s_if (DW.dt (dw_or (dt_not (dt_val (d_call (ok_is_below T) (hr.mono (by decide)) T.m_is_below T.F_is_below.kp T.b_is_below (fun σ => L2N.passAt (L2N.takes_of rfl rfl rfl rfl) σ) (a_cons (d_var (i := 1) (show ¬ 1 ∈ ([0] : List Nat) by decide)) (a_cons (d_add (d_globE T.c_MOST_PLACES repI) d_int) a_nil))))) (dw_or1 (dt_cmp (ops_ltA) (op_ltA (u0 hr)) (d_var (i := 1) (show ¬ 1 ∈ ([0] : List Nat) by decide)) d_int rfl))))
  (ss_cons (s_raise (c := 0) T.ox_InvalidNet T.oi_InvalidNet T.ot_InvalidNet T.ok_InvalidNet (hr.mono (by decide)) T.ob_InvalidNet T.om_InvalidNet T.ol_InvalidNet (by decide) rfl (L2N.takes_of rfl rfl rfl rfl) (a_cons d_str (a_cons d_int a_nil)))
  ss_nil)
  ss_nil)
  (ss_cons (s_set (i := 3) (show ¬ 3 ∈ ([0] : List Nat) by decide) sc_Net_init.nd (d_call (ok_first_wrong_arc T) (hr.mono (by decide)) T.m_first_wrong_arc T.F_first_wrong_arc.kp T.b_first_wrong_arc (fun σ => L2N.passAt (L2N.takes_of rfl rfl rfl rfl) σ) (a_cons (d_var (i := 1) (show ¬ 1 ∈ ([0] : List Nat) by decide)) (a_cons (d_var (i := 2) (show ¬ 2 ∈ ([0] : List Nat) by decide)) a_nil))))
  (ss_cons (s_if (dt_cmp ops_notN op_notN (d_var (i := 3) (show ¬ 3 ∈ ([0] : List Nat) by decide)) d_non rfl)
  (ss_cons (s_raise (c := 0) T.ox_InvalidNet T.oi_InvalidNet T.ot_InvalidNet T.ok_InvalidNet (hr.mono (by decide)) T.ob_InvalidNet T.om_InvalidNet T.ol_InvalidNet (by decide) rfl (L2N.takes_of rfl rfl rfl rfl) (a_cons d_str (a_cons (d_var (i := 3) (show ¬ 3 ∈ ([0] : List Nat) by decide)) a_nil)))
  ss_nil)
  ss_nil)
  (ss_cons (s_fldS (i := 0) (n := 0) (cs := [0]) (show 0 ∈ ([0] : List Nat) by decide) (d_var (i := 1) (show ¬ 1 ∈ ([0] : List Nat) by decide)) T.fx_size T.inj_size T.f1_Net_size)
  (ss_cons (s_fldS (i := 0) (n := 1) (cs := [0]) (show 0 ∈ ([0] : List Nat) by decide) (d_t1 (cas_tup rfl) call_tuple_of T.n_tuple (d_var (i := 2) (show ¬ 2 ∈ ([0] : List Nat) by decide))) T.fx_arcs T.inj_arcs T.f1_Net_arcs)
  (ss_cons (s_fldS (i := 0) (n := 2) (cs := [0]) (show 0 ∈ ([0] : List Nat) by decide) (d_t1 (cas_tup rfl) call_tuple_of T.n_tuple (DF.de (d_lc (own := [((PySem.Str.ofString "place"), 4)]) (show ∀ v ∈ ([4] : List Nat), ¬ v ∈ ([0] : List Nat) by decide) (by decide) rfl sc_Net_init.nd (i_range1 (d_var (i := 1) (show ¬ 1 ∈ ([0] : List Nat) by decide)) T.n_range) (blkOk_by (by kernel_rfl)) (fun _ _ _ _ _ => (g_name (i := 4) (show ¬ 4 ∈ ([0] : List Nat) by decide) sc_Net_init.nd)) (fun _ _ _ _ _ => d_yes) (fun _ _ _ _ _ => (d_t1 (cas_tup rfl) call_tuple_of T.n_tuple (DF.de (d_lc (own := [((PySem.Str.ofString "i"), 5), ((PySem.Str.ofString "j"), 6)]) (show ∀ v ∈ ([5, 6] : List Nat), ¬ v ∈ ([0] : List Nat) by decide) (by decide) rfl sc_Net_init.nd (i_val (d_attr (n := 1) (cs := [0]) (d_pl (i := 0) (show 0 ∈ ([0] : List Nat) by decide)) T.fx_arcs T.inj_arcs T.fc_arcs)) (blkOk_by (by kernel_rfl)) (fun _ _ _ _ _ => (g_tup rfl (gs_cons (i := 5) (show ¬ 5 ∈ ([0] : List Nat) by decide) sc_Net_init.nd (gs_cons (i := 6) (show ¬ 6 ∈ ([0] : List Nat) by decide) sc_Net_init.nd gs_nil)))) (fun _ _ _ _ _ => (pts1 (dt_cmp (ops_eqA) (op_eqA (u64 hr)) (d_var (i := 5) (show ¬ 5 ∈ ([0] : List Nat) by decide)) (d_var (i := 4) (show ¬ 4 ∈ ([0] : List Nat) by decide)) rfl))) (fun _ _ _ _ _ => (d_var (i := 6) (show ¬ 6 ∈ ([0] : List Nat) by decide)))))))))) T.fx_knows T.inj_knows T.f1_Net_knows)
  ss_nil))))))
theorem sc_stripped : FnScope [(PySem.Str.ofString "net"), (PySem.Str.ofString "places"), (PySem.Str.ofString "left"), (PySem.Str.ofString "before"), (PySem.Str.ofString "place"), (PySem.Str.ofString "other")] [(PySem.Str.ofString "net"), (PySem.Str.ofString "places")] (defScope st_stripped) := ⟨rfl, rfl, rfl, by decide +kernel, rfl, by decide +kernel, by decide +kernel⟩
theorem ok_stripped (T : Txt G) : FnOk G.P G.w G.K G.mg G.base (L2N.CX G.P G.w) 1 T.f_stripped T.fd_stripped [(PySem.Str.ofString "net"), (PySem.Str.ofString "places")] (spOf G [false, false] false fn_stripped) :=
  fnok_of (G := G) (M := []) T.F_stripped sc_stripped rfl (by decide) (.inl rfl) fun cdv A outer s H E io Hv hio hr =>
  (ss_cons (s_set (i := 2) (show ¬ 2 ∈ ([] : List Nat) by decide) sc_stripped.nd (DF.de (d_t1F (caf_lst rfl) call_list_of T.n_list (d_var (i := 1) (show ¬ 1 ∈ ([] : List Nat) by decide)))))
  (ss_cons (s_set (i := 3) (show ¬ 3 ∈ ([] : List Nat) by decide) sc_stripped.nd (d_add (d_b1 (cas_len rfl) call_len T.n_len (d_var (i := 2) (show ¬ 2 ∈ ([] : List Nat) by decide))) d_int))
  (ss_cons (s_kS (io_not (js := [false, false, false, false, false, false]) hio rfl) (s_while (passes_of rfl) (dt_cmp (ops_ltA) (op_ltA (u0 hr)) (d_b1 (cas_len rfl) call_len T.n_len (d_var (i := 2) (show ¬ 2 ∈ ([] : List Nat) by decide))) (d_var (i := 3) (show ¬ 3 ∈ ([] : List Nat) by decide)) rfl)
  (ss_sK (io_not (js := [false, false, false, false, false, false]) hio rfl) (ss_cons (s_set (i := 3) (show ¬ 3 ∈ ([] : List Nat) by decide) sc_stripped.nd (d_b1 (cas_len rfl) call_len T.n_len (d_var (i := 2) (show ¬ 2 ∈ ([] : List Nat) by decide))))
  (ss_cons (s_set (i := 2) (show ¬ 2 ∈ ([] : List Nat) by decide) sc_stripped.nd (DF.de (d_lc (own := [((PySem.Str.ofString "place"), 4)]) (show ∀ v ∈ ([4] : List Nat), ¬ v ∈ ([] : List Nat) by decide) (by decide) rfl sc_stripped.nd (i_val (d_var (i := 2) (show ¬ 2 ∈ ([] : List Nat) by decide))) (blkOk_by (by kernel_rfl)) (fun _ _ _ _ _ => (g_name (i := 4) (show ¬ 4 ∈ ([] : List Nat) by decide) sc_stripped.nd)) (fun _ _ _ _ _ => (pts1 (dt_val (d_b1 (cas_any rfl) (cr_any rfl) T.n_any (DF.de (d_lc (own := [((PySem.Str.ofString "other"), 5)]) (show ∀ v ∈ ([5] : List Nat), ¬ v ∈ ([] : List Nat) by decide) (by decide) rfl sc_stripped.nd (i_val (d_ix (d_attr (n := 2) (cs := [0]) (d_var (i := 0) (show ¬ 0 ∈ ([] : List Nat) by decide)) T.fx_knows T.inj_knows T.fc_knows) (d_var (i := 4) (show ¬ 4 ∈ ([] : List Nat) by decide)))) (blkOk_by (by kernel_rfl)) (fun _ _ _ _ _ => (g_name (i := 5) (show ¬ 5 ∈ ([] : List Nat) by decide) sc_stripped.nd)) (fun _ _ _ _ _ => d_yes) (fun _ _ _ _ _ => (d_cmp (ops_inA2) (op_inA2 (u65 hr)) (d_var (i := 5) (show ¬ 5 ∈ ([] : List Nat) by decide)) (d_var (i := 2) (show ¬ 2 ∈ ([] : List Nat) by decide)) rfl)))))))) (fun _ _ _ _ _ => (d_var (i := 4) (show ¬ 4 ∈ ([] : List Nat) by decide))))))
  ss_nil)))))
  (ss_cons (s_ret rfl (d_var (i := 2) (show ¬ 2 ∈ ([] : List Nat) by decide)))
  ss_nil))))
theorem sc_some_ring : FnScope [(PySem.Str.ofString "net"), (PySem.Str.ofString "left"), (PySem.Str.ofString "way"), (PySem.Str.ofString "_"), (PySem.Str.ofString "after"), (PySem.Str.ofString "other")] [(PySem.Str.ofString "net")] (defScope st_some_ring) := ⟨rfl, rfl, rfl, by decide +kernel, rfl, by decide +kernel, by decide +kernel⟩
theorem ok_some_ring (T : Txt G) : FnOk G.P G.w G.K G.mg G.base (L2N.CX G.P G.w) 2 T.f_some_ring T.fd_some_ring [(PySem.Str.ofString "net")] (spOf G [false] false fn_some_ring) :=
  fnok_of (G := G) (M := [2]) T.F_some_ring sc_some_ring rfl (by decide) (.inl rfl) fun cdv A outer s H E io Hv hio hr =>
  (ss_cons (s_set (i := 1) (show ¬ 1 ∈ ([2] : List Nat) by decide) sc_some_ring.nd (d_call (ok_stripped T) (hr.mono (by decide)) T.m_stripped T.F_stripped.kp T.b_stripped (fun σ => L2N.passAt (L2N.takes_of rfl rfl rfl rfl) σ) (a_cons (d_var (i := 0) (show ¬ 0 ∈ ([2] : List Nat) by decide)) (a_cons (DF.de (d_listRg (d_attr (n := 0) (cs := [0]) (d_var (i := 0) (show ¬ 0 ∈ ([2] : List Nat) by decide)) T.fx_size T.inj_size T.fc_size) T.n_list T.n_range)) a_nil))))
  (ss_cons (s_if (dt_not (dt_tru (d_var (i := 1) (show ¬ 1 ∈ ([2] : List Nat) by decide))))
  (ss_cons (s_ret rfl d_non)
  ss_nil)
  ss_nil)
  (ss_cons (s_setF (i := 2) (show 2 ∈ ([2] : List Nat) by decide) (io_ne hio (by decide)) sc_some_ring.nd (d_lst (a_cons (d_ix (d_var (i := 1) (show ¬ 1 ∈ ([2] : List Nat) by decide)) d_int) a_nil)))
  (ss_cons (s_for (passes_of rfl) rfl (i_iK (io_not (js := [false, false, false, true, true, false]) hio rfl) (i_range1 (d_attr (n := 0) (cs := [0]) (d_var (i := 0) (show ¬ 0 ∈ ([2] : List Nat) by decide)) T.fx_size T.inj_size T.fc_size) T.n_range)) (g_name (i := 3) (show ¬ 3 ∈ ([2] : List Nat) by decide) sc_some_ring.nd)
  (ss_sK (io_not (js := [false, false, false, true, true, false]) hio rfl) (ss_cons (s_set (i := 4) (show ¬ 4 ∈ ([2] : List Nat) by decide) sc_some_ring.nd (d_ix (DF.de (d_lc (own := [((PySem.Str.ofString "other"), 5)]) (show ∀ v ∈ ([5] : List Nat), ¬ v ∈ ([2] : List Nat) by decide) (by decide) rfl sc_some_ring.nd (i_val (d_ix (d_attr (n := 2) (cs := [0]) (d_var (i := 0) (show ¬ 0 ∈ ([2] : List Nat) by decide)) T.fx_knows T.inj_knows T.fc_knows) (d_ix (d_pl (i := 2) (show 2 ∈ ([2] : List Nat) by decide)) (d_neg d_int)))) (blkOk_by (by kernel_rfl)) (fun _ _ _ _ _ => (g_name (i := 5) (show ¬ 5 ∈ ([2] : List Nat) by decide) sc_some_ring.nd)) (fun _ _ _ _ _ => (pts1 (dt_cmp (ops_inA2) (op_inA2 (u65 hr)) (d_var (i := 5) (show ¬ 5 ∈ ([2] : List Nat) by decide)) (d_var (i := 1) (show ¬ 1 ∈ ([2] : List Nat) by decide)) rfl))) (fun _ _ _ _ _ => (d_var (i := 5) (show ¬ 5 ∈ ([2] : List Nat) by decide))))) d_int))
  (ss_cons (s_if (dt_cmp (ops_inA2) (op_inA2 (u65 hr)) (d_var (i := 4) (show ¬ 4 ∈ ([2] : List Nat) by decide)) (d_pl (i := 2) (show 2 ∈ ([2] : List Nat) by decide)) rfl)
  (ss_cons (s_ret rfl (d_t1 (cas_tup rfl) call_tuple_of T.n_tuple (DF.de (d_slF (d_pl (i := 2) (show 2 ∈ ([2] : List Nat) by decide)) (do_some (d_index (d_pl (i := 2) (show 2 ∈ ([2] : List Nat) by decide)) (d_var (i := 4) (show ¬ 4 ∈ ([2] : List Nat) by decide)))) do_none))))
  ss_nil)
  ss_nil)
  (ss_cons (s_expr (d_mut (i := 2) kd_lst tyV_lst mus_append mt_append F.plainAttrs_list F.slot_list_append F.type_list_append (show 2 ∈ ([2] : List Nat) by decide) (a_cons (d_var (i := 4) (show ¬ 4 ∈ ([2] : List Nat) by decide)) a_nil)))
  ss_nil)))))
  (ss_cons (s_ret rfl d_non)
  ss_nil)))))
theorem sc_law_knows : FnScope [(PySem.Str.ofString "_law_net"), (PySem.Str.ofString "_law_i"), (PySem.Str.ofString "_law_arc")] [(PySem.Str.ofString "_law_net"), (PySem.Str.ofString "_law_i")] (defScope st_law_knows) := ⟨rfl, rfl, rfl, by decide +kernel, rfl, by decide +kernel, by decide +kernel⟩
theorem ok_law_knows (T : Txt G) : FnOk G.P G.w G.K G.mg G.base (L2N.CX G.P G.w) 1 T.f_law_knows T.fd_law_knows [(PySem.Str.ofString "_law_net"), (PySem.Str.ofString "_law_i")] (spOf G [false, false] false fn_law_knows) :=
  fnok_of (G := G) (M := []) T.F_law_knows sc_law_knows rfl (by decide) (.inl rfl) fun cdv A outer s H E io Hv hio hr =>
  (ss_cons (s_ret rfl (d_t1 (cas_tup rfl) call_tuple_of T.n_tuple (DF.de (d_lc (own := [((PySem.Str.ofString "_law_arc"), 2)]) (show ∀ v ∈ ([2] : List Nat), ¬ v ∈ ([] : List Nat) by decide) (by decide) rfl sc_law_knows.nd (i_val (d_ix (d_var (i := 0) (show ¬ 0 ∈ ([] : List Nat) by decide)) d_int)) (blkOk_by (by kernel_rfl)) (fun _ _ _ _ _ => (g_name (i := 2) (show ¬ 2 ∈ ([] : List Nat) by decide) sc_law_knows.nd)) (fun _ _ _ _ _ => (pts1 (dt_cmp (ops_eqA) (op_eqA (u64 hr)) (d_ix (d_var (i := 2) (show ¬ 2 ∈ ([] : List Nat) by decide)) d_int) (d_var (i := 1) (show ¬ 1 ∈ ([] : List Nat) by decide)) rfl))) (fun _ _ _ _ _ => (d_ix (d_var (i := 2) (show ¬ 2 ∈ ([] : List Nat) by decide)) d_int))))))
  ss_nil)
theorem sc_law_walked : FnScope [(PySem.Str.ofString "_law_pool_here"), (PySem.Str.ofString "_law_net"), (PySem.Str.ofString "_law_row"), (PySem.Str.ofString "_law_k"), (PySem.Str.ofString "_law_ahead"), (PySem.Str.ofString "_law_there")] [(PySem.Str.ofString "_law_pool_here"), (PySem.Str.ofString "_law_net")] (defScope st_law_walked) := ⟨rfl, rfl, rfl, by decide +kernel, rfl, by decide +kernel, by decide +kernel⟩
theorem ok_law_walked (T : Txt G) : FnOk G.P G.w G.K G.mg G.base (L2N.CX G.P G.w) 2 T.f_law_walked T.fd_law_walked [(PySem.Str.ofString "_law_pool_here"), (PySem.Str.ofString "_law_net")] (spOf G [true, false] false fn_law_walked) :=
  fnok_of (G := G) (M := [0, 2]) T.F_law_walked sc_law_walked rfl (by decide) (.inl rfl) fun cdv A outer s H E io Hv hio hr =>
  (ss_cons (s_setF (i := 2) (show 2 ∈ ([0, 2] : List Nat) by decide) (io_ne hio (by decide)) sc_law_walked.nd (d_lst (a_cons (d_call (ok_law_draw T) (hr.mono (by decide)) T.m_law_draw T.F_law_draw.kp T.b_law_draw (fun σ => L2N.passAt (L2N.takes_of rfl rfl rfl rfl) σ) (a_cons (d_pl (i := 0) (show 0 ∈ ([0, 2] : List Nat) by decide)) (a_cons (d_ix (d_var (i := 1) (show ¬ 1 ∈ ([0, 2] : List Nat) by decide)) d_int) a_nil))) a_nil)))
  (ss_cons (s_for (passes_of rfl) rfl (i_iK (io_not (js := [false, false, false, true, true, true]) hio rfl) (i_range1 d_int T.n_range)) (g_name (i := 3) (show ¬ 3 ∈ ([0, 2] : List Nat) by decide) sc_law_walked.nd)
  (ss_sK (io_not (js := [false, false, false, true, true, true]) hio rfl) (ss_cons (s_set (i := 4) (show ¬ 4 ∈ ([0, 2] : List Nat) by decide) sc_law_walked.nd (d_call (ok_law_knows T) (hr.mono (by decide)) T.m_law_knows T.F_law_knows.kp T.b_law_knows (fun σ => L2N.passAt (L2N.takes_of rfl rfl rfl rfl) σ) (a_cons (d_var (i := 1) (show ¬ 1 ∈ ([0, 2] : List Nat) by decide)) (a_cons (d_ix (d_pl (i := 2) (show 2 ∈ ([0, 2] : List Nat) by decide)) (d_neg d_int)) a_nil))))
  (ss_cons (s_if (dt_cmp (ops_eqA) (op_eqA (u64 hr)) (d_b1 (cas_len rfl) call_len T.n_len (d_var (i := 4) (show ¬ 4 ∈ ([0, 2] : List Nat) by decide))) d_int rfl)
  (ss_cons (s_ret rfl (d_t1 (cas_tup rfl) call_tuple_of T.n_tuple (d_pl (i := 2) (show 2 ∈ ([0, 2] : List Nat) by decide))))
  ss_nil)
  ss_nil)
  (ss_cons (s_set (i := 5) (show ¬ 5 ∈ ([0, 2] : List Nat) by decide) sc_law_walked.nd (d_ix (d_var (i := 4) (show ¬ 4 ∈ ([0, 2] : List Nat) by decide)) (d_call (ok_law_draw T) (hr.mono (by decide)) T.m_law_draw T.F_law_draw.kp T.b_law_draw (fun σ => L2N.passAt (L2N.takes_of rfl rfl rfl rfl) σ) (a_cons (d_pl (i := 0) (show 0 ∈ ([0, 2] : List Nat) by decide)) (a_cons (d_b1 (cas_len rfl) call_len T.n_len (d_var (i := 4) (show ¬ 4 ∈ ([0, 2] : List Nat) by decide))) a_nil)))))
  (ss_cons (s_if (dt_cmp (ops_inA2) (op_inA2 (u65 hr)) (d_var (i := 5) (show ¬ 5 ∈ ([0, 2] : List Nat) by decide)) (d_pl (i := 2) (show 2 ∈ ([0, 2] : List Nat) by decide)) rfl)
  (ss_cons (s_ret rfl (d_t1 (cas_tup rfl) call_tuple_of T.n_tuple (DF.de (d_slF (d_pl (i := 2) (show 2 ∈ ([0, 2] : List Nat) by decide)) (do_some (d_index (d_pl (i := 2) (show 2 ∈ ([0, 2] : List Nat) by decide)) (d_var (i := 5) (show ¬ 5 ∈ ([0, 2] : List Nat) by decide)))) do_none))))
  ss_nil)
  ss_nil)
  (ss_cons (s_expr (d_mut (i := 2) kd_lst tyV_lst mus_append mt_append F.plainAttrs_list F.slot_list_append F.type_list_append (show 2 ∈ ([0, 2] : List Nat) by decide) (a_cons (d_var (i := 5) (show ¬ 5 ∈ ([0, 2] : List Nat) by decide)) a_nil)))
  ss_nil)))))))
  (ss_cons (s_ret rfl (d_t1 (cas_tup rfl) call_tuple_of T.n_tuple (d_pl (i := 2) (show 2 ∈ ([0, 2] : List Nat) by decide))))
  ss_nil)))
theorem sc_law_value : FnScope [(PySem.Str.ofString "_law_pool_here"), (PySem.Str.ofString "_law_net"), (PySem.Str.ofString "_law_ring"), (PySem.Str.ofString "_law_at"), (PySem.Str.ofString "_law_few"), (PySem.Str.ofString "_law_way"), (PySem.Str.ofString "_law_k")] [(PySem.Str.ofString "_law_pool_here"), (PySem.Str.ofString "_law_net")] (defScope st_law_value) := ⟨rfl, rfl, rfl, by decide +kernel, rfl, by decide +kernel, by decide +kernel⟩
theorem ok_law_value (T : Txt G) : FnOk G.P G.w G.K G.mg G.base (L2N.CX G.P G.w) 3 T.f_law_value T.fd_law_value [(PySem.Str.ofString "_law_pool_here"), (PySem.Str.ofString "_law_net")] (spOf G [true, false] false fn_law_value) :=
  fnok_of (G := G) (M := [0]) T.F_law_value sc_law_value rfl (by decide) (.inl rfl) fun cdv A outer s H E io Hv hio hr =>
  (ss_cons (s_set (i := 2) (show ¬ 2 ∈ ([0] : List Nat) by decide) sc_law_value.nd (d_call (ok_law_walked T) (hr.mono (by decide)) T.m_law_walked T.F_law_walked.kp T.b_law_walked (fun σ => L2N.passAt (L2N.takes_of rfl rfl rfl rfl) σ) (a_cons (d_pl (i := 0) (show 0 ∈ ([0] : List Nat) by decide)) (a_cons (d_var (i := 1) (show ¬ 1 ∈ ([0] : List Nat) by decide)) a_nil))))
  (ss_cons (s_set (i := 3) (show ¬ 3 ∈ ([0] : List Nat) by decide) sc_law_value.nd (d_call (ok_law_draw T) (hr.mono (by decide)) T.m_law_draw T.F_law_draw.kp T.b_law_draw (fun σ => L2N.passAt (L2N.takes_of rfl rfl rfl rfl) σ) (a_cons (d_pl (i := 0) (show 0 ∈ ([0] : List Nat) by decide)) (a_cons (d_b1 (cas_len rfl) call_len T.n_len (d_var (i := 2) (show ¬ 2 ∈ ([0] : List Nat) by decide))) a_nil))))
  (ss_cons (s_set (i := 4) (show ¬ 4 ∈ ([0] : List Nat) by decide) sc_law_value.nd (d_call (ok_law_draw T) (hr.mono (by decide)) T.m_law_draw T.F_law_draw.kp T.b_law_draw (fun σ => L2N.passAt (L2N.takes_of rfl rfl rfl rfl) σ) (a_cons (d_pl (i := 0) (show 0 ∈ ([0] : List Nat) by decide)) (a_cons d_int a_nil))))
  (ss_cons (s_set (i := 5) (show ¬ 5 ∈ ([0] : List Nat) by decide) sc_law_value.nd (d_call (ok_law_draw T) (hr.mono (by decide)) T.m_law_draw T.F_law_draw.kp T.b_law_draw (fun σ => L2N.passAt (L2N.takes_of rfl rfl rfl rfl) σ) (a_cons (d_pl (i := 0) (show 0 ∈ ([0] : List Nat) by decide)) (a_cons d_int a_nil))))
  (ss_cons (s_if (dt_cmp (ops_ltA) (op_ltA (u0 hr)) (d_var (i := 5) (show ¬ 5 ∈ ([0] : List Nat) by decide)) d_int rfl)
  (ss_cons (s_ret rfl (d_add (d_sl (d_var (i := 2) (show ¬ 2 ∈ ([0] : List Nat) by decide)) (do_some (d_var (i := 3) (show ¬ 3 ∈ ([0] : List Nat) by decide))) do_none) (d_sl (d_var (i := 2) (show ¬ 2 ∈ ([0] : List Nat) by decide)) do_none (do_some (d_var (i := 3) (show ¬ 3 ∈ ([0] : List Nat) by decide))))))
  ss_nil)
  ss_nil)
  (ss_cons (s_if (dt_cmp (ops_eqA) (op_eqA (u64 hr)) (d_var (i := 5) (show ¬ 5 ∈ ([0] : List Nat) by decide)) d_int rfl)
  (ss_cons (s_ret rfl (d_rev (d_var (i := 2) (show ¬ 2 ∈ ([0] : List Nat) by decide))))
  ss_nil)
  ss_nil)
  (ss_cons (s_if (dt_cmp (ops_eqA) (op_eqA (u64 hr)) (d_var (i := 5) (show ¬ 5 ∈ ([0] : List Nat) by decide)) d_int rfl)
  (ss_cons (s_ret rfl (d_add (d_sl (d_var (i := 2) (show ¬ 2 ∈ ([0] : List Nat) by decide)) do_none (do_some (d_var (i := 3) (show ¬ 3 ∈ ([0] : List Nat) by decide)))) (d_sl (d_var (i := 2) (show ¬ 2 ∈ ([0] : List Nat) by decide)) (do_some (d_add (d_var (i := 3) (show ¬ 3 ∈ ([0] : List Nat) by decide)) d_int)) do_none)))
  ss_nil)
  ss_nil)
  (ss_cons (s_if (dt_cmp (ops_eqA) (op_eqA (u64 hr)) (d_var (i := 5) (show ¬ 5 ∈ ([0] : List Nat) by decide)) d_int rfl)
  (ss_cons (s_ret rfl (d_add (d_var (i := 2) (show ¬ 2 ∈ ([0] : List Nat) by decide)) (d_sl (d_var (i := 2) (show ¬ 2 ∈ ([0] : List Nat) by decide)) (do_some (d_var (i := 3) (show ¬ 3 ∈ ([0] : List Nat) by decide))) do_none)))
  ss_nil)
  ss_nil)
  (ss_cons (s_if (dt_cmp (ops_eqA) (op_eqA (u64 hr)) (d_var (i := 5) (show ¬ 5 ∈ ([0] : List Nat) by decide)) d_int rfl)
  (ss_cons (s_ret rfl (d_add (d_add (d_sl (d_var (i := 2) (show ¬ 2 ∈ ([0] : List Nat) by decide)) do_none (do_some (d_var (i := 3) (show ¬ 3 ∈ ([0] : List Nat) by decide)))) (d_tup (a_cons (d_ix (DF.de (d_lst (a_cons (d_var (i := 4) (show ¬ 4 ∈ ([0] : List Nat) by decide)) (a_cons (d_neg d_int) (a_cons d_bl (a_cons d_non (a_cons d_str (a_cons (d_tup (a_cons d_int a_nil)) a_nil)))))))) (d_call (ok_law_draw T) (hr.mono (by decide)) T.m_law_draw T.F_law_draw.kp T.b_law_draw (fun σ => L2N.passAt (L2N.takes_of rfl rfl rfl rfl) σ) (a_cons (d_pl (i := 0) (show 0 ∈ ([0] : List Nat) by decide)) (a_cons d_int a_nil)))) a_nil))) (d_sl (d_var (i := 2) (show ¬ 2 ∈ ([0] : List Nat) by decide)) (do_some (d_add (d_var (i := 3) (show ¬ 3 ∈ ([0] : List Nat) by decide)) d_int)) do_none)))
  ss_nil)
  ss_nil)
  (ss_cons (s_if (dt_cmp (ops_eqA) (op_eqA (u64 hr)) (d_var (i := 5) (show ¬ 5 ∈ ([0] : List Nat) by decide)) d_int rfl)
  (ss_cons (s_ret rfl (d_ix (DF.de (d_lst (a_cons (DF.de (d_t1F (caf_lst rfl) call_list_of T.n_list (d_var (i := 2) (show ¬ 2 ∈ ([0] : List Nat) by decide)))) (a_cons d_non (a_cons (d_var (i := 4) (show ¬ 4 ∈ ([0] : List Nat) by decide)) (a_cons d_str (a_cons (d_ix (d_var (i := 2) (show ¬ 2 ∈ ([0] : List Nat) by decide)) d_int) (a_cons (d_tup a_nil) (a_cons (d_tup (a_cons (d_tup (a_cons d_int (a_cons d_int a_nil))) a_nil)) (a_cons d_bl a_nil)))))))))) (d_call (ok_law_draw T) (hr.mono (by decide)) T.m_law_draw T.F_law_draw.kp T.b_law_draw (fun σ => L2N.passAt (L2N.takes_of rfl rfl rfl rfl) σ) (a_cons (d_pl (i := 0) (show 0 ∈ ([0] : List Nat) by decide)) (a_cons d_int a_nil)))))
  ss_nil)
  ss_nil)
  (ss_cons (s_ret rfl (d_t1 (cas_tup rfl) call_tuple_of T.n_tuple (DF.de (d_lc (own := [((PySem.Str.ofString "_law_k"), 6)]) (show ∀ v ∈ ([6] : List Nat), ¬ v ∈ ([0] : List Nat) by decide) (by decide) rfl sc_law_value.nd (i_range1 (d_call (ok_law_draw T) (hr.mono (by decide)) T.m_law_draw T.F_law_draw.kp T.b_law_draw (fun σ => L2N.passAt (L2N.takes_of rfl rfl rfl rfl) σ) (a_cons (d_pl (i := 0) (show 0 ∈ ([0] : List Nat) by decide)) (a_cons d_int a_nil))) T.n_range) (blkOk_by (by kernel_rfl)) (fun _ _ _ _ _ => (g_name (i := 6) (show ¬ 6 ∈ ([0] : List Nat) by decide) sc_law_value.nd)) (fun _ _ _ _ _ => d_yes) (fun _ _ _ _ _ => (d_call (ok_law_draw T) (hr.mono (by decide)) T.m_law_draw T.F_law_draw.kp T.b_law_draw (fun σ => L2N.passAt takes0N σ) (a_cons (d_pl (i := 0) (show 0 ∈ ([0] : List Nat) by decide)) (a_cons (d_ix (d_var (i := 1) (show ¬ 1 ∈ ([0] : List Nat) by decide)) d_int) a_nil))))))))
  ss_nil)))))))))))
theorem sc_is_ring : FnScope [(PySem.Str.ofString "net"), (PySem.Str.ofString "value"), (PySem.Str.ofString "after"), (PySem.Str.ofString "place"), (PySem.Str.ofString "other")] [(PySem.Str.ofString "net"), (PySem.Str.ofString "value")] (defScope st_is_ring) := ⟨rfl, rfl, rfl, by decide +kernel, rfl, by decide +kernel, by decide +kernel⟩
theorem ok_is_ring (T : Txt G) : FnOk G.P G.w G.K G.mg G.base (L2N.CX G.P G.w) 2 T.f_is_ring T.fd_is_ring [(PySem.Str.ofString "net"), (PySem.Str.ofString "value")] (spOf G [false, false] false fn_is_ring) :=
  fnok_of (G := G) (M := []) T.F_is_ring sc_is_ring rfl (by decide) (.inl rfl) fun cdv A outer s H E io Hv hio hr =>
  (ss_cons (s_if (DW.dt (dw_or (dt_not (dt_val (d_isiO .tup [0] (d_var (i := 1) (show ¬ 1 ∈ ([] : List Nat) by decide)) T.n_isinstance T.n_tuple (by decide +kernel) (fun c hc => by
      rcases List.mem_cons.mp hc with rfl | hc
      · exact T.kt_Net_tuple
      · cases hc)))) (dw_or (dt_cmp (ops_eqA) (op_eqA (u64 hr)) (d_b1 (cas_len rfl) call_len T.n_len (d_var (i := 1) (show ¬ 1 ∈ ([] : List Nat) by decide))) d_int rfl) (dw_or1 (dt_not (dt_val (d_b1 (cas_all rfl) (cr_all rfl) T.n_all (DF.de (d_lc (own := [((PySem.Str.ofString "place"), 3)]) (show ∀ v ∈ ([3] : List Nat), ¬ v ∈ ([] : List Nat) by decide) (by decide) rfl sc_is_ring.nd (i_val (d_var (i := 1) (show ¬ 1 ∈ ([] : List Nat) by decide))) (blkOk_by (by kernel_rfl)) (fun _ _ _ _ _ => (g_name (i := 3) (show ¬ 3 ∈ ([] : List Nat) by decide) sc_is_ring.nd)) (fun _ _ _ _ _ => d_yes) (fun _ _ _ _ _ => (d_call (ok_is_below T) (hr.mono (by decide)) T.m_is_below T.F_is_below.kp T.b_is_below (fun σ => L2N.passAt takes0N σ) (a_cons (d_var (i := 3) (show ¬ 3 ∈ ([] : List Nat) by decide)) (a_cons (d_attr (n := 0) (cs := [0]) (d_var (i := 0) (show ¬ 0 ∈ ([] : List Nat) by decide)) T.fx_size T.inj_size T.fc_size) a_nil)))))))))))))
  (ss_cons (s_ret rfl d_bl)
  ss_nil)
  ss_nil)
  (ss_cons (s_if (dt_cmp (ops_ltA) (op_ltA (u0 hr)) (d_lenSet (d_var (i := 1) (show ¬ 1 ∈ ([] : List Nat) by decide)) T.n_len T.n_set) (d_b1 (cas_len rfl) call_len T.n_len (d_var (i := 1) (show ¬ 1 ∈ ([] : List Nat) by decide))) rfl)
  (ss_cons (s_ret rfl d_bl)
  ss_nil)
  ss_nil)
  (ss_cons (s_set (i := 2) (show ¬ 2 ∈ ([] : List Nat) by decide) sc_is_ring.nd (d_add (d_sl (d_var (i := 1) (show ¬ 1 ∈ ([] : List Nat) by decide)) (do_some d_int) do_none) (d_sl (d_var (i := 1) (show ¬ 1 ∈ ([] : List Nat) by decide)) do_none (do_some d_int))))
  (ss_cons (s_ret rfl (d_b1 (cas_all rfl) (cr_all rfl) T.n_all (DF.de (d_lc (own := [((PySem.Str.ofString "place"), 3), ((PySem.Str.ofString "other"), 4)]) (show ∀ v ∈ ([3, 4] : List Nat), ¬ v ∈ ([] : List Nat) by decide) (by decide) rfl sc_is_ring.nd (i_zip (d_var (i := 1) (show ¬ 1 ∈ ([] : List Nat) by decide)) (d_var (i := 2) (show ¬ 2 ∈ ([] : List Nat) by decide)) T.n_zip) (blkOk_by (by kernel_rfl)) (fun _ _ _ _ _ => (g_tup rfl (gs_cons (i := 3) (show ¬ 3 ∈ ([] : List Nat) by decide) sc_is_ring.nd (gs_cons (i := 4) (show ¬ 4 ∈ ([] : List Nat) by decide) sc_is_ring.nd gs_nil)))) (fun _ _ _ _ _ => d_yes) (fun _ _ _ _ _ => (d_cmp (ops_inA2) (op_inA2 (u65 hr)) (d_var (i := 4) (show ¬ 4 ∈ ([] : List Nat) by decide)) (d_ix (d_attr (n := 2) (cs := [0]) (d_var (i := 0) (show ¬ 0 ∈ ([] : List Nat) by decide)) T.fx_knows T.inj_knows T.fc_knows) (d_var (i := 3) (show ¬ 3 ∈ ([] : List Nat) by decide))) rfl))))))
  ss_nil))))
theorem sc_law_ringless : FnScope [(PySem.Str.ofString "_law_arcs_here"), (PySem.Str.ofString "_law_lot"), (PySem.Str.ofString "_law_left"), (PySem.Str.ofString "_law_k"), (PySem.Str.ofString "_law_ends"), (PySem.Str.ofString "_law_i"), (PySem.Str.ofString "_law_arc")] [(PySem.Str.ofString "_law_arcs_here"), (PySem.Str.ofString "_law_lot")] (defScope st_law_ringless) := ⟨rfl, rfl, rfl, by decide +kernel, rfl, by decide +kernel, by decide +kernel⟩
theorem ok_law_ringless (T : Txt G) : FnOk G.P G.w G.K G.mg G.base (L2N.CX G.P G.w) 1 T.f_law_ringless T.fd_law_ringless [(PySem.Str.ofString "_law_arcs_here"), (PySem.Str.ofString "_law_lot")] (spOf G [false, false] false fn_law_ringless) :=
  fnok_of (G := G) (M := []) T.F_law_ringless sc_law_ringless rfl (by decide) (.inl rfl) fun cdv A outer s H E io Hv hio hr =>
  (ss_cons (s_set (i := 2) (show ¬ 2 ∈ ([] : List Nat) by decide) sc_law_ringless.nd (DF.de (d_t1F (caf_lst rfl) call_list_of T.n_list (d_var (i := 1) (show ¬ 1 ∈ ([] : List Nat) by decide)))))
  (ss_cons (s_for (passes_of rfl) rfl (i_iK (io_not (js := [false, false, false, true, true, false, false]) hio rfl) (i_range1 (d_b1 (cas_len rfl) call_len T.n_len (d_var (i := 1) (show ¬ 1 ∈ ([] : List Nat) by decide))) T.n_range)) (g_name (i := 3) (show ¬ 3 ∈ ([] : List Nat) by decide) sc_law_ringless.nd)
  (ss_sK (io_not (js := [false, false, false, true, true, false, false]) hio rfl) (ss_cons (s_set (i := 4) (show ¬ 4 ∈ ([] : List Nat) by decide) sc_law_ringless.nd (DF.de (d_lc (own := [((PySem.Str.ofString "_law_i"), 5)]) (show ∀ v ∈ ([5] : List Nat), ¬ v ∈ ([] : List Nat) by decide) (by decide) rfl sc_law_ringless.nd (i_val (d_var (i := 2) (show ¬ 2 ∈ ([] : List Nat) by decide))) (blkOk_by (by kernel_rfl)) (fun _ _ _ _ _ => (g_name (i := 5) (show ¬ 5 ∈ ([] : List Nat) by decide) sc_law_ringless.nd)) (fun _ _ _ _ _ => (pts1 (dt_cmp (ops_eqA) (op_eqA (u64 hr)) (d_b1 (cas_len rfl) call_len T.n_len (DF.de (d_lc (own := [((PySem.Str.ofString "_law_arc"), 6)]) (show ∀ v ∈ ([6] : List Nat), ¬ v ∈ ([] : List Nat) by decide) (by decide) rfl sc_law_ringless.nd (i_val (d_var (i := 0) (show ¬ 0 ∈ ([] : List Nat) by decide))) (blkOk_by (by kernel_rfl)) (fun _ _ _ _ _ => (g_name (i := 6) (show ¬ 6 ∈ ([] : List Nat) by decide) sc_law_ringless.nd)) (fun _ _ _ _ _ => (pts1 (DW.dt (dw_and (dt_cmp (ops_eqA) (op_eqA (u64 hr)) (d_ix (d_var (i := 6) (show ¬ 6 ∈ ([] : List Nat) by decide)) d_int) (d_var (i := 5) (show ¬ 5 ∈ ([] : List Nat) by decide)) rfl) (dw_and1 (dt_cmp (ops_inA2) (op_inA2 (u65 hr)) (d_ix (d_var (i := 6) (show ¬ 6 ∈ ([] : List Nat) by decide)) d_int) (d_var (i := 2) (show ¬ 2 ∈ ([] : List Nat) by decide)) rfl)))))) (fun _ _ _ _ _ => (d_var (i := 6) (show ¬ 6 ∈ ([] : List Nat) by decide)))))) d_int rfl))) (fun _ _ _ _ _ => (d_var (i := 5) (show ¬ 5 ∈ ([] : List Nat) by decide))))))
  (ss_cons (s_set (i := 2) (show ¬ 2 ∈ ([] : List Nat) by decide) sc_law_ringless.nd (DF.de (d_lc (own := [((PySem.Str.ofString "_law_i"), 5)]) (show ∀ v ∈ ([5] : List Nat), ¬ v ∈ ([] : List Nat) by decide) (by decide) rfl sc_law_ringless.nd (i_val (d_var (i := 2) (show ¬ 2 ∈ ([] : List Nat) by decide))) (blkOk_by (by kernel_rfl)) (fun _ _ _ _ _ => (g_name (i := 5) (show ¬ 5 ∈ ([] : List Nat) by decide) sc_law_ringless.nd)) (fun _ _ _ _ _ => (pts1 (dt_cmp (ops_notInA2) (op_notInA2 (u65 hr)) (d_var (i := 5) (show ¬ 5 ∈ ([] : List Nat) by decide)) (d_var (i := 4) (show ¬ 4 ∈ ([] : List Nat) by decide)) rfl))) (fun _ _ _ _ _ => (d_var (i := 5) (show ¬ 5 ∈ ([] : List Nat) by decide))))))
  ss_nil))))
  (ss_cons (s_ret rfl (d_cmp (ops_eqA) (op_eqA (u64 hr)) (d_b1 (cas_len rfl) call_len T.n_len (d_var (i := 2) (show ¬ 2 ∈ ([] : List Nat) by decide))) d_int rfl))
  ss_nil)))
theorem sc_is_lot : FnScope [(PySem.Str.ofString "value"), (PySem.Str.ofString "size"), (PySem.Str.ofString "place"), (PySem.Str.ofString "one"), (PySem.Str.ofString "after")] [(PySem.Str.ofString "value"), (PySem.Str.ofString "size")] (defScope st_is_lot) := ⟨rfl, rfl, rfl, by decide +kernel, rfl, by decide +kernel, by decide +kernel⟩
theorem ok_is_lot (T : Txt G) : FnOk G.P G.w G.K G.mg G.base (L2N.CX G.P G.w) 2 T.f_is_lot T.fd_is_lot [(PySem.Str.ofString "value"), (PySem.Str.ofString "size")] (spOf G [false, false] false fn_is_lot) :=
  fnok_of (G := G) (M := []) T.F_is_lot sc_is_lot rfl (by decide) (.inl rfl) fun cdv A outer s H E io Hv hio hr =>
  (ss_cons (s_if (DW.dt (dw_or (dt_not (dt_val (d_isi .tup (d_var (i := 0) (show ¬ 0 ∈ ([] : List Nat) by decide)) T.n_isinstance T.n_tuple (by decide +kernel)))) (dw_or1 (dt_not (dt_val (d_b1 (cas_all rfl) (cr_all rfl) T.n_all (DF.de (d_lc (own := [((PySem.Str.ofString "place"), 2)]) (show ∀ v ∈ ([2] : List Nat), ¬ v ∈ ([] : List Nat) by decide) (by decide) rfl sc_is_lot.nd (i_val (d_var (i := 0) (show ¬ 0 ∈ ([] : List Nat) by decide))) (blkOk_by (by kernel_rfl)) (fun _ _ _ _ _ => (g_name (i := 2) (show ¬ 2 ∈ ([] : List Nat) by decide) sc_is_lot.nd)) (fun _ _ _ _ _ => d_yes) (fun _ _ _ _ _ => (d_call (ok_is_below T) (hr.mono (by decide)) T.m_is_below T.F_is_below.kp T.b_is_below (fun σ => L2N.passAt takes0N σ) (a_cons (d_var (i := 2) (show ¬ 2 ∈ ([] : List Nat) by decide)) (a_cons (d_var (i := 1) (show ¬ 1 ∈ ([] : List Nat) by decide)) a_nil))))))))))))
  (ss_cons (s_ret rfl d_bl)
  ss_nil)
  ss_nil)
  (ss_cons (s_ret rfl (d_b1 (cas_all rfl) (cr_all rfl) T.n_all (DF.de (d_lc (own := [((PySem.Str.ofString "one"), 3), ((PySem.Str.ofString "after"), 4)]) (show ∀ v ∈ ([3, 4] : List Nat), ¬ v ∈ ([] : List Nat) by decide) (by decide) rfl sc_is_lot.nd (i_zip (d_var (i := 0) (show ¬ 0 ∈ ([] : List Nat) by decide)) (d_sl (d_var (i := 0) (show ¬ 0 ∈ ([] : List Nat) by decide)) (do_some d_int) do_none) T.n_zip) (blkOk_by (by kernel_rfl)) (fun _ _ _ _ _ => (g_tup rfl (gs_cons (i := 3) (show ¬ 3 ∈ ([] : List Nat) by decide) sc_is_lot.nd (gs_cons (i := 4) (show ¬ 4 ∈ ([] : List Nat) by decide) sc_is_lot.nd gs_nil)))) (fun _ _ _ _ _ => d_yes) (fun _ _ _ _ _ => (d_cmp (ops_ltA) (op_ltA (u0 hr)) (d_var (i := 3) (show ¬ 3 ∈ ([] : List Nat) by decide)) (d_var (i := 4) (show ¬ 4 ∈ ([] : List Nat) by decide)) rfl))))))
  ss_nil))
theorem sc_can_order : FnScope [(PySem.Str.ofString "net"), (PySem.Str.ofString "lot")] [(PySem.Str.ofString "net"), (PySem.Str.ofString "lot")] (defScope st_can_order) := ⟨rfl, rfl, rfl, by decide +kernel, rfl, by decide +kernel, by decide +kernel⟩
theorem ok_can_order (T : Txt G) : FnOk G.P G.w G.K G.mg G.base (L2N.CX G.P G.w) 3 T.f_can_order T.fd_can_order [(PySem.Str.ofString "net"), (PySem.Str.ofString "lot")] (spOf G [false, false] false fn_can_order) :=
  fnok_of (G := G) (M := []) T.F_can_order sc_can_order rfl (by decide) (.inl rfl) fun cdv A outer s H E io Hv hio hr =>
  (ss_cons (s_if (dt_not (dt_val (d_call (ok_is_lot T) (hr.mono (by decide)) T.m_is_lot T.F_is_lot.kp T.b_is_lot (fun σ => L2N.passAt (L2N.takes_of rfl rfl rfl rfl) σ) (a_cons (d_var (i := 1) (show ¬ 1 ∈ ([] : List Nat) by decide)) (a_cons (d_attr (n := 0) (cs := [0]) (d_var (i := 0) (show ¬ 0 ∈ ([] : List Nat) by decide)) T.fx_size T.inj_size T.fc_size) a_nil)))))
  (ss_cons (s_raise (c := 1) T.ox_InvalidLot T.oi_InvalidLot T.ot_InvalidLot T.ok_InvalidLot (hr.mono (by decide)) T.ob_InvalidLot T.om_InvalidLot T.ol_InvalidLot (by decide) rfl (L2N.takes_of rfl rfl rfl rfl) (a_cons (d_var (i := 1) (show ¬ 1 ∈ ([] : List Nat) by decide)) a_nil))
  ss_nil)
  ss_nil)
  (ss_cons (s_ret rfl (d_cmp (ops_eqA) (op_eqA (u64 hr)) (d_b1 (cas_len rfl) call_len T.n_len (d_call (ok_stripped T) (hr.mono (by decide)) T.m_stripped T.F_stripped.kp T.b_stripped (fun σ => L2N.passAt (L2N.takes_of rfl rfl rfl rfl) σ) (a_cons (d_var (i := 0) (show ¬ 0 ∈ ([] : List Nat) by decide)) (a_cons (d_var (i := 1) (show ¬ 1 ∈ ([] : List Nat) by decide)) a_nil)))) d_int rfl))
  ss_nil))
theorem sc_law_kinds : FnScope [(PySem.Str.ofString "_law_e"), (PySem.Str.ofString "_law_kinds_here")] [(PySem.Str.ofString "_law_e")] (defScope st_law_kinds) := ⟨rfl, rfl, rfl, by decide +kernel, rfl, by decide +kernel, by decide +kernel⟩
theorem ok_law_kinds (T : Txt G) : FnP G.P G.w G.K G.mg G.base (L2N.CX G.P G.w) 1 T.f_law_kinds T.fd_law_kinds [(PySem.Str.ofString "_law_e")] (spP G 2 X_law_kinds) :=
  fnp_of (G := G) (M := [0, 1]) (n := 2) T.F_law_kinds sc_law_kinds (by decide) fun cdv A outer s H E Hv c fs a dd oe hgd hr hx => by
  have hio : ∀ p ∈ ([] : List (Nat × Addr)), ([false] : List Bool)[p.1]? = some true := fun p hp => absurd hp List.not_mem_nil
  exact (ss_cons (s_setF (i := 1) (show 1 ∈ ([0, 1] : List Nat) by decide) (io_ne hio (by decide)) sc_law_kinds.nd (d_lst (a_cons (d_isE hx rfl (show 0 ∈ ([0, 1] : List Nat) by decide) (t := tI_InvalidNumber) (.inl ⟨T.oy_InvalidNumber, _, rfl⟩) T.oi1_InvalidNumber T.n_isinstance) (a_cons (d_isE hx rfl (show 0 ∈ ([0, 1] : List Nat) by decide) (t := tI_InvalidMatrix) (.inl ⟨T.oy_InvalidMatrix, _, rfl⟩) T.oi1_InvalidMatrix T.n_isinstance) (a_cons (d_isE hx rfl (show 0 ∈ ([0, 1] : List Nat) by decide) (t := tI_InvalidAudience) (.inl ⟨T.oy_InvalidAudience, _, rfl⟩) T.oi1_InvalidAudience T.n_isinstance) a_nil)))))
  (ss_cons (s_setF (i := 1) (show 1 ∈ ([0, 1] : List Nat) by decide) (io_ne hio (by decide)) sc_law_kinds.nd (d_catF (d_pl (i := 1) (show 1 ∈ ([0, 1] : List Nat) by decide)) (DF.de (d_lst (a_cons (d_isE hx rfl (show 0 ∈ ([0, 1] : List Nat) by decide) (t := tI_InvalidNet) (.inl ⟨T.oy_InvalidNet, _, rfl⟩) T.oi1_InvalidNet T.n_isinstance) (a_cons (d_isE hx rfl (show 0 ∈ ([0, 1] : List Nat) by decide) (t := tI_InvalidLot) (.inl ⟨T.oy_InvalidLot, _, rfl⟩) T.oi1_InvalidLot T.n_isinstance) (a_cons (d_isE hx rfl (show 0 ∈ ([0, 1] : List Nat) by decide) (t := tI_InvalidWord) (.inl ⟨T.oy_InvalidWord, _, rfl⟩) T.oi1_InvalidWord T.n_isinstance) a_nil)))))))
  (ss_cons (s_setF (i := 1) (show 1 ∈ ([0, 1] : List Nat) by decide) (io_ne hio (by decide)) sc_law_kinds.nd (d_catF (d_pl (i := 1) (show 1 ∈ ([0, 1] : List Nat) by decide)) (DF.de (d_lst (a_cons (d_isE hx rfl (show 0 ∈ ([0, 1] : List Nat) by decide) (t := tI_InvalidWords) (.inl ⟨T.oy_InvalidWords, _, rfl⟩) T.oi1_InvalidWords T.n_isinstance) (a_cons (d_isE hx rfl (show 0 ∈ ([0, 1] : List Nat) by decide) (t := tI_InvalidSignals) (.inl ⟨T.oy_InvalidSignals, _, rfl⟩) T.oi1_InvalidSignals T.n_isinstance) (a_cons (d_isE hx rfl (show 0 ∈ ([0, 1] : List Nat) by decide) (t := tI_InvalidLosses) (.inl ⟨T.oy_InvalidLosses, _, rfl⟩) T.oi1_InvalidLosses T.n_isinstance) a_nil)))))))
  (ss_cons (s_setF (i := 1) (show 1 ∈ ([0, 1] : List Nat) by decide) (io_ne hio (by decide)) sc_law_kinds.nd (d_catF (d_pl (i := 1) (show 1 ∈ ([0, 1] : List Nat) by decide)) (DF.de (d_lst (a_cons (d_isE hx rfl (show 0 ∈ ([0, 1] : List Nat) by decide) (t := tI_InvalidText) (.inl ⟨T.oy_InvalidText, _, rfl⟩) T.oi1_InvalidText T.n_isinstance) (a_cons (d_isE hx rfl (show 0 ∈ ([0, 1] : List Nat) by decide) (t := tI_InvalidLine) (.inl ⟨T.oy_InvalidLine, _, rfl⟩) T.oi1_InvalidLine T.n_isinstance) (a_cons (d_isE hx rfl (show 0 ∈ ([0, 1] : List Nat) by decide) (t := tI_UnknownWord) (.inl ⟨T.oy_UnknownWord, _, rfl⟩) T.oi1_UnknownWord T.n_isinstance) a_nil)))))))
  (ss_cons (s_setF (i := 1) (show 1 ∈ ([0, 1] : List Nat) by decide) (io_ne hio (by decide)) sc_law_kinds.nd (d_catF (d_pl (i := 1) (show 1 ∈ ([0, 1] : List Nat) by decide)) (DF.de (d_lst (a_cons (d_isE hx rfl (show 0 ∈ ([0, 1] : List Nat) by decide) (t := tI_TooMany) (.inl ⟨T.oy_TooMany, _, rfl⟩) T.oi1_TooMany T.n_isinstance) (a_cons (d_isE hx rfl (show 0 ∈ ([0, 1] : List Nat) by decide) (t := tI_Undefined) (.inl ⟨T.oy_Undefined, _, rfl⟩) T.oi1_Undefined T.n_isinstance) (a_cons (d_isE hx rfl (show 0 ∈ ([0, 1] : List Nat) by decide) (t := tI_NothingToUndo) (.inl ⟨T.oy_NothingToUndo, _, rfl⟩) T.oi1_NothingToUndo T.n_isinstance) a_nil)))))))
  (ss_cons (s_expr (d_mut (i := 1) kd_lst tyV_lst mus_append mt_append F.plainAttrs_list F.slot_list_append F.type_list_append (show 1 ∈ ([0, 1] : List Nat) by decide) (a_cons (d_isE hx rfl (show 0 ∈ ([0, 1] : List Nat) by decide) (t := tI_InvalidDeed) (.inl ⟨T.oy_InvalidDeed, _, rfl⟩) T.oi1_InvalidDeed T.n_isinstance) a_nil)))
  (ss_cons (s_ret rfl (d_fz (i := 1) (show 1 ∈ ([0, 1] : List Nat) by decide) (io_ne hio (by decide))))
  ss_nil)))))))
theorem sc_law_alone : FnScope [(PySem.Str.ofString "_law_e"), (PySem.Str.ofString "_law_kind"), (PySem.Str.ofString "_law_kinds_here")] [(PySem.Str.ofString "_law_e"), (PySem.Str.ofString "_law_kind")] (defScope st_law_alone) := ⟨rfl, rfl, rfl, by decide +kernel, rfl, by decide +kernel, by decide +kernel⟩
theorem ok_law_alone (T : Txt G) : FnP G.P G.w G.K G.mg G.base (L2N.CX G.P G.w) 2 T.f_law_alone T.fd_law_alone [(PySem.Str.ofString "_law_e"), (PySem.Str.ofString "_law_kind")] (spPA G 2 1 X_law_alone) :=
  fnpa_of (G := G) (M := [0]) (n := 2) (m := 1) T.F_law_alone sc_law_alone rfl (by decide) (by decide) fun cdv A outer s H E Hv c fs a dd oe hgd hr hx => by
  have hio : ∀ p ∈ ([] : List (Nat × Addr)), ([false] : List Bool)[p.1]? = some true := fun p hp => absurd hp List.not_mem_nil
  exact (ss_cons (s_set (i := 2) (show ¬ 2 ∈ ([0] : List Nat) by decide) sc_law_alone.nd (d_callX hx rfl (show 0 ∈ ([0] : List Nat) by decide) (ok_law_kinds T) (roomM hr (by decide)) hgd T.m_law_kinds T.F_law_kinds.kp T.b_law_kinds))
  (ss_cons (s_ret rfl (d_and (d_isE hx rfl (show 0 ∈ ([0] : List Nat) by decide) (t := tI_SayError) (.inl ⟨T.oy_SayError, _, rfl⟩) T.oi1_SayError T.n_isinstance) (d_and (d_isE hx rfl (show 0 ∈ ([0] : List Nat) by decide) (t := tB_ValueError) (.inr ⟨T.n_ValueError, (by decide +kernel), (by decide), _, rfl⟩) T.ob1_ValueError T.n_isinstance) (d_and (d_ix (d_var (i := 2) (show ¬ 2 ∈ ([0] : List Nat) by decide)) (d_var (i := 1) (show ¬ 1 ∈ ([0] : List Nat) by decide))) (d_one (d_cmp (ops_eqA) (op_eqA (u64H hr)) (d_count (d_var (i := 2) (show ¬ 2 ∈ ([0] : List Nat) by decide)) d_bl) d_int rfl))))))
  ss_nil))
theorem sc_law_same : FnScope [(PySem.Str.ofString "_law_told"), (PySem.Str.ofString "_law_due"), (PySem.Str.ofString "_law_k")] [(PySem.Str.ofString "_law_told"), (PySem.Str.ofString "_law_due")] (defScope st_law_same) := ⟨rfl, rfl, rfl, by decide +kernel, rfl, by decide +kernel, by decide +kernel⟩
theorem okH_law_sameN (T : Txt G) : ∀ n, FnP G.P G.w G.K G.mg G.base (L2N.CX G.P G.w) (1 + n) T.f_law_same T.fd_law_same [(PySem.Str.ofString "_law_told"), (PySem.Str.ofString "_law_due")] (fun _ => spOf G [false, false] false (fn_law_sameN n))
  | 0 => fnp_bad (sp := fun _ => spOf G [false, false] false fun _ => .bad)
  | n + 1 => by
    have ih := okH_law_sameN T n
    exact fnph_of (G := G) (M := []) T.F_law_same sc_law_same rfl (by decide) (.inl rfl) fun cdv A outer s H E io Hv p hio hgd hr hph => by
      have hrec := hr
      exact (ss_cons (s_if (dt_val (d_isi2 .tup .lst (d_var (i := 1) (show ¬ 1 ∈ ([] : List Nat) by decide)) T.n_isinstance T.n_tuple (by decide +kernel) T.n_list (by decide +kernel)))
  (ss_cons (s_if (DW.dt (dw_or (dt_not (dt_val (d_isi2 .tup .lst (d_var (i := 0) (show ¬ 0 ∈ ([] : List Nat) by decide)) T.n_isinstance T.n_tuple (by decide +kernel) T.n_list (by decide +kernel)))) (dw_or1 (dt_cmp (ops_neA) (op_neA (u64H hr)) (d_isi .lst (d_var (i := 0) (show ¬ 0 ∈ ([] : List Nat) by decide)) T.n_isinstance T.n_list (by decide +kernel)) (d_isi .lst (d_var (i := 1) (show ¬ 1 ∈ ([] : List Nat) by decide)) T.n_isinstance T.n_list (by decide +kernel)) rfl))))
  (ss_cons (s_ret rfl d_bl)
  ss_nil)
  ss_nil)
  (ss_cons (s_if (dt_cmp (ops_neA) (op_neA (u64H hr)) (d_b1 (cas_len rfl) call_len T.n_len (d_var (i := 0) (show ¬ 0 ∈ ([] : List Nat) by decide))) (d_b1 (cas_len rfl) call_len T.n_len (d_var (i := 1) (show ¬ 1 ∈ ([] : List Nat) by decide))) rfl)
  (ss_cons (s_ret rfl d_bl)
  ss_nil)
  ss_nil)
  (ss_cons (s_forH (passes_of rfl) hph.hc (i_iKH (io_not (js := [false, false, true]) hio rfl) (i_range1H (d_b1 (cas_len rfl) call_len T.n_len (d_var (i := 1) (show ¬ 1 ∈ ([] : List Nat) by decide))) T.n_range)) (g_name (i := 2) (show ¬ 2 ∈ ([] : List Nat) by decide) sc_law_same.nd)
  (ss_sK (io_not (js := [false, false, true]) hio rfl) (ss_cons (s_if (dt_not (dt_val (d_callP hph ih hrec hgd T.m_law_same T.F_law_same.kp T.b_law_same (fun σ => L2N.passAt (L2N.takes_of rfl rfl rfl rfl) σ) (a_cons (d_ix (d_var (i := 0) (show ¬ 0 ∈ ([] : List Nat) by decide)) (d_var (i := 2) (show ¬ 2 ∈ ([] : List Nat) by decide))) (a_cons (d_ix (d_var (i := 1) (show ¬ 1 ∈ ([] : List Nat) by decide)) (d_var (i := 2) (show ¬ 2 ∈ ([] : List Nat) by decide))) a_nil)))))
  (ss_cons (s_ret rfl d_bl)
  ss_nil)
  ss_nil)
  ss_nil)))
  (ss_cons (s_ret rfl d_bl)
  ss_nil))))
  ss_nil)
  (ss_cons (s_if (dt_cmp ops_isN op_isN (d_var (i := 1) (show ¬ 1 ∈ ([] : List Nat) by decide)) d_non rfl)
  (ss_cons (s_ret rfl (d_cmp ops_isN op_isN (d_var (i := 0) (show ¬ 0 ∈ ([] : List Nat) by decide)) d_non rfl))
  ss_nil)
  ss_nil)
  (ss_cons (s_if (dt_val (d_isi .bl (d_var (i := 1) (show ¬ 1 ∈ ([] : List Nat) by decide)) T.n_isinstance T.n_bool (by decide +kernel)))
  (ss_cons (s_ret rfl (d_and (d_isi .bl (d_var (i := 0) (show ¬ 0 ∈ ([] : List Nat) by decide)) T.n_isinstance T.n_bool (by decide +kernel)) (d_one (d_cmp (ops_eqA) (op_eqA (u64H hr)) (d_var (i := 0) (show ¬ 0 ∈ ([] : List Nat) by decide)) (d_var (i := 1) (show ¬ 1 ∈ ([] : List Nat) by decide)) rfl))))
  ss_nil)
  ss_nil)
  (ss_cons (s_if (dt_val (d_isi .str (d_var (i := 1) (show ¬ 1 ∈ ([] : List Nat) by decide)) T.n_isinstance T.n_str (by decide +kernel)))
  (ss_cons (s_ret rfl (d_and (d_isi .str (d_var (i := 0) (show ¬ 0 ∈ ([] : List Nat) by decide)) T.n_isinstance T.n_str (by decide +kernel)) (d_one (d_cmp (ops_eqA) (op_eqA (u64H hr)) (d_var (i := 0) (show ¬ 0 ∈ ([] : List Nat) by decide)) (d_var (i := 1) (show ¬ 1 ∈ ([] : List Nat) by decide)) rfl))))
  ss_nil)
  ss_nil)
  (ss_cons (s_ret rfl (d_and (d_isi .int (d_var (i := 0) (show ¬ 0 ∈ ([] : List Nat) by decide)) T.n_isinstance T.n_int (by decide +kernel)) (d_and (d_not (d_isi .bl (d_var (i := 0) (show ¬ 0 ∈ ([] : List Nat) by decide)) T.n_isinstance T.n_bool (by decide +kernel))) (d_one (d_cmp (ops_eqA) (op_eqA (u64H hr)) (d_var (i := 0) (show ¬ 0 ∈ ([] : List Nat) by decide)) (d_var (i := 1) (show ¬ 1 ∈ ([] : List Nat) by decide)) rfl)))))
  ss_nil)))))
theorem okH_law_same (T : Txt G) : FnP G.P G.w G.K G.mg G.base (L2N.CX G.P G.w) 7 T.f_law_same T.fd_law_same [(PySem.Str.ofString "_law_told"), (PySem.Str.ofString "_law_due")] (fun _ => spOf G [false, false] false fn_law_same) := okH_law_sameN T 6
theorem sc_law_refused : FnScope [(PySem.Str.ofString "_law_helper"), (PySem.Str.ofString "_law_bad"), (PySem.Str.ofString "_law_e")] [(PySem.Str.ofString "_law_helper"), (PySem.Str.ofString "_law_bad")] (defScope st_law_refused) := ⟨rfl, rfl, rfl, by decide +kernel, rfl, by decide +kernel, by decide +kernel⟩
theorem ok_law_refused (T : Txt G) : FnG G.P G.w G.K G.mg G.base (L2N.CX G.P G.w) 8 T.f_law_refused T.fd_law_refused [(PySem.Str.ofString "_law_helper"), (PySem.Str.ofString "_law_bad")] (spOf G [false, false] false fn_law_refused) :=
  fng_of (G := G) (M := [2]) T.F_law_refused sc_law_refused rfl (by decide) (.inl rfl) fun cdv A outer s H E io Hv hio hgd hr =>
  (ss_cons (s_sKn (io_not (js := [false, false, false]) hio rfl) (s_try rfl rfl sc_law_refused.nd (L2N.takes_of rfl rfl rfl rfl) rfl (fun W1 pn1 xe1 tk1 hp1 =>
  (ss_cons (s_expr (d_call (ok_can_order T) (hr.mono (by decide)) T.m_can_order T.F_can_order.kp T.b_can_order (fun σ => L2N.passAt tk1 σ) (a_cons (d_var (i := 0) (show ¬ 0 ∈ ([2] : List Nat) by decide)) (a_cons (d_var (i := 1) (show ¬ 1 ∈ ([2] : List Nat) by decide)) a_nil))))
  ss_nil))
  (.named (i := 2) ⟨rfl, (by decide), .inl T.oy_SayError⟩ rfl rfl rfl (show 2 ∈ ([2] : List Nat) by decide) (io_ne hio (by decide)) T.oh_SayError (fun c fs a dd oe pn Hc Hvc ht hx =>
  (ss_cons (s_ret rfl (d_and (d_callXA hx rfl (show 2 ∈ ([2] : List Nat) by decide) (ok_law_alone T) (roomM (roomS hr) (by decide)) hgd T.m_law_alone T.F_law_alone.kp T.b_law_alone (a_cons d_int a_nil)) (d_one (d_callP hx.ph (okH_law_same T) (roomM (roomS hr) (by decide)) hgd T.m_law_same T.F_law_same.kp T.b_law_same (fun σ => L2N.passAt takesF σ) (a_cons (d_xf hx rfl (show 2 ∈ ([2] : List Nat) by decide) T.xg_value) (a_cons (d_var (i := 1) (show ¬ 1 ∈ ([2] : List Nat) by decide)) a_nil))))))
  ss_nil)) .nil)))
  (ss_cons (s_ret rfl d_bl)
  ss_nil))
theorem sc_law_is_ring : FnScope [(PySem.Str.ofString "_law_net"), (PySem.Str.ofString "_law_value_here"), (PySem.Str.ofString "_law_k")] [(PySem.Str.ofString "_law_net"), (PySem.Str.ofString "_law_value_here")] (defScope st_law_is_ring) := ⟨rfl, rfl, rfl, by decide +kernel, rfl, by decide +kernel, by decide +kernel⟩
theorem ok_law_is_ring (T : Txt G) : FnOk G.P G.w G.K G.mg G.base (L2N.CX G.P G.w) 1 T.f_law_is_ring T.fd_law_is_ring [(PySem.Str.ofString "_law_net"), (PySem.Str.ofString "_law_value_here")] (spOf G [false, false] false fn_law_is_ring) :=
  fnok_of (G := G) (M := []) T.F_law_is_ring sc_law_is_ring rfl (by decide) (.inl rfl) fun cdv A outer s H E io Hv hio hr =>
  (ss_cons (s_if (DW.dt (dw_or (dt_not (dt_val (d_isi .tup (d_var (i := 1) (show ¬ 1 ∈ ([] : List Nat) by decide)) T.n_isinstance T.n_tuple (by decide +kernel)))) (dw_or1 (dt_cmp (ops_eqA) (op_eqA (u64 hr)) (d_b1 (cas_len rfl) call_len T.n_len (d_var (i := 1) (show ¬ 1 ∈ ([] : List Nat) by decide))) d_int rfl))))
  (ss_cons (s_ret rfl d_bl)
  ss_nil)
  ss_nil)
  (ss_cons (s_for (passes_of rfl) rfl (i_iK (io_not (js := [false, false, true]) hio rfl) (i_range1 (d_b1 (cas_len rfl) call_len T.n_len (d_var (i := 1) (show ¬ 1 ∈ ([] : List Nat) by decide))) T.n_range)) (g_name (i := 2) (show ¬ 2 ∈ ([] : List Nat) by decide) sc_law_is_ring.nd)
  (ss_sK (io_not (js := [false, false, true]) hio rfl) (ss_cons (s_if (DW.dt (dw_or (dt_not (dt_val (d_isi .int (d_ix (d_var (i := 1) (show ¬ 1 ∈ ([] : List Nat) by decide)) (d_var (i := 2) (show ¬ 2 ∈ ([] : List Nat) by decide))) T.n_isinstance T.n_int (by decide +kernel)))) (dw_or (dt_val (d_isi .bl (d_ix (d_var (i := 1) (show ¬ 1 ∈ ([] : List Nat) by decide)) (d_var (i := 2) (show ¬ 2 ∈ ([] : List Nat) by decide))) T.n_isinstance T.n_bool (by decide +kernel))) (dw_or1 (dt_cmp (ops_inA2) (op_inA2 (u65 hr)) (d_ix (d_var (i := 1) (show ¬ 1 ∈ ([] : List Nat) by decide)) (d_var (i := 2) (show ¬ 2 ∈ ([] : List Nat) by decide))) (d_sl (d_var (i := 1) (show ¬ 1 ∈ ([] : List Nat) by decide)) do_none (do_some (d_var (i := 2) (show ¬ 2 ∈ ([] : List Nat) by decide)))) rfl)))))
  (ss_cons (s_ret rfl d_bl)
  ss_nil)
  ss_nil)
  ss_nil)))
  (ss_cons (s_for (passes_of rfl) rfl (i_iK (io_not (js := [false, false, true]) hio rfl) (i_range1 (d_b1 (cas_len rfl) call_len T.n_len (d_var (i := 1) (show ¬ 1 ∈ ([] : List Nat) by decide))) T.n_range)) (g_name (i := 2) (show ¬ 2 ∈ ([] : List Nat) by decide) sc_law_is_ring.nd)
  (ss_sK (io_not (js := [false, false, true]) hio rfl) (ss_cons (s_if (dt_cmp (ops_notInA2) (op_notInA2 (u65 hr)) (d_tup (a_cons (d_ix (d_var (i := 1) (show ¬ 1 ∈ ([] : List Nat) by decide)) (d_var (i := 2) (show ¬ 2 ∈ ([] : List Nat) by decide))) (a_cons (d_ix (d_var (i := 1) (show ¬ 1 ∈ ([] : List Nat) by decide)) (d_mod (d_t1 cas_int call_intA T.n_int (d_add (d_var (i := 2) (show ¬ 2 ∈ ([] : List Nat) by decide)) d_int)) (d_b1 (cas_len rfl) call_len T.n_len (d_var (i := 1) (show ¬ 1 ∈ ([] : List Nat) by decide))))) a_nil))) (d_ix (d_var (i := 0) (show ¬ 0 ∈ ([] : List Nat) by decide)) d_int) rfl)
  (ss_cons (s_ret rfl d_bl)
  ss_nil)
  ss_nil)
  ss_nil)))
  (ss_cons (s_ret rfl d_bl)
  ss_nil))))
theorem sc_law : FnScope [(PySem.Str.ofString "_law_script"), (PySem.Str.ofString "_law_pool_here"), (PySem.Str.ofString "_law_net"), (PySem.Str.ofString "_law_helper"), (PySem.Str.ofString "_law_k"), (PySem.Str.ofString "_law_value_here"), (PySem.Str.ofString "_law_told"), (PySem.Str.ofString "_law_ring"), (PySem.Str.ofString "_law_lot"), (PySem.Str.ofString "_law_one"), (PySem.Str.ofString "_law_bad"), (PySem.Str.ofString "_law_i")] [(PySem.Str.ofString "_law_script")] (defScope st_law) := ⟨rfl, rfl, rfl, by decide +kernel, rfl, by decide +kernel, by decide +kernel⟩
theorem ok_law (T : Txt G) : FnG G.P G.w G.K G.mg G.base (L2N.CX G.P G.w) 9 T.f_law T.fd_law [(PySem.Str.ofString "_law_script")] (spOf G [false] false fn_law) :=
  fng_of (G := G) (M := [1]) T.F_law sc_law rfl (by decide) (.inl rfl) fun cdv A outer s H E io Hv hio hgd hr =>
  (ss_cons (s_setF (i := 1) (show 1 ∈ ([1] : List Nat) by decide) (io_ne hio (by decide)) sc_law.nd (d_callF (ok_law_pool T) (hr.mono (by decide)) T.m_law_pool T.F_law_pool.kp T.b_law_pool (fun σ => L2N.passAt (L2N.takes_of rfl rfl rfl rfl) σ) (a_cons (d_var (i := 0) (show ¬ 0 ∈ ([1] : List Nat) by decide)) (a_cons d_int a_nil))))
  (ss_cons (s_set (i := 2) (show ¬ 2 ∈ ([1] : List Nat) by decide) sc_law.nd (d_call (ok_law_arcs T) (hr.mono (by decide)) T.m_law_arcs T.F_law_arcs.kp T.b_law_arcs (fun σ => L2N.passAt (L2N.takes_of rfl rfl rfl rfl) σ) (a_cons (d_pl (i := 1) (show 1 ∈ ([1] : List Nat) by decide)) (a_cons d_int (a_cons d_int a_nil)))))
  (ss_cons (s_set (i := 3) (show ¬ 3 ∈ ([1] : List Nat) by decide) sc_law.nd (DF.de (d_make (c := 0) 2 T.mk_Net (ok_Net_init T) (aLenC (aLenC aLenN)) (hr.mono (by decide)) T.m_Net T.b_Net_init (fun σ => L2N.passAt (L2N.takes_of rfl rfl rfl rfl) σ) (a_cons (d_ix (d_var (i := 2) (show ¬ 2 ∈ ([1] : List Nat) by decide)) d_int) (a_cons (d_ix (d_var (i := 2) (show ¬ 2 ∈ ([1] : List Nat) by decide)) d_int) a_nil)))))
  (ss_cons (s_for (passes_of rfl) rfl (i_iK (io_not (js := [false, false, false, false, true, true, true, false, false, false, false, false]) hio rfl) (i_range1 d_int T.n_range)) (g_name (i := 4) (show ¬ 4 ∈ ([1] : List Nat) by decide) sc_law.nd)
  (ss_sK (io_not (js := [false, false, false, false, true, true, true, false, false, false, false, false]) hio rfl) (ss_cons (s_set (i := 5) (show ¬ 5 ∈ ([1] : List Nat) by decide) sc_law.nd (d_call (ok_law_value T) (hr.mono (by decide)) T.m_law_value T.F_law_value.kp T.b_law_value (fun σ => L2N.passAt (L2N.takes_of rfl rfl rfl rfl) σ) (a_cons (d_pl (i := 1) (show 1 ∈ ([1] : List Nat) by decide)) (a_cons (d_var (i := 2) (show ¬ 2 ∈ ([1] : List Nat) by decide)) a_nil))))
  (ss_cons (s_set (i := 6) (show ¬ 6 ∈ ([1] : List Nat) by decide) sc_law.nd (d_call (ok_is_ring T) (hr.mono (by decide)) T.m_is_ring T.F_is_ring.kp T.b_is_ring (fun σ => L2N.passAt (L2N.takes_of rfl rfl rfl rfl) σ) (a_cons (d_var (i := 3) (show ¬ 3 ∈ ([1] : List Nat) by decide)) (a_cons (d_var (i := 5) (show ¬ 5 ∈ ([1] : List Nat) by decide)) a_nil))))
  (ss_cons (s_if (DW.dt (dw_or (dt_not (dt_val (d_isi .bl (d_var (i := 6) (show ¬ 6 ∈ ([1] : List Nat) by decide)) T.n_isinstance T.n_bool (by decide +kernel)))) (dw_or1 (dt_cmp (ops_neA) (op_neA (u64 hr)) (d_var (i := 6) (show ¬ 6 ∈ ([1] : List Nat) by decide)) (d_call (ok_law_is_ring T) (hr.mono (by decide)) T.m_law_is_ring T.F_law_is_ring.kp T.b_law_is_ring (fun σ => L2N.passAt (L2N.takes_of rfl rfl rfl rfl) σ) (a_cons (d_var (i := 2) (show ¬ 2 ∈ ([1] : List Nat) by decide)) (a_cons (d_var (i := 5) (show ¬ 5 ∈ ([1] : List Nat) by decide)) a_nil))) rfl))))
  (ss_cons (s_ret rfl d_bl)
  ss_nil)
  ss_nil)
  ss_nil)))))
  (ss_cons (s_set (i := 7) (show ¬ 7 ∈ ([1] : List Nat) by decide) sc_law.nd (d_call (ok_some_ring T) (hr.mono (by decide)) T.m_some_ring T.F_some_ring.kp T.b_some_ring (fun σ => L2N.passAt (L2N.takes_of rfl rfl rfl rfl) σ) (a_cons (d_var (i := 3) (show ¬ 3 ∈ ([1] : List Nat) by decide)) a_nil)))
  (ss_cons (s_if (dt_cmp (ops_neA) (op_neA (u64 hr)) (d_call (ok_law_ringless T) (hr.mono (by decide)) T.m_law_ringless T.F_law_ringless.kp T.b_law_ringless (fun σ => L2N.passAt (L2N.takes_of rfl rfl rfl rfl) σ) (a_cons (d_ix (d_var (i := 2) (show ¬ 2 ∈ ([1] : List Nat) by decide)) d_int) (a_cons (d_tupRg (d_ix (d_var (i := 2) (show ¬ 2 ∈ ([1] : List Nat) by decide)) d_int) T.n_tuple T.n_range) a_nil))) (d_cmp ops_isN op_isN (d_var (i := 7) (show ¬ 7 ∈ ([1] : List Nat) by decide)) d_non rfl) rfl)
  (ss_cons (s_ret rfl d_bl)
  ss_nil)
  ss_nil)
  (ss_cons (s_if (DW.dt (dw_and (dt_cmp ops_notN op_notN (d_var (i := 7) (show ¬ 7 ∈ ([1] : List Nat) by decide)) d_non rfl) (dw_and1 (dt_not (dt_val (d_call (ok_law_is_ring T) (hr.mono (by decide)) T.m_law_is_ring T.F_law_is_ring.kp T.b_law_is_ring (fun σ => L2N.passAt (L2N.takes_of rfl rfl rfl rfl) σ) (a_cons (d_var (i := 2) (show ¬ 2 ∈ ([1] : List Nat) by decide)) (a_cons (d_var (i := 7) (show ¬ 7 ∈ ([1] : List Nat) by decide)) a_nil))))))))
  (ss_cons (s_ret rfl d_bl)
  ss_nil)
  ss_nil)
  (ss_cons (s_for (passes_of rfl) rfl (i_iK (io_not (js := [false, false, false, false, true, false, true, false, true, false, false, false]) hio rfl) (i_range1 d_int T.n_range)) (g_name (i := 4) (show ¬ 4 ∈ ([1] : List Nat) by decide) sc_law.nd)
  (ss_sK (io_not (js := [false, false, false, false, true, false, true, false, true, false, false, false]) hio rfl) (ss_cons (s_set (i := 8) (show ¬ 8 ∈ ([1] : List Nat) by decide) sc_law.nd (d_t1 (cas_tup rfl) call_tuple_of T.n_tuple (DF.de (d_lc (own := [((PySem.Str.ofString "_law_i"), 11)]) (show ∀ v ∈ ([11] : List Nat), ¬ v ∈ ([1] : List Nat) by decide) (by decide) rfl sc_law.nd (i_range1 (d_ix (d_var (i := 2) (show ¬ 2 ∈ ([1] : List Nat) by decide)) d_int) T.n_range) (blkOk_by (by kernel_rfl)) (fun _ _ _ _ _ => (g_name (i := 11) (show ¬ 11 ∈ ([1] : List Nat) by decide) sc_law.nd)) (fun _ _ _ _ _ => (pts1 (dt_cmp ops_gt op_gt (d_call (ok_law_draw T) (hr.mono (by decide)) T.m_law_draw T.F_law_draw.kp T.b_law_draw (fun σ => L2N.passAt takes0N σ) (a_cons (d_pl (i := 1) (show 1 ∈ ([1] : List Nat) by decide)) (a_cons d_int a_nil))) d_int rfl))) (fun _ _ _ _ _ => (d_var (i := 11) (show ¬ 11 ∈ ([1] : List Nat) by decide)))))))
  (ss_cons (s_set (i := 6) (show ¬ 6 ∈ ([1] : List Nat) by decide) sc_law.nd (d_call (ok_can_order T) (hr.mono (by decide)) T.m_can_order T.F_can_order.kp T.b_can_order (fun σ => L2N.passAt (L2N.takes_of rfl rfl rfl rfl) σ) (a_cons (d_var (i := 3) (show ¬ 3 ∈ ([1] : List Nat) by decide)) (a_cons (d_var (i := 8) (show ¬ 8 ∈ ([1] : List Nat) by decide)) a_nil))))
  (ss_cons (s_if (DW.dt (dw_or (dt_not (dt_val (d_isi .bl (d_var (i := 6) (show ¬ 6 ∈ ([1] : List Nat) by decide)) T.n_isinstance T.n_bool (by decide +kernel)))) (dw_or1 (dt_cmp (ops_neA) (op_neA (u64 hr)) (d_var (i := 6) (show ¬ 6 ∈ ([1] : List Nat) by decide)) (d_call (ok_law_ringless T) (hr.mono (by decide)) T.m_law_ringless T.F_law_ringless.kp T.b_law_ringless (fun σ => L2N.passAt (L2N.takes_of rfl rfl rfl rfl) σ) (a_cons (d_ix (d_var (i := 2) (show ¬ 2 ∈ ([1] : List Nat) by decide)) d_int) (a_cons (d_var (i := 8) (show ¬ 8 ∈ ([1] : List Nat) by decide)) a_nil))) rfl))))
  (ss_cons (s_ret rfl d_bl)
  ss_nil)
  ss_nil)
  ss_nil)))))
  (ss_cons (s_set (i := 9) (show ¬ 9 ∈ ([1] : List Nat) by decide) sc_law.nd (d_call (ok_law_draw T) (hr.mono (by decide)) T.m_law_draw T.F_law_draw.kp T.b_law_draw (fun σ => L2N.passAt (L2N.takes_of rfl rfl rfl rfl) σ) (a_cons (d_pl (i := 1) (show 1 ∈ ([1] : List Nat) by decide)) (a_cons (d_ix (d_var (i := 2) (show ¬ 2 ∈ ([1] : List Nat) by decide)) d_int) a_nil))))
  (ss_cons (s_set (i := 10) (show ¬ 10 ∈ ([1] : List Nat) by decide) sc_law.nd (DF.de (d_lst (a_cons d_non (a_cons (d_tup (a_cons (d_var (i := 9) (show ¬ 9 ∈ ([1] : List Nat) by decide)) (a_cons (d_var (i := 9) (show ¬ 9 ∈ ([1] : List Nat) by decide)) a_nil))) (a_cons (DF.de (d_lst (a_cons (d_var (i := 9) (show ¬ 9 ∈ ([1] : List Nat) by decide)) a_nil))) (a_cons (d_tup (a_cons (d_ix (d_var (i := 2) (show ¬ 2 ∈ ([1] : List Nat) by decide)) d_int) a_nil)) (a_cons (d_tup (a_cons (d_neg d_int) (a_cons (d_var (i := 9) (show ¬ 9 ∈ ([1] : List Nat) by decide)) a_nil))) (a_cons d_str (a_cons (d_tup (a_cons d_bl a_nil)) (a_cons (d_tup (a_cons (d_var (i := 9) (show ¬ 9 ∈ ([1] : List Nat) by decide)) (a_cons d_int (a_cons d_int a_nil)))) (a_cons (d_tup (a_cons (d_tup a_nil) a_nil)) (a_cons d_int (a_cons (d_tup (a_cons (d_var (i := 9) (show ¬ 9 ∈ ([1] : List Nat) by decide)) (a_cons d_non a_nil))) a_nil))))))))))))))
  (ss_cons (s_ret rfl (d_and (d_cmp ops_isB op_isB (d_call (ok_is_ring T) (hr.mono (by decide)) T.m_is_ring T.F_is_ring.kp T.b_is_ring (fun σ => L2N.passAt (L2N.takes_of rfl rfl rfl rfl) σ) (a_cons (d_var (i := 3) (show ¬ 3 ∈ ([1] : List Nat) by decide)) (a_cons (d_var (i := 3) (show ¬ 3 ∈ ([1] : List Nat) by decide)) a_nil))) d_bl rfl) (d_one (d_callG (ok_law_refused T) (hr.mono (by decide)) hgd T.m_law_refused T.F_law_refused.kp T.b_law_refused (fun σ => L2N.passAt (L2N.takes_of rfl rfl rfl rfl) σ) (a_cons (d_var (i := 3) (show ¬ 3 ∈ ([1] : List Nat) by decide)) (a_cons (d_ix (d_var (i := 10) (show ¬ 10 ∈ ([1] : List Nat) by decide)) (d_call (ok_law_draw T) (hr.mono (by decide)) T.m_law_draw T.F_law_draw.kp T.b_law_draw (fun σ => L2N.passAt (L2N.takes_of rfl rfl rfl rfl) σ) (a_cons (d_pl (i := 1) (show 1 ∈ ([1] : List Nat) by decide)) (a_cons d_int a_nil)))) a_nil))))))
  ss_nil)))))))))))
end
end Lk09
namespace Lk09
open PySem KS KT KL KN
theorem pool {script : List Int} (hs : script.length ≤ 63) {many : Int} (m0 : 0 ≤ many) (m1 : many ≤ 10000) : Oks (T_law_pool script many) fun _ => True := by
  unfold T_law_pool
  refine oks_bind (P := fun s => s.1.length ≤ 4000) ?_ fun s hl => ?_
  · refine oks_fold (fun pre s => s.1.length ≤ 60 * pre.length) (by simp) ?_ fun s h => Nat.le_trans h (by omega)
    intro pre cell post s e h
    have hpre : pre.length + 1 ≤ 63 := by
      have := congrArg List.length e
      simp at this
      omega
    refine oks_bind (P := fun q : List Int => q.length ≤ s.1.length + 60) (oks_lt (oks_ifb (fun hb => oks_ck ?_ (oks_aft (P := fun w => match w with
      | .nx q => q.1.length ≤ s.1.length + 60
      | .brk q => q.1.length ≤ s.1.length + 60
      | .ret _ => False) ?_ (fun q h => oks_ok h) (fun q h => oks_ok h) (fun x h => h.elim))) fun hb => ?_)) fun q hq => oks_lt (oks_ok ?_)
    · unfold okR
      split <;> omega
    · refine oks_loop (fun pre2 q => q.1.length = s.1.length + pre2.length) (by simp) ?_ fun q hq => ?_
      · intro pre2 k post2 q e2 h2
        obtain ⟨_, hk, _⟩ := rng_snoc0 e2
        have hk : pre2.length < 60 := by split at hk <;> omega
        refine oks_ck (by unfold appC; omega) (oks_lt (oks_ifb (fun _ => oks_ok ?_) fun _ => oks_ok ?_))
        · dsimp only
          rw [List.length_append, List.length_singleton]; omega
        · dsimp only
          rw [List.length_append, List.length_append, List.length_singleton, List.length_singleton]; omega
      · show q.1.length ≤ s.1.length + 60
        rw [rng_len] at hq
        split at hq <;> omega
    · refine oks_lt (oks_ck (.inl (by omega)) (oks_lt (oks_ck (by unfold appC; omega) (oks_ck (by unfold appC; rw [List.length_append, List.length_singleton]; omega) (oks_ok ?_)))))
      rw [List.length_append, List.length_append, List.length_singleton, List.length_singleton]; omega
    · show q.length ≤ 60 * (pre ++ [cell]).length
      rw [List.length_append, List.length_singleton]; omega
  · refine oks_ck (by unfold okR; omega) (oks_bind (P := fun _ => True) ?_ fun s _ => oks_lt (oks_lt (oks_ok trivial)))
    refine oks_fold (fun pre q => q.1.length ≤ 4000 + pre.length) (by dsimp only; simpa using hl) ?_ fun _ _ => trivial
    intro pre k post q e h
    obtain ⟨_, hk, _⟩ := rng_snoc0 e
    refine oks_lt (oks_ck (by unfold appC; omega) (oks_ok ?_))
    dsimp only
    rw [List.length_append, List.length_append, List.length_singleton, List.length_singleton]; omega
theorem draw {pool : List Int} {many : Int} (h : 0 < many) : Oks (T_law_draw pool many) fun r => 0 ≤ r.1 ∧ r.1 < many := by
  unfold T_law_draw
  refine oks_ifb (fun _ => oks_ok ⟨by omega, h⟩) fun hb => ?_
  cases hg : pool.getLast? with
  | none => rw [List.getLast?_eq_none_iff] at hg; subst hg; simp at hb
  | some x => exact oks_opt rfl (oks_ck h (oks_ok ⟨Int.emod_nonneg x (by omega), Int.emod_lt_of_pos x h⟩))
def Pr (p : Int) : Prop := p ∈ ([2, 3, 5, 7, 11, 13] : List Int)
theorem Pr.lo {p : Int} (h : Pr p) : 1 < p ∧ p ≤ 13 := by
  unfold Pr at h; simp at h; omega
end Lk09
namespace Lk09
open PySem KS KT KL KN
theorem md {p x : Int} (h : 0 < p) : 0 ≤ x % p ∧ x % p < p := ⟨Int.emod_nonneg _ (by omega), Int.emod_lt_of_pos _ h⟩
theorem arcs (pool : List Int) {most : Int} (odds : Int) (m0 : 5 ≤ most) (m1 : most ≤ 12) : Oks (T_law_arcs pool most odds) fun r => VN r.1.1 r.1.2 ∧ r.1.1 ≤ most := by
  unfold T_law_arcs
  refine oks_call (draw (by omega)) fun r1 h1 => oks_lt ?_
  refine oks_bind (P := fun s => 1 ≤ s.2.1 ∧ s.2.1 ≤ most ∧ s.2.2.length ≤ 900 ∧ AK s.2.1 (s.2.2.map (·.1))) ?_ fun s h => ?_
  · refine oks_bind (P := fun _ => True) (oks_call (draw (by omega)) fun r2 _ => oks_ok trivial) fun x _ => oks_ifb (fun _ => ?_) fun _ => ?_
    · refine oks_call (draw (by omega)) fun r3 h3 => oks_call (draw (by omega)) fun r4 h4 => oks_lt ?_
      refine oks_bind (P := fun s => s.length ≤ 10 ∧ AK 5 (s.map (·.1))) ?_ fun s hs => ?_
      · refine oks_fold (fun pre s => s.length ≤ 2 * pre.length ∧ AK 5 (s.map (·.1))) ⟨by simp, AK.nil⟩ ?_ fun s h => ⟨by have := h.1; rw [rng_len] at this; omega, h.2⟩
        rintro pre k post s e ⟨hl, hs⟩
        obtain ⟨hk0, hk, _⟩ := rng_snoc0 e
        generalize hx : r3.1 + k * (1 + r4.1) = x
        have d1 : x % 5 ≠ (x + (1 + r4.1)) % 5 := by omega
        have l1 := put_len s (x % 5, (x + (1 + r4.1)) % 5) true
        have m1 := hs.put (k := (x % 5, (x + (1 + r4.1)) % 5)) (a := true) ⟨md (by omega), md (by omega), d1⟩
        refine oks_ck (.inl (by omega)) (oks_lt (oks_ck (.inl (by omega)) (oks_lt (oks_ck (by unfold appC; omega) (oks_lt (oks_ck (by unfold appC; omega) (oks_lt (oks_ok ?_))))))))
        refine ⟨?_, m1.put ⟨md (by omega), md (by omega), Ne.symm d1⟩⟩
        have l2 := put_len (putT s (x % 5, (x + (1 + r4.1)) % 5) true) ((x + (1 + r4.1)) % 5, x % 5) true
        simp only [List.length_append, List.length_singleton]
        omega
      · refine oks_call (draw (by omega)) fun r5 h5 => oks_ck (by unfold okR; omega) (oks_bind (P := fun s => s.2.length ≤ 14 ∧ AK 5 (s.2.map (·.1))) ?_ fun s h => oks_ok ⟨by dsimp only; omega, by dsimp only; omega, by have := h.1; dsimp only; omega, h.2⟩)
        refine oks_fold (fun pre s => s.2.length ≤ 10 + pre.length ∧ AK 5 (s.2.map (·.1))) ⟨hs.1, hs.2⟩ ?_ fun s h => ⟨by have := h.1; rw [rng_len] at this; omega, h.2⟩
        rintro pre k post s e ⟨hl, hs⟩
        obtain ⟨hk0, hk, _⟩ := rng_snoc0 e
        refine oks_call (draw (by omega)) fun r6 h6 => oks_call (draw (by omega)) fun r7 h7 => oks_lt ?_
        refine oks_ifb (fun hb => ?_) fun _ => ?_
        · obtain ⟨a, ha⟩ := get_has hb
          refine oks_opt ha (oks_ok ⟨?_, hs.del⟩)
          have := del_len s.2 (r6.1, (((r6.1 + 1) + r7.1) % 5))
          simp only [List.length_append, List.length_singleton]
          omega
        · have l1 := put_len s.2 (r6.1, (((r6.1 + 1) + r7.1) % 5)) true
          refine oks_ck (by unfold appC; omega) (oks_lt (oks_ok ⟨?_, hs.put ⟨h6, md (by omega), by dsimp only; omega⟩⟩))
          simp only [List.length_append, List.length_singleton]
          omega
    · refine oks_call (draw (by omega)) fun r3 h3 => ?_
      obtain ⟨d, ed, _, _⟩ := at_some (l := ([1, 2, 3, 5, 6] : List Int)) (i := r3.1) h3.1 (by simpa using h3.2)
      refine oks_opt ed (oks_ck (by unfold okR; omega) (oks_bind (P := fun s => s.2.length ≤ 144 ∧ AK (1 + r1.1) (s.2.map (·.1))) ?_ fun s h => oks_ok ⟨by dsimp only; omega, by dsimp only; omega, by have := h.1; dsimp only; omega, h.2⟩))
      refine oks_fold (fun pre s => s.2.length ≤ 12 * pre.length ∧ AK (1 + r1.1) (s.2.map (·.1))) ⟨by simp, AK.nil⟩ ?_ fun s h => ⟨by have := h.1; rw [rng_len] at this; omega, h.2⟩
      rintro pre k post s e ⟨hl, hs⟩
      obtain ⟨hk0, hk, _⟩ := rng_snoc0 e
      refine oks_ck (by unfold okR; omega) (oks_bind (P := fun s2 => s2.2.length ≤ 12 * pre.length + 12 ∧ AK (1 + r1.1) (s2.2.map (·.1))) ?_ fun s h => oks_ok ⟨by have := h.1; simp only [List.length_append, List.length_singleton]; omega, h.2⟩)
      refine oks_fold (fun pre2 s2 => s2.2.length ≤ 12 * pre.length + pre2.length ∧ AK (1 + r1.1) (s2.2.map (·.1))) ⟨by simpa using hl, hs⟩ ?_ fun s h => ⟨by have := h.1; rw [rng_len] at this; omega, h.2⟩
      rintro pre2 k2 post2 s2 e2 ⟨hl2, hs2⟩
      obtain ⟨hk20, hk2, _⟩ := rng_snoc0 e2
      refine oks_bind (P := fun q => q.1 = true → k ≠ k2) (oks_ifb (fun hne => oks_call (draw (by omega)) fun _ _ => oks_ok fun _ => by simpa using hne) fun _ => oks_ok fun h => by cases h) fun q hq => oks_ifb (fun hb => ?_) fun _ => oks_ok ⟨by simp only [List.length_append, List.length_singleton]; omega, hs2⟩
      have l1 := put_len s2.2 (k, k2) true
      refine oks_ck (by unfold appC; omega) (oks_lt (oks_ok ⟨by simp only [List.length_append, List.length_singleton]; omega, hs2.put ⟨⟨by dsimp only; omega, by dsimp only; omega⟩, ⟨by dsimp only; omega, by dsimp only; omega⟩, hq hb⟩⟩))
  · obtain ⟨h1, h2, h3, h4⟩ := h
    exact oks_ok ⟨h4.sort h1 (by omega) (by rw [List.length_map]; omega), h2⟩
end Lk09
namespace Lk09
open PySem KS KT KL KN
theorem no_ok {α β : Type} (l : α) (k : α → O β) : (O.ok l).no.bind k = k l := rfl
theorem decs_m {α : Type} {d : DV → Option α} {E : α → DV} (h : ∀ a, d (E a) = some a) : ∀ l : List α, decs d (l.map E) = some l
  | [] => rfl
  | a :: t => by
    show (match d (E a), decs d (t.map E) with
      | some a, some l => some (a :: l)
      | _, _ => none) = _
    rw [h a, decs_m h t]
theorem asT_word (w : List Int) : asT asI (eT eI w) = some w := decs_m (E := eI) (fun _ => rfl) w
theorem below (x m : Int) : T_is_below (eI x) m = .ok (decide (0 ≤ x) && decide (x < m)) := rfl
theorem wrong_arc {n : Int} {as : List (Int × Int)} (h : VN n as) {C : DV} (hC : C = .lst (as.map eA) ∨ C = .tup (as.map eA)) : T_first_wrong_arc n C = .ok none := by
  refine Oks.to ?_
  unfold T_first_wrong_arc
  have h1 : isiYs [.lst, .tup] C = some true := by rcases hC with rfl | rfl <;> rfl
  have h2 : seqY C = some (as.map eA) := by rcases hC with rfl | rfl <;> rfl
  refine oks_opt h1 (oks_ifb (fun h => by cases h) fun _ => oks_lt (oks_opt h2 ?_))
  refine oks_aft (P := fun w => match w with
    | .nx _ => True
    | .brk _ => True
    | .ret _ => False) ?_ (fun s _ => oks_ok rfl) (fun s _ => oks_ok rfl) (fun x h => h.elim)
  refine oks_loop (fun pre s => ∃ q, s = eA q ∧ ∀ a ∈ as.drop pre.length, ltP q a) ?_ ?_ fun s _ => trivial
  · refine ⟨(-1, -1), rfl, fun a ha => ?_⟩
    have := h.rng a (List.mem_of_mem_drop ha)
    exact .inl (by dsimp only; omega)
  · rintro pre p post s e ⟨q, rfl, hq⟩
    obtain ⟨_, hp⟩ := enum_snoc0 e
    rw [List.getElem?_map, Option.map_eq_some_iff] at hp
    obtain ⟨a, ha, he⟩ := hp
    have hd : as.drop pre.length = a :: as.drop (pre.length + 1) := by
      obtain ⟨hlt, rfl⟩ := List.getElem?_eq_some_iff.mp ha
      exact List.drop_eq_getElem_cons hlt
    have ham : a ∈ as := List.mem_of_getElem? ha
    have hr := h.rng a ham
    have hqa : ltP q a := hq a (by rw [hd]; exact List.mem_cons_self ..)
    have hnext : ∀ b ∈ as.drop (pre.length + 1), ltP a b := by
      have : (as.drop pre.length).Pairwise ltP := h.ord.sublist (List.drop_sublist ..)
      rw [hd, List.pairwise_cons] at this
      exact this.1
    rw [← he]
    refine oks_bind (P := fun p => p.1 = false) ?_ fun b hb => ?_
    · refine oks_opt (a := true) rfl (oks_ifb (fun h => by cases h) fun _ => ?_)
      refine oks_opt (a := 2) rfl (oks_ifb (fun h => by cases h) fun _ => ?_)
      refine oks_opt (a := [.int a.1, .int a.2]) rfl (oks_ck (show (2 : Nat) ≤ 16777216 by decide) ?_)
      refine oks_call (P := fun l => l.1 = [true, true]) ?_ fun l hl => oks_ok (by dsimp only; rw [hl]; rfl)
      refine ⟨([true, true], ()), ?_, rfl⟩
      unfold compT compT compT
      rw [show (DV.int a.1) = eI a.1 from rfl, show (DV.int a.2) = eI a.2 from rfl, below, below, decide_eq_true hr.1.1, decide_eq_true hr.1.2, decide_eq_true hr.2.1.1, decide_eq_true hr.2.1.2]
      rfl
    · rw [hb]
      refine oks_ifb (fun h => by cases h) fun _ => ?_
      refine oks_bind (P := fun p => p.1 = false) ?_ fun b hb => ?_
      · refine oks_opt (a := .int a.1) rfl (oks_opt (a := .int a.2) rfl (oks_opt (a := decide (a.1 = a.2)) (eqb_I ..) ?_))
        rw [decide_eq_false hr.2.2]
        refine oks_ifb (fun h => by cases h) fun _ => ?_
        refine oks_opt (le_arc a q) (oks_ok ?_)
        unfold ltP at hqa
        exact decide_eq_false (by omega)
      · rw [hb]
        refine oks_ifb (fun h => by cases h) fun _ => oks_ok ?_
        dsimp only
        refine ⟨a, rfl, ?_⟩
        rw [List.length_append]
        exact hnext
theorem init {n : Int} {as : List (Int × Int)} (h : VN n as) : T_Net_init n (eT eA as) = .ok ((), (n, as, kn n as)) := by
  refine Oks.to ?_
  unfold T_Net_init
  have lo := h.lo
  have hi := h.hi
  refine oks_call (Oks.eq (below n (12 + 1))) ?_
  rintro _ rfl
  refine oks_if (fun h2 => ?_) fun _ => ?_
  · exfalso
    simp at h2
    omega
  refine oks_call (Oks.eq (wrong_arc h (.inr rfl))) ?_
  rintro _ rfl
  refine oks_if (fun h2 => by cases h2) fun _ => oks_lt ?_
  refine oks_opt (a := eT eA as) rfl ?_
  refine oks_opt (a := as) (decs_m (d := asP2 asI asI) (E := eA) (fun a => rfl) as) (oks_lt ?_)
  have hl := h.len
  refine oks_ck (by unfold okR; omega) (oks_ck (by omega) (oks_ck ?_ (oks_lt (oks_ok rfl))))
  rw [rng_len]
  omega
abbrev NT (n : Int) (as : List (Int × Int)) : O_Net := (n, as, kn n as)
theorem is_lot {n : Int} (hn : n ≤ 100) (n0 : 0 ≤ n) {L : List Int} (h : LotOf n L) : T_is_lot (eT eI L) n = .ok true := by
  refine Oks.to ?_
  have hl := h.len n0
  unfold T_is_lot
  refine oks_bind (P := fun q => q.1 = false) (oks_opt (a := true) rfl (oks_ifb (fun h => by cases h) fun _ => oks_opt (a := L.map eI) rfl (oks_ck (by rw [List.length_map]; omega) ?_))) fun q hq => ?_
  · refine oks_call (P := fun o => ∀ b ∈ o.1, b = true) ?_ fun o ho => oks_ok ?_
    · refine oks_comp (fun _ out _ => ∀ b ∈ out, b = true) (fun _ h => nomatch h) ?_ fun out s h => h
      intro pre x post out s e hb
      have hx : x ∈ L.map eI := by rw [e]; simp
      obtain ⟨i, hi, rfl⟩ := List.mem_map.1 hx
      have := h.2 i hi
      rw [below, no_ok]
      refine oks_ok fun b hb' => ?_
      rcases List.mem_append.1 hb' with hb' | hb'
      · exact hb b hb'
      · simp at hb'; rw [hb']; simp; omega
    · rw [Bool.not_eq_false', List.all_eq_true]
      exact ho
  · rw [hq]
    refine oks_ifb (fun h => by cases h) fun _ => oks_opt (a := L.map eI) (by
      show decs some (L.map eI) = _
      have := decs_m (α := DV) (d := some) (E := fun v => v) (fun _ => rfl) (L.map eI)
      rwa [List.map_id'] at this) (oks_opt (a := L.map eI) (by
      show decs some (L.map eI) = _
      have := decs_m (α := DV) (d := some) (E := fun v => v) (fun _ => rfl) (L.map eI)
      rwa [List.map_id'] at this) (oks_ck (by rw [List.length_zip, List.length_map]; omega) ?_))
    refine oks_call (P := fun o => ∀ b ∈ o.1, b = true) ?_ fun o ho => oks_ok (by rw [List.all_eq_true]; exact ho)
    rw [show cutT (L.map eI) (some 1) none = (L.map eI).drop 1 from cut_from _ 1]
    refine oks_comp (fun _ out _ => ∀ b ∈ out, b = true) (fun _ h => nomatch h) ?_ fun out s h => h
    intro pre x post out s e hb
    have hx : ((L.map eI).zip ((L.map eI).drop 1))[pre.length]? = some x := by rw [e]; simp
    obtain ⟨h1, h2⟩ := List.getElem?_zip_eq_some.1 hx
    rw [List.getElem?_drop, Nat.add_comm] at h2
    rw [List.getElem?_map, Option.map_eq_some_iff] at h1 h2
    obtain ⟨a, ha, h1⟩ := h1
    obtain ⟨b, hb2, h2⟩ := h2
    rw [← h1, ← h2]
    obtain ⟨la, ea⟩ := List.getElem?_eq_some_iff.1 ha
    obtain ⟨lb, eb⟩ := List.getElem?_eq_some_iff.1 hb2
    have := List.pairwise_iff_getElem.1 h.1 pre.length (pre.length + 1) la lb (by omega)
    rw [ea, eb] at this
    refine oks_opt (a := a) rfl (oks_opt (a := b) rfl (oks_ok fun c hc => ?_))
    rcases List.mem_append.1 hc with hc | hc
    · exact hb c hc
    · simp at hc; rw [hc]; simp; omega
end Lk09
namespace Lk09
open PySem KS KT KL KN
theorem fm_self {α : Type} (c : α → Bool) (l : List α) : (l.filterMap fun x => if c x = true then some x else none) = l.filter c := by
  induction l with
  | nil => rfl
  | cons a l ih =>
    rw [List.filterMap_cons, List.filter_cons]
    cases hc : c a
    · simpa using ih
    · simpa using ih
/-- the places that know none of those left -/
theorem stripped {n : Int} {as : List (Int × Int)} (V : VN n as) {L : List Int} (hL : LotOf n L) (b : Bool) : Oks (T_stripped (NT n as) (b, L)) fun R => (∀ x ∈ R, x ∈ L) ∧ Stab as R ∧ ∀ S, Stab as S → (∀ x ∈ S, x ∈ L) → ∀ x ∈ S, x ∈ R := by
  have lo := V.lo
  have hi := V.hi
  have al := V.len
  have hl := hL.len (by omega)
  unfold T_stripped
  refine oks_lt (oks_lt ?_)
  refine oks_aft (P := fun w => match w with
    | .nx s => (∀ x ∈ s.1, x ∈ L) ∧ Stab as s.1 ∧ ∀ S, Stab as S → (∀ x ∈ S, x ∈ L) → ∀ x ∈ S, x ∈ s.1
    | .brk _ => False
    | .ret _ => False) ?_ (fun s h => oks_ok h) (fun s h => h.elim) (fun x h => h.elim)
  refine oks_while (fun s => LotOf n s.1 ∧ (∀ x ∈ s.1, x ∈ L) ∧ (∀ S, Stab as S → (∀ x ∈ S, x ∈ L) → ∀ x ∈ S, x ∈ s.1) ∧ ((s.1.length : Int) < s.2 ∨ Stab as s.1)) (fun s => s.2.toNat) (fun s hs => oks_ok ⟨fun hk => ?_, fun hk => ?_⟩) _ _ ⟨hL, fun _ h => h, fun S _ h => h, .inl (by dsimp only; omega)⟩ (by dsimp only; omega)
  · obtain ⟨h1, h2, h3, h4⟩ := hs
    have hk := of_decide_eq_true hk
    have hl1 := h1.len (by omega)
    refine oks_lt (oks_ck (by omega) ?_)
    rw [comp_eq (g := fun i => if (((kw as i).map fun j => memT j s.1).any id) = true then some i else none) fun i hi' => by
      have hb := h1.2 i hi'
      rw [kn_at hb.1 hb.2, opt_some, O.bind_ok, ck_pos (by have := kw_len (as := as) (i := i); omega)]
      split <;> rfl, no_ok]
    have ef := fm_self (fun i => ((kw as i).map fun j => memT j s.1).any id) s.1
    rw [ef]
    refine oks_ok ⟨⟨h1.filter _, fun x hx => h2 x (List.mem_filter.1 hx).1, fun S hS hs => stab_in hS (h3 S hS hs), ?_⟩, ?_⟩
    · dsimp only
      by_cases hlt : (s.1.filter fun i => ((kw as i).map fun j => memT j s.1).any id).length < s.1.length
      · exact .inl (by omega)
      · have he : (s.1.filter fun i => ((kw as i).map fun j => memT j s.1).any id) = s.1 := List.filter_eq_self.2 (List.length_filter_eq_length_iff.1 (by have := List.length_filter_le (fun i => ((kw as i).map fun j => memT j s.1).any id) s.1; omega))
        refine .inr ?_
        rw [he]
        intro i hi'
        rw [← he] at hi'
        obtain ⟨_, hc⟩ := List.mem_filter.1 hi'
        rw [List.any_eq_true] at hc
        obtain ⟨c, hc, hct⟩ := hc
        obtain ⟨j, hj, rfl⟩ := List.mem_map.1 hc
        exact ⟨j, hj, mem_T.1 hct⟩
    · show (s.1.length : Int).toNat < s.2.toNat
      omega
  · obtain ⟨h1, h2, h3, h4⟩ := hs
    have hk := of_decide_eq_false hk
    exact ⟨h2, h4.resolve_left hk, h3⟩
theorem can_order {n : Int} {as : List (Int × Int)} (V : VN n as) {L : List Int} (hL : LotOf n L) : Oks (T_can_order (NT n as) (eT eI L)) fun b => b = true ↔ NoRing as L := by
  have lo := V.lo
  have hi := V.hi
  unfold T_can_order
  rw [show (NT n as).1 = n from rfl, is_lot (by omega) (by omega) hL, no_ok]
  refine oks_ifb (fun h => by cases h) fun _ => oks_opt (a := (true, L)) (by
    show (decs asI (L.map eI)).map (fun l => (true, l)) = _
    rw [decs_m (E := eI) fun _ => rfl]; rfl) (oks_call (stripped V hL true) fun R hR => oks_ok ?_)
  obtain ⟨h1, h2, h3⟩ := hR
  rw [decide_eq_true_iff]
  constructor
  · intro h S hS hs
    have hR : R = [] := List.length_eq_zero_iff.1 (by omega)
    exact List.eq_nil_iff_forall_not_mem.2 fun x hx => by have := h3 S hS hs x hx; rw [hR] at this; cases this
  · intro h
    rw [h R h2 h1]; rfl
end Lk09
namespace Lk09
open PySem KS KT KL KN
def okV : Nat → DV → Bool
  | n + 1, .tup ds => decide (ds.length ≤ 1000000) && ds.all (okV n)
  | n + 1, .lst ds => decide (ds.length ≤ 1000000) && ds.all (okV n)
  | _ + 1, .non => true
  | _ + 1, .bl _ => true
  | _ + 1, .int _ => true
  | _ + 1, .str _ => true
  | _, _ => false
theorem okV_mono : ∀ {n : Nat} {v : DV}, okV n v = true → okV (n + 1) v = true
  | 0, v, h => by cases v <;> cases h
  | n + 1, .tup ds, h => by
    have h : (decide (ds.length ≤ 1000000) && ds.all (okV n)) = true := h
    show (decide (ds.length ≤ 1000000) && ds.all (okV (n + 1))) = true
    rw [Bool.and_eq_true, List.all_eq_true] at h ⊢
    exact ⟨h.1, fun d hd => okV_mono (h.2 d hd)⟩
  | n + 1, .lst ds, h => by
    have h : (decide (ds.length ≤ 1000000) && ds.all (okV n)) = true := h
    show (decide (ds.length ≤ 1000000) && ds.all (okV (n + 1))) = true
    rw [Bool.and_eq_true, List.all_eq_true] at h ⊢
    exact ⟨h.1, fun d hd => okV_mono (h.2 d hd)⟩
  | n + 1, .non, h => rfl
  | n + 1, .bl _, h => rfl
  | n + 1, .int _, h => rfl
  | n + 1, .str _, h => rfl
  | n + 1, .scr _, h => by cases h
  | n + 1, .obj _ _ _, h => by cases h
  | n + 1, .dct _ _, h => by cases h
theorem okV_le {n m : Nat} {v : DV} (hle : n ≤ m) (h : okV n v = true) : okV m v = true := by
  induction m with
  | zero => have : n = 0 := by omega
            subst this; exact h
  | succ m ih =>
    by_cases e : n = m + 1
    · subst e; exact h
    · exact okV_mono (ih (by omega))
theorem okV_tup {n : Nat} {ds : List DV} : okV (n + 1) (.tup ds) = true ↔ ds.length ≤ 1000000 ∧ ∀ d ∈ ds, okV n d = true := by
  show (decide (ds.length ≤ 1000000) && ds.all (okV n)) = true ↔ _
  rw [Bool.and_eq_true, List.all_eq_true, decide_eq_true_iff]
def isLet (p : Int) : DV → Bool
  | .int x => decide (0 ≤ x) && decide (x < p)
  | _ => false
theorem seq_loop {n : Nat} (ih : ∀ v, okV n v = true → T_law_sameN n v v = .ok true) {ds : List DV} {a : DV} (ha : ∀ i : Int, 0 ≤ i → i < ds.length → ixY a i = L2.atI ds i) (h : ∀ d ∈ ds, okV n d = true) : Oks ((loopT (ρ := Bool) (rngT 0 (ds.length : Int)) () fun k_25 (s_27 : Unit) =>
      (O.opt (ixY a k_25)).bind fun r_30 =>
      (O.opt (ixY a k_25)).bind fun r_32 =>
      (T_law_sameN n r_30 r_32).no.bind fun r_34 =>
      (if (!r_34) = true then
      .ok (.ret false)
      else .ok (.nx ()))).aft (fun s_28 =>
      .ok true) (fun r => .ok r)) (· = true) := by
  refine oks_aft (P := EndQ fun _ => True) ?_ (fun s _ => oks_ok rfl) (fun s _ => oks_ok rfl) (fun x h => h.elim)
  refine oks_loop (fun pre s => True) trivial ?_ fun s _ => trivial
  rintro pre i post s e _
  have hi : i ∈ rngT 0 (ds.length : Int) := by rw [e]; simp
  obtain ⟨i0, i1⟩ := mem_rng.mp hi
  obtain ⟨d, hd, md, _⟩ := at_some (l := ds) i0 i1
  have hat : ixY a i = some d := by rw [ha i i0 i1, hd]
  refine oks_opt hat (oks_opt hat (oks_call (Oks.eq (ih d (h d md))) ?_))
  rintro _ rfl
  exact oks_ifb (fun h => by cases h) fun _ => oks_ok trivial
theorem sameN : ∀ (n : Nat) (v : DV), okV n v = true → T_law_sameN n v v = .ok true
  | 0, v, h => by cases v <;> cases h
  | n + 1, v, h => by
    refine Oks.to ?_
    unfold T_law_sameN
    cases v with
    | non => exact oks_opt (a := false) rfl (oks_ifb (fun h => by cases h) fun _ => oks_ok rfl)
    | str x =>
      refine oks_opt (a := false) rfl (oks_ifb (fun h => by cases h) fun _ => oks_ifb (fun h => by cases h) fun _ => oks_opt (a := false) rfl (oks_ifb (fun h => by cases h) fun _ => oks_opt (a := true) rfl (oks_ifb (fun _ => ?_) fun h => by cases h)))
      refine oks_bind (P := (· = true)) (oks_opt (a := true) rfl (oks_ifb (fun _ => oks_opt (eqY_str x x) (oks_ok (decide_eq_true rfl))) fun h => by cases h)) ?_
      rintro _ rfl
      exact oks_ok rfl
    | bl x =>
      refine oks_opt (a := false) rfl (oks_ifb (fun h => by cases h) fun _ => oks_ifb (fun h => by cases h) fun _ => oks_opt (a := true) rfl (oks_ifb (fun _ => ?_) fun h => by cases h))
      refine oks_bind (P := (· = true)) (oks_opt (a := true) rfl (oks_ifb (fun _ => oks_opt (eqY_bl x x) (oks_ok (decide_eq_true rfl))) fun h => by cases h)) ?_
      rintro _ rfl
      exact oks_ok rfl
    | int x =>
      refine oks_opt (a := false) rfl (oks_ifb (fun h => by cases h) fun _ => oks_ifb (fun h => by cases h) fun _ => oks_opt (a := false) rfl (oks_ifb (fun h => by cases h) fun _ => oks_opt (a := false) rfl (oks_ifb (fun h => by cases h) fun _ => ?_)))
      refine oks_bind (P := (· = true)) (oks_opt (a := true) rfl (oks_ifb (fun _ => oks_opt (a := false) rfl (oks_ifb (fun _ => oks_opt (eqY_int x x) (oks_ok (decide_eq_true rfl))) fun h => by cases h)) fun h => by cases h)) ?_
      rintro _ rfl
      exact oks_ok rfl
    | tup ds =>
      obtain ⟨h1, h2⟩ := okV_tup.1 h
      refine oks_opt (a := true) rfl (oks_ifb (fun _ => ?_) fun h => by cases h)
      refine oks_bind (P := fun p => p.1 = false) (oks_opt (a := true) rfl (oks_ifb (fun h => by cases h) fun _ => oks_opt (a := false) rfl (oks_opt (a := false) rfl (oks_ok rfl)))) fun p hp => ?_
      rw [hp]
      refine oks_ifb (fun h => by cases h) fun _ => oks_opt (a := (ds.length : Int)) rfl (oks_opt (a := (ds.length : Int)) rfl (oks_ifb (fun h => by simp at h) fun _ => oks_opt (a := (ds.length : Int)) rfl (oks_ck (by unfold okR; omega) ?_)))
      exact seq_loop (sameN n) (a := .tup ds) (fun i _ _ => rfl) h2
    | lst ds =>
      have h : (decide (ds.length ≤ 1000000) && ds.all (okV n)) = true := h
      rw [Bool.and_eq_true, List.all_eq_true, decide_eq_true_iff] at h
      obtain ⟨h1, h2⟩ := h
      refine oks_opt (a := true) rfl (oks_ifb (fun _ => ?_) fun h => by cases h)
      refine oks_bind (P := fun p => p.1 = false) (oks_opt (a := true) rfl (oks_ifb (fun h => by cases h) fun _ => oks_opt (a := true) rfl (oks_opt (a := true) rfl (oks_ok rfl)))) fun p hp => ?_
      rw [hp]
      refine oks_ifb (fun h => by cases h) fun _ => oks_opt (a := (ds.length : Int)) rfl (oks_opt (a := (ds.length : Int)) rfl (oks_ifb (fun h => by simp at h) fun _ => oks_opt (a := (ds.length : Int)) rfl (oks_ck (by unfold okR; omega) ?_)))
      exact seq_loop (sameN n) (a := .lst ds) (fun i _ _ => rfl) h2
    | scr ns => cases h
    | obj c ns fs => cases h
    | dct ks vs => cases h
theorem same {v : DV} (h : okV 3 v = true) : T_law_same v v = .ok true := sameN 6 v (okV_le (by omega) h)
theorem belowV {n : Nat} {v : DV} (h : okV n v = true) (m : Int) : T_is_below v m = .ok (isLet m v) := by
  cases n with
  | zero => cases v <;> cases h
  | succ n => cases v <;> first | rfl | cases h
theorem lot_any {n : Int} {ds : List DV} (hok : ∀ d ∈ ds, okV 2 d = true) (hl : ds.length ≤ 1000) (h : ds.all (isLet n) = false) : T_is_lot (.tup ds) n = .ok false := by
  refine Oks.to ?_
  unfold T_is_lot
  refine oks_bind (P := fun q => q.1 = true) (oks_opt (a := true) rfl (oks_ifb (fun h => by cases h) fun _ => oks_opt (a := ds) rfl (oks_ck (by omega) ?_))) fun q hq => by rw [hq]; exact oks_ifb (fun _ => oks_ok rfl) fun h => by cases h
  rw [KT.comp_map (g := isLet n) fun d hd => by rw [belowV (hok d hd)]; rfl, no_ok]
  refine oks_ok ?_
  dsimp only
  rw [List.all_map]
  show (!(ds.all (isLet n))) = true
  rw [h]; rfl
theorem lot_pair {n a b : Int} (h : ¬ a < b) : T_is_lot (.tup [.int a, .int b]) n = .ok false := by
  by_cases hal : [DV.int a, DV.int b].all (isLet n) = true
  · refine Oks.to ?_
    unfold T_is_lot
    refine oks_bind (P := fun q => q.1 = false) (oks_opt (a := true) rfl (oks_ifb (fun h => by cases h) fun _ => oks_opt (a := [DV.int a, DV.int b]) rfl (oks_ck (show (2 : Nat) ≤ 16777216 by decide) ?_))) fun q hq => ?_
    · rw [KT.comp_map (g := isLet n) fun d hd => by
        have : okV 1 d = true := by
          simp only [List.mem_cons, List.not_mem_nil, or_false] at hd
          rcases hd with rfl | rfl <;> rfl
        rw [belowV this]; rfl, no_ok]
      refine oks_ok ?_
      dsimp only
      rw [List.all_map]
      show (!([DV.int a, DV.int b].all (isLet n))) = false
      rw [hal]; rfl
    · rw [hq]
      refine oks_ifb (fun h => by cases h) fun _ => oks_opt (a := [DV.int a, DV.int b]) rfl (oks_opt (a := [DV.int a, DV.int b]) rfl ?_)
      rw [show cutT [DV.int a, DV.int b] (some 1) none = [DV.int b] from cut_from _ 1]
      refine oks_ck (show (1 : Nat) ≤ 16777216 by decide) ?_
      rw [show ([DV.int a, DV.int b].zip [DV.int b]) = [(DV.int a, DV.int b)] from rfl, KT.comp_map (g := fun _ => false) fun q hq => by
        rw [List.mem_singleton.1 hq]
        show O.ok (some (decide (a < b)), ()) = _
        rw [decide_eq_false h], no_ok]
      exact oks_ok rfl
  · exact lot_any (fun d hd => by
      simp only [List.mem_cons, List.not_mem_nil, or_false] at hd
      rcases hd with rfl | rfl <;> rfl) (by simp) (by simpa using hal)
structure NoLot (n : Int) (v : DV) : Prop where
  ok : okV 3 v = true
  no : T_is_lot v n = .ok false
theorem lot_one {n : Int} {x : DV} (hx : okV 2 x = true) (h : isLet n x = false) : NoLot n (.tup [x]) := ⟨okV_tup.2 ⟨by simp, fun d hd => by rw [List.mem_singleton.1 hd]; exact hx⟩, lot_any (fun d hd => by rw [List.mem_singleton.1 hd]; exact hx) (by simp) (by simp [h])⟩
end Lk09
namespace Lk09
open PySem KS KT KL KN
theorem dd_lt {l : List Int} : (dd l).length < l.length ↔ ¬ l.Nodup := by
  constructor
  · intro h nd
    have := nodup_le1 nd (l' := dd l) fun x hx => mem_dd.2 hx
    omega
  · intro h
    refine Nat.lt_of_le_of_ne (dd_le l) fun e => h ?_
    have key : ∀ l : List Int, (dd l).length = l.length → l.Nodup := by
      intro l
      induction l with
      | nil => intro _; exact .nil
      | cons a l ih =>
        intro e
        unfold dd at e
        have := dd_le l
        split at e
        · simp only [List.length_cons] at e; omega
        · next ha => exact List.nodup_cons.2 ⟨ha, ih (by simpa using e)⟩
    exact key l e
/-- each knows the next one, the last one the first -/
def Cyc (as : List (Int × Int)) (xs : List Int) : Prop := ∀ p ∈ xs.zip (xs.drop 1 ++ xs.take 1), p ∈ as
def Rg (as : List (Int × Int)) (v : DV) : Prop := ∃ xs : List Int, v = eT eI xs ∧ xs ≠ [] ∧ xs.Nodup ∧ Cyc as xs
theorem aft_len {xs : List Int} : (xs.drop 1 ++ xs.take 1).length = xs.length := by
  rw [List.length_append, List.length_drop, List.length_take]; omega
theorem cyc_in {n : Int} {as : List (Int × Int)} (V : VN n as) {xs : List Int} (h : Cyc as xs) : ∀ x ∈ xs, 0 ≤ x ∧ x < n := fun x hx => by
  obtain ⟨k, hk, rfl⟩ := List.getElem_of_mem hx
  have hk2 : k < (xs.drop 1 ++ xs.take 1).length := by rw [aft_len]; exact hk
  have := h (xs[k], (xs.drop 1 ++ xs.take 1)[k]) (List.mem_of_getElem? (i := k) (by rw [List.getElem?_zip_eq_some]; exact ⟨List.getElem?_eq_getElem hk, List.getElem?_eq_getElem hk2⟩))
  exact (V.rng _ this).1
theorem lets {n : Int} : ∀ {ds : List DV}, (∀ d ∈ ds, isLet n d = true) → ∃ xs : List Int, ds = xs.map eI ∧ ∀ x ∈ xs, 0 ≤ x ∧ x < n
  | [], _ => ⟨[], rfl, (fun _ h => nomatch h)⟩
  | d :: ds, h => by
    obtain ⟨xs, e, hx⟩ := lets fun d hd => h d (.tail _ hd)
    have h0 := h d (.head _)
    cases d with
    | int x =>
      have h0 : (decide (0 ≤ x) && decide (x < n)) = true := h0
      rw [Bool.and_eq_true, decide_eq_true_iff, decide_eq_true_iff] at h0
      exact ⟨x :: xs, by rw [e]; rfl, fun y hy => by
        rcases List.mem_cons.1 hy with rfl | hy
        · exact h0
        · exact hx y hy⟩
    | _ => cases h0
theorem eI_inj : ∀ {xs ys : List Int}, xs.map eI = ys.map eI → xs = ys
  | [], [], _ => rfl
  | [], _ :: _, h => by cases h
  | _ :: _, [], h => by cases h
  | x :: xs, y :: ys, h => by
    rw [List.map_cons, List.map_cons] at h
    injection h with h1 h2
    cases h1
    rw [eI_inj h2]
theorem rg_tup {as : List (Int × Int)} {xs : List Int} : Rg as (eT eI xs) ↔ xs ≠ [] ∧ xs.Nodup ∧ Cyc as xs := by
  constructor
  · rintro ⟨ys, e, h⟩
    have e : DV.tup (xs.map eI) = DV.tup (ys.map eI) := e
    injection e with e
    rw [eI_inj e]; exact h
  · exact fun h => ⟨xs, rfl, h⟩
theorem decs_some : ∀ l : List DV, decs some l = some l
  | [] => rfl
  | d :: l => by unfold decs; rw [decs_some l]
def fz (as : List (Int × Int)) (p : DV × DV) : Bool := match p.1, p.2 with
  | .int x, .int y => memT y (kw as x)
  | _, _ => false
theorem is_ring {n : Int} {as : List (Int × Int)} (V : VN n as) {v : DV} (hv : okV 3 v = true) (hl : ∀ ds, v = .tup ds → ds.length ≤ 100) : Oks (T_is_ring (NT n as) v) fun b => b = true ↔ Rg as v := by
  have no : (∀ ds, v ≠ .tup ds) → Oks (T_is_ring (NT n as) v) fun b => b = true ↔ Rg as v := by
    intro hn
    have hr : ¬ Rg as v := fun ⟨xs, e, _⟩ => hn _ e
    unfold T_is_ring
    refine oks_bind (P := fun q => q.1 = true) ?_ fun q hq => by rw [hq]; exact oks_ifb (fun _ => oks_ok ⟨(fun h => by cases h), fun h => (hr h).elim⟩) fun h => by cases h
    refine oks_opt (a := false) ?_ (oks_ifb (fun _ => oks_ok rfl) fun h => by cases h)
    cases v with
    | tup ds => exact absurd rfl (hn ds)
    | obj c ns fs => cases hv
    | scr ns => cases hv
    | dct ks vs => cases hv
    | _ => rfl
  cases v with
  | tup ds =>
    have hl := hl ds rfl
    obtain ⟨_, hok⟩ := okV_tup.1 hv
    unfold T_is_ring
    by_cases h0 : ds = []
    · subst h0
      refine oks_bind (P := fun q => q.1 = true) (oks_opt (a := true) rfl (oks_ifb (fun h => by cases h) fun _ => oks_opt (a := 0) rfl (oks_if (fun _ => oks_ok rfl) fun h => absurd rfl h))) fun q hq => by
        rw [hq]
        refine oks_ifb (fun _ => oks_ok ⟨(fun h => by cases h), fun ⟨xs, e, hx, _⟩ => ?_⟩) fun h => by cases h
        cases xs with
        | nil => exact absurd rfl hx
        | cons x xs => cases e
    by_cases hal : ds.all (isLet n) = true
    · obtain ⟨xs, e, hx⟩ := lets (n := n) (fun d hd => (List.all_eq_true.1 hal) d hd)
      have hxl : xs.length ≤ 100 := by rw [e, List.length_map] at hl; exact hl
      have hx0 : xs ≠ [] := fun q => h0 (by rw [e, q]; rfl)
      refine oks_bind (P := fun q => q.1 = false) (oks_opt (a := true) rfl (oks_ifb (fun h => by cases h) fun _ => oks_opt (a := (ds.length : Int)) rfl (oks_if (fun h => absurd (List.length_eq_zero_iff.1 (by have := of_decide_eq_true h; omega)) h0) fun _ => oks_opt (a := ds) rfl (oks_ck (by omega) ?_)))) fun q hq => ?_
      · rw [KT.comp_map (g := isLet n) fun d hd => by rw [belowV (hok d hd)]; rfl, no_ok]
        refine oks_ok ?_
        dsimp only
        rw [List.all_map]
        show (!(ds.all (isLet n))) = false
        rw [hal]; rfl
      · rw [hq]
        refine oks_ifb (fun h => by cases h) fun _ => ?_
        refine oks_opt (a := xs) (by rw [e]; exact asT_word xs) (oks_ck (by omega) (oks_opt (a := (ds.length : Int)) rfl ?_))
        rw [e]
        refine oks_if (fun h => oks_ok ⟨(fun q => by cases q), fun q => ?_⟩) fun h => ?_
        · have h := of_decide_eq_true h
          rw [List.length_map] at h
          exact absurd (rg_tup.1 q).2.1 (dd_lt.1 (by omega))
        · have nd : xs.Nodup := Decidable.byContradiction fun q => h (by
            have := dd_lt.2 q
            rw [decide_eq_true_iff, List.length_map]; omega)
          refine oks_opt (a := xs.map eI) (decs_some _) (oks_opt (a := xs.map eI) (decs_some _) ?_)
          rw [show cutT (xs.map eI) (some 1) none = (xs.map eI).drop 1 from cut_from _ 1, show cutT (xs.map eI) none (some 1) = (xs.map eI).take 1 from cut_take _ 1]
          have ez : (xs.map eI).zip ((xs.map eI).drop 1 ++ (xs.map eI).take 1) = (xs.zip (xs.drop 1 ++ xs.take 1)).map (Prod.map eI eI) := by
            rw [← List.map_drop, ← List.map_take, ← List.map_append, List.zip_map]
          refine oks_ck (by
            unfold catC
            rw [List.length_drop, List.length_take, List.length_map]; omega) (oks_lt (oks_opt (a := xs.map eI) (decs_some _) ?_))
          rw [ez]
          refine oks_ck (by rw [List.length_map, List.length_zip]; omega) ?_
          rw [KT.comp_map (g := fz as) fun p hp => ?_, no_ok]
          · refine oks_ok ?_
            dsimp only
            rw [rg_tup, List.all_map, List.all_map, List.all_eq_true]
            constructor
            · intro h
              refine ⟨hx0, nd, fun p hp => ?_⟩
              exact mem_kw.1 (mem_T.1 (h p hp))
            · intro h p hp
              exact mem_T.2 (mem_kw.2 (h.2.2 p hp))
          · obtain ⟨⟨x, y⟩, hm, rfl⟩ := List.mem_map.1 hp
            have hb := hx x (List.of_mem_zip hm).1
            refine Oks.to (oks_opt (a := x) rfl (oks_opt (kn_at hb.1 hb.2) (oks_opt (a := y) rfl (oks_ok rfl))))
    · refine oks_bind (P := fun q => q.1 = true) (oks_opt (a := true) rfl (oks_ifb (fun h => by cases h) fun _ => oks_opt (a := (ds.length : Int)) rfl (oks_if (fun _ => oks_ok rfl) fun _ => oks_opt (a := ds) rfl (oks_ck (by omega) ?_)))) fun q hq => ?_
      · rw [KT.comp_map (g := isLet n) fun d hd => by rw [belowV (hok d hd)]; rfl, no_ok]
        refine oks_ok ?_
        dsimp only
        rw [List.all_map]
        show (!(ds.all (isLet n))) = true
        rw [Bool.not_eq_true _ |>.mp hal]; rfl
      · rw [hq]
        refine oks_ifb (fun _ => oks_ok ⟨(fun h => by cases h), fun ⟨xs, e, hx, _, hc⟩ => absurd ?_ hal⟩) fun h => by cases h
        have e : DV.tup ds = .tup (xs.map eI) := e
        injection e with e
        rw [e, List.all_eq_true]
        intro d hd
        obtain ⟨x, hx, rfl⟩ := List.mem_map.1 hd
        have := cyc_in V hc x hx
        show (decide (0 ≤ x) && decide (x < n)) = true
        rw [decide_eq_true this.1, decide_eq_true this.2]; rfl
  | obj c ns fs => cases hv
  | scr ns => cases hv
  | dct ks vs => cases hv
  | _ => exact no fun _ h => by cases h
theorem is_ring_obj (N : O_Net) : T_is_ring N (e_Net N) = .ok false := rfl
end Lk09
namespace Lk09
open PySem KS KT KL KN
theorem aft_ix {xs : List Int} {k : Nat} (hk : k < xs.length) : (xs.drop 1 ++ xs.take 1)[k]? = xs[(k + 1) % xs.length]? := by
  by_cases h : k + 1 < xs.length
  · rw [Nat.mod_eq_of_lt h, List.getElem?_append_left (by rw [List.length_drop]; omega), List.getElem?_drop, Nat.add_comm]
  · have e : k + 1 = xs.length := by omega
    rw [e, Nat.mod_self, List.getElem?_append_right (by rw [List.length_drop]; omega), List.length_drop, show k - (xs.length - 1) = 0 by omega, List.getElem?_take]
    rw [if_pos (by omega)]
theorem cyc_ix {as : List (Int × Int)} {xs : List Int} : Cyc as xs ↔ ∀ k : Nat, k < xs.length → (ix xs k, ix xs ((k + 1) % xs.length)) ∈ as := by
  have hz : ∀ k : Nat, (hk : k < xs.length) → (xs.zip (xs.drop 1 ++ xs.take 1))[k]? = some (ix xs k, ix xs ((k + 1) % xs.length)) := by
    intro k hk
    have hm : (k + 1) % xs.length < xs.length := Nat.mod_lt _ (by omega)
    rw [List.getElem?_zip_eq_some]
    refine ⟨?_, ?_⟩
    · rw [ix_in hk]
    · rw [aft_ix hk, ix_in hm]
  constructor
  · exact fun h k hk => h _ (List.mem_of_getElem? (hz k hk))
  · intro h p hp
    obtain ⟨k, hk, e⟩ := List.getElem_of_mem hp
    have hk' : k < xs.length := by rw [List.length_zip, aft_len] at hk; omega
    have := hz k hk'
    rw [List.getElem?_eq_getElem hk, e] at this
    rw [Option.some.inj this]
    exact h k hk'
theorem atd {ds : List DV} {k : Nat} (hk : k < ds.length) : ixY (.tup ds) (k : Int) = some ds[k] := by
  show L2.atI ds (k : Int) = _
  rw [at_nat (by omega) (by omega), show ((k : Int)).toNat = k by omega, List.getElem?_eq_getElem hk]
theorem take_map {ds : List DV} {xs ys : List Int} {k : Nat} (e : ds = ys.map eI) (h : ds.take k = xs.map eI) : xs = ys.take k := eI_inj (by rw [← h, e, List.map_take])
theorem law_is_ring {n : Int} {as : List (Int × Int)} {v : DV} (hv : okV 3 v = true) (hl : ∀ ds, v = .tup ds → ds.length ≤ 100) : Oks (T_law_is_ring (n, as) v) fun b => b = true ↔ Rg as v := by
  have no : (∀ ds, v ≠ .tup ds) → Oks (T_law_is_ring (n, as) v) fun b => b = true ↔ Rg as v := by
    intro hn
    have hr : ¬ Rg as v := fun ⟨xs, e, _⟩ => hn _ e
    unfold T_law_is_ring
    refine oks_bind (P := fun q => q.1 = true) ?_ fun q hq => by rw [hq]; exact oks_ifb (fun _ => oks_ok ⟨(fun h => by cases h), fun h => (hr h).elim⟩) fun h => by cases h
    refine oks_opt (a := false) ?_ (oks_ifb (fun _ => oks_ok rfl) fun h => by cases h)
    cases v with
    | tup ds => exact absurd rfl (hn ds)
    | obj c ns fs => cases hv
    | scr ns => cases hv
    | dct ks vs => cases hv
    | _ => rfl
  cases v with
  | tup ds =>
    have hl := hl ds rfl
    obtain ⟨_, hok⟩ := okV_tup.1 hv
    unfold T_law_is_ring
    by_cases h0 : ds = []
    · subst h0
      refine oks_bind (P := fun q => q.1 = true) (oks_opt (a := true) rfl (oks_ifb (fun h => by cases h) fun _ => oks_opt (a := 0) rfl (oks_ok rfl))) fun q hq => by
        rw [hq]
        refine oks_ifb (fun _ => oks_ok ⟨(fun h => by cases h), fun ⟨xs, e, hx, _⟩ => ?_⟩) fun h => by cases h
        cases xs with
        | nil => exact absurd rfl hx
        | cons x xs => cases e
    have hp : 0 < ds.length := List.length_pos_iff.2 h0
    refine oks_bind (P := fun q => q.1 = false) (oks_opt (a := true) rfl (oks_ifb (fun h => by cases h) fun _ => oks_opt (a := (ds.length : Int)) rfl (oks_ok (decide_eq_false (by omega))))) fun q hq => ?_
    rw [hq]
    refine oks_ifb (fun h => by cases h) fun _ => oks_opt (a := (ds.length : Int)) rfl (oks_ck (by unfold okR; omega) ?_)
    refine oks_aft (P := fun w => match w with
      | .nx _ => ∃ xs : List Int, ds = xs.map eI ∧ xs.Nodup
      | .brk _ => False
      | .ret r => r = false ∧ ¬ ∃ xs : List Int, ds = xs.map eI ∧ xs.Nodup) ?_ ?_ (fun s h => h.elim) ?_
    · refine oks_loop (fun pre _ => ∃ xs : List Int, ds.take pre.length = xs.map eI ∧ xs.Nodup) ⟨[], rfl, .nil⟩ ?_ ?_
      · rintro pre k post ⟨⟩ e ⟨xs, hx, nd⟩
        obtain ⟨rfl, hk, _⟩ := rng_snoc0 e
        have hk : pre.length < ds.length := by omega
        have bad : (∀ x : Int, ds[pre.length] ≠ .int x) → ¬ ∃ xs : List Int, ds = xs.map eI ∧ xs.Nodup := by
          rintro hb ⟨ys, e, _⟩
          have : pre.length < ys.length := by rw [e, List.length_map] at hk; exact hk
          refine hb ys[pre.length] ?_
          simp only [e, List.getElem_map]
        refine oks_bind (P := fun q => (q.1 = true ∧ ¬ ∃ xs : List Int, ds = xs.map eI ∧ xs.Nodup) ∨ (q.1 = false ∧ ∃ xs : List Int, ds.take (pre.length + 1) = xs.map eI ∧ xs.Nodup)) ?_ fun q hq => ?_
        · refine oks_opt (atd hk) ?_
          have hd := hok _ (List.getElem_mem hk)
          cases hdd : ds[pre.length] with
          | int x =>
            refine oks_opt (a := true) rfl (oks_ifb (fun h => by cases h) fun _ => oks_opt (atd hk) ?_)
            rw [hdd]
            refine oks_opt (a := false) rfl (oks_ifb (fun h => by cases h) fun _ => oks_opt (atd hk) ?_)
            rw [hdd]
            refine oks_opt (a := ds) (decs_some _) (oks_opt (a := x) rfl (oks_opt (a := xs) ?_ (oks_ok ?_)))
            · rw [cut_take, hx]
              show decs asI ((xs.map eI).map fun v => v) = some xs
              rw [List.map_id']; exact decs_m (E := eI) (fun _ => rfl) xs
            · dsimp only
              by_cases hm : x ∈ xs
              · refine .inl ⟨mem_T.2 hm, ?_⟩
                rintro ⟨ys, e, ndy⟩
                have e1 := take_map e hx
                have hl2 : pre.length < ys.length := by rw [e, List.length_map] at hk; exact hk
                have e2 : ys[pre.length] = x := by
                  have : ds[pre.length] = eI ys[pre.length] := by simp only [e, List.getElem_map]
                  rw [hdd] at this
                  cases this; rfl
                rw [e1] at hm
                obtain ⟨j, hj, ej⟩ := List.getElem_of_mem hm
                rw [List.length_take] at hj
                rw [List.getElem_take] at ej
                have hlt : j < pre.length := by omega
                exact absurd (ej.trans e2.symm) (List.pairwise_iff_getElem.1 ndy j pre.length (by omega) hl2 hlt)
              · refine .inr ⟨Bool.eq_false_iff.2 fun q => hm (mem_T.1 q), xs ++ [x], ?_, List.nodup_append.2 ⟨nd, by simp, fun y hy z hz => by
                  rw [List.mem_singleton.1 hz]; rintro rfl; exact hm hy⟩⟩
                rw [← List.take_append_getElem hk, hx, hdd, List.map_append]; rfl
          | bl b =>
            refine oks_opt (a := true) rfl (oks_ifb (fun h => by cases h) fun _ => oks_opt (atd hk) ?_)
            rw [hdd]
            exact oks_opt (a := true) rfl (oks_ifb (fun _ => oks_ok (.inl ⟨rfl, bad fun x q => by rw [hdd] at q; cases q⟩)) fun h => by cases h)
          | obj c ns fs => rw [hdd] at hd; cases hd
          | scr ns => rw [hdd] at hd; cases hd
          | dct ks vs => rw [hdd] at hd; cases hd
          | _ => exact oks_opt (a := false) rfl (oks_ifb (fun _ => oks_ok (.inl ⟨rfl, bad fun x q => by rw [hdd] at q; cases q⟩)) fun h => by cases h)
        · rcases hq with ⟨h1, h2⟩ | ⟨h1, h2⟩
          · rw [h1]
            exact oks_ifb (fun _ => oks_ok ⟨rfl, h2⟩) fun h => by cases h
          · rw [h1]
            exact oks_ifb (fun h => by cases h) fun _ => oks_ok (by simpa using h2)
      · rintro s ⟨xs, hx, nd⟩
        refine ⟨xs, ?_, nd⟩
        rw [← hx, rng_len]
        exact (List.take_of_length_le (by omega)).symm
    · rintro s ⟨xs, e, nd⟩
      have hxl : ds.length = xs.length := by rw [e, List.length_map]
      have hx0 : xs ≠ [] := fun q => h0 (by rw [e, q]; rfl)
      refine oks_opt (a := (ds.length : Int)) rfl (oks_ck (by unfold okR; omega) ?_)
      have hR : Rg as (.tup ds) ↔ Cyc as xs := by
        rw [e]
        exact rg_tup.trans ⟨fun h => h.2.2, fun h => ⟨hx0, nd, h⟩⟩
      refine oks_aft (P := fun w => match w with
        | .nx _ => Cyc as xs
        | .brk _ => False
        | .ret r => r = false ∧ ¬ Cyc as xs) ?_ (fun s h => oks_ok ⟨fun _ => hR.2 h, fun _ => rfl⟩) (fun s h => h.elim) (fun r h => oks_ok ⟨(fun q => by rw [h.1] at q; cases q), fun q => (h.2 (hR.1 q)).elim⟩)
      refine oks_loop (fun pre _ => ∀ k : Nat, k < pre.length → (ix xs k, ix xs ((k + 1) % xs.length)) ∈ as) (fun k hk => by cases hk) ?_ ?_
      · rintro pre k post ⟨⟩ eR h
        obtain ⟨rfl, hk, _⟩ := rng_snoc0 eR
        have hk : pre.length < ds.length := by omega
        have at' : ∀ j : Nat, j < ds.length → ixY (.tup ds) (j : Int) = some (eI (ix xs j)) := fun j hj => by
          rw [atd hj]
          have : ix xs j = xs[j]'(by omega) := by
            have := ix_in (v := xs) (j := j) (by omega)
            rw [List.getElem?_eq_getElem (by omega)] at this
            exact (Option.some.inj this).symm
          rw [this]
          simp only [e, List.getElem_map]
        have hm : (pre.length + 1) % ds.length < ds.length := Nat.mod_lt _ hp
        refine oks_opt (at' _ hk) (oks_opt (a := (ds.length : Int)) rfl (oks_ck (by omega) ?_))
        rw [show (((pre.length : Nat) : Int) + 1) % (ds.length : Int) = (((pre.length + 1) % ds.length : Nat) : Int) by rw [Int.natCast_emod]; rfl]
        refine oks_opt (at' _ hm) (oks_opt (a := ix xs pre.length) rfl (oks_opt (a := ix xs ((pre.length + 1) % ds.length)) rfl ?_))
        rw [hxl]
        refine oks_ifb (fun q => oks_ok ⟨rfl, fun hc => ?_⟩) fun q => oks_ok fun k hk2 => ?_
        · rw [Bool.not_eq_true'] at q
          have := mem_T.2 (cyc_ix.1 hc pre.length (by omega))
          rw [q] at this
          cases this
        · rw [List.length_append, List.length_singleton] at hk2
          by_cases hkk : k < pre.length
          · exact h k hkk
          · have : k = pre.length := by omega
            subst this
            rw [Bool.not_eq_false'] at q
            exact mem_T.1 q
      · intro s h
        refine cyc_ix.2 fun k hk => h k ?_
        rw [rng_len]; omega
    · rintro r ⟨h1, h2⟩
      refine oks_ok ⟨(fun q => by rw [h1] at q; cases q), fun ⟨xs, e, _, nd, _⟩ => (h2 ⟨xs, ?_, nd⟩).elim⟩
      injection e
  | obj c ns fs => cases hv
  | scr ns => cases hv
  | dct ks vs => cases hv
  | _ => exact no fun _ h => by cases h
end Lk09
namespace Lk09
open PySem KS KT KL KN
theorem free_eq (as : List (Int × Int)) (L : List Int) (i : Int) : decide (((((as.filter fun a => (decide (a.1 = i)) && (memT a.2 L)).map fun a => a).length : Nat) : Int) = 0) = (kw as i).all fun j => !memT j L := by
  rw [List.map_id', Bool.eq_iff_iff, decide_eq_true_iff, List.all_eq_true]
  constructor
  · intro h j hj
    rw [Bool.not_eq_true', ← Bool.not_eq_true]
    intro hm
    have := mem_kw.1 hj
    have hne : (as.filter fun a => (decide (a.1 = i)) && (memT a.2 L)) = [] := List.length_eq_zero_iff.1 (by omega)
    have hin : (i, j) ∈ as.filter fun a => (decide (a.1 = i)) && (memT a.2 L) := List.mem_filter.2 ⟨this, by simp [hm]⟩
    rw [hne] at hin
    cases hin
  · intro h
    have : (as.filter fun a => (decide (a.1 = i)) && (memT a.2 L)) = [] := by
      rw [List.filter_eq_nil_iff]
      intro a ha hc
      rw [Bool.and_eq_true, decide_eq_true_iff] at hc
      have := h a.2 (mem_kw.2 (by rw [← hc.1]; exact ha))
      rw [hc.2] at this
      cases this
    rw [this]; rfl
theorem rng_lot {n : Int} : LotOf n (rngT 0 n) := ⟨rng_sorted 0 n, fun x hx => mem_rng.1 hx⟩
theorem no_some {as : List (Int × Int)} {R L : List Int} (h1 : ∀ x ∈ R, x ∈ L) (h2 : Stab as R) (h3 : ∀ S, Stab as S → (∀ x ∈ S, x ∈ L) → ∀ x ∈ S, x ∈ R) : R = [] ↔ NoRing as L := by
  constructor
  · intro hR S hS hs
    exact List.eq_nil_iff_forall_not_mem.2 fun x hx => by have := h3 S hS hs x hx; rw [hR] at this; cases this
  · exact fun h => h R h2 h1
theorem any_all {as : List (Int × Int)} {L : List Int} (i : Int) : ((kw as i).map fun j => memT j L).any id = !((kw as i).all fun j => !memT j L) := by
  rw [List.any_map, Bool.eq_iff_iff, Bool.not_eq_true', List.any_eq_true, ← Bool.not_eq_true, List.all_eq_true]
  constructor
  · rintro ⟨j, hj, h⟩ hc
    have := hc j hj
    rw [show memT j L = true from h] at this
    cases this
  · intro h
    refine Decidable.byContradiction fun hc => h fun j hj => ?_
    rw [Bool.not_eq_true']
    exact Bool.eq_false_iff.2 fun q => hc ⟨j, hj, q⟩
theorem ringless {as : List (Int × Int)} (hl : as.length ≤ 1000) {n : Int} (hn : n ≤ 100) {L : List Int} (hL : LotOf n L) : Oks (T_law_ringless as L) fun b => b = true ↔ NoRing as L := by
  have hLl : L.length ≤ 100 := by
    by_cases h0 : 0 ≤ n
    · have := hL.len h0; omega
    · have : L = [] := List.eq_nil_iff_forall_not_mem.2 fun x hx => by have := hL.2 x hx; omega
      rw [this]; simp
  unfold T_law_ringless
  refine oks_ck (by unfold okR; omega) (oks_bind (P := fun s => (∀ x ∈ s, x ∈ L) ∧ Stab as s ∧ ∀ S, Stab as S → (∀ x ∈ S, x ∈ L) → ∀ x ∈ S, x ∈ s) ?_ fun s hs => oks_ok ?_)
  · refine oks_fold (fun pre s => (∀ x ∈ s, x ∈ L) ∧ s.length ≤ L.length ∧ (∀ S, Stab as S → (∀ x ∈ S, x ∈ L) → ∀ x ∈ S, x ∈ s) ∧ (Stab as s ∨ s.length + pre.length ≤ L.length)) ⟨fun _ h => h, Nat.le_refl _, fun S _ h => h, .inr (by simp)⟩ ?_ ?_
    · rintro pre a post s _ ⟨h1, hsl, h3, h4⟩
      refine oks_ck (by omega) (oks_ck (by omega) (oks_lt (oks_ck (by omega) (oks_lt (oks_ok ?_)))))
      have ef : ((s.filter fun i_13 => (!memT i_13 ((s.filter fun i_8 => (decide (((((as.filter fun arc_9 => ((decide (arc_9.1 = i_8)) && (memT arc_9.2 s))).map fun arc_9 => arc_9)).length : Int) = 0))).map fun i_8 => i_8))).map fun i_13 => i_13) = s.filter fun i => ((kw as i).map fun j => memT j s).any id := by
        rw [List.map_id', List.map_id']
        refine List.filter_congr fun i hi => ?_
        rw [any_all, ← free_eq]
        congr 1
        rw [Bool.eq_iff_iff, mem_T, List.mem_filter]
        exact ⟨fun h => h.2, fun h => ⟨hi, h⟩⟩
      rw [ef]
      have hle := List.length_filter_le (fun i => ((kw as i).map fun j => memT j s).any id) s
      refine ⟨fun x hx => h1 x (List.mem_filter.1 hx).1, by omega, fun S hS hs => stab_in hS (h3 S hS hs), ?_⟩
      by_cases hlt : (s.filter fun i => ((kw as i).map fun j => memT j s).any id).length < s.length
      · rcases h4 with h4 | h4
        · have : s = s.filter fun i => ((kw as i).map fun j => memT j s).any id := by
            refine (List.filter_eq_self.2 fun x hx => ?_).symm
            exact (List.mem_filter.1 (stab_in h4 (fun x hx => hx) x hx)).2
          rw [← this] at hlt
          omega
        · refine .inr ?_
          rw [List.length_append, List.length_singleton]; omega
      · have he : (s.filter fun i => ((kw as i).map fun j => memT j s).any id) = s := List.filter_eq_self.2 (List.length_filter_eq_length_iff.1 (by omega))
        refine .inl ?_
        rw [he]
        intro i hi'
        rw [← he] at hi'
        obtain ⟨_, hc⟩ := List.mem_filter.1 hi'
        rw [List.any_eq_true] at hc
        obtain ⟨c, hc, hct⟩ := hc
        obtain ⟨j, hj, rfl⟩ := List.mem_map.1 hc
        exact ⟨j, hj, mem_T.1 hct⟩
    · rintro s ⟨h1, hsl, h3, h4⟩
      refine ⟨h1, ?_, h3⟩
      rcases h4 with h4 | h4
      · exact h4
      · rw [rng_len] at h4
        have : s = [] := List.length_eq_zero_iff.1 (by omega)
        rw [this]
        exact fun i hi => by cases hi
  · obtain ⟨h1, h2, h3⟩ := hs
    rw [decide_eq_true_iff, ← no_some h1 h2 h3]
    exact ⟨fun h => List.length_eq_zero_iff.1 (by omega), fun h => by rw [h]; rfl⟩
theorem knows {n : Int} {as : List (Int × Int)} (hl : as.length ≤ 1000) (i : Int) : T_law_knows (n, as) i = .ok (kw as i) := by
  unfold T_law_knows
  rw [ck_pos (by show as.length ≤ _; omega)]
  rfl
/-- a row of places -/
structure Wk (n : Int) (w : List Int) : Prop where
  ne : w ≠ []
  rg : ∀ x ∈ w, 0 ≤ x ∧ x < n
  len : w.length ≤ 13
theorem idx_mem {l : List Int} {x : Int} (h : x ∈ l) : ∃ j : Nat, idxI l x = some (j : Int) ∧ j < l.length ∧ l[j]? = some x := by
  unfold idxI
  cases e : l.findIdx? (fun y => y == x) with
  | none =>
    rw [List.findIdx?_eq_none_iff] at e
    have := e x h
    simp at this
  | some j =>
    obtain ⟨hj, h1, _⟩ := List.findIdx?_eq_some_iff_getElem.1 e
    exact ⟨j, rfl, hj, by rw [List.getElem?_eq_getElem hj, eq_of_beq h1]⟩
theorem walked {n : Int} {as : List (Int × Int)} (V : VN n as) (pool : List Int) : Oks (T_law_walked pool (n, as)) fun r => Wk n r.1 := by
  have lo := V.lo
  have hl := V.len
  unfold T_law_walked
  refine oks_call (draw (by show 0 < n; omega)) fun r hr => oks_lt ?_
  have last : ∀ s : List Int, Wk n s → ∃ x, L2.atI s (-1) = some x ∧ 0 ≤ x ∧ x < n := fun s hs => ⟨_, at_last hs.ne, hs.rg _ (List.getLast_mem hs.ne)⟩
  refine oks_aft (P := fun w => match w with
    | .nx s => Wk n s.2
    | .brk s => False
    | .ret q => Wk n q.1) ?_ (fun s h => oks_ok h) (fun s h => h.elim) (fun q h => oks_ok h)
  refine oks_loop (fun pre s => Wk n s.2 ∧ s.2.length = pre.length + 1) ⟨⟨by simp, fun x hx => by rw [List.mem_singleton.1 hx]; exact hr, by simp⟩, rfl⟩ ?_ fun s h => h.1
  rintro pre k post s e ⟨hs, hsl⟩
  obtain ⟨_, hk, _⟩ := rng_snoc0 e
  obtain ⟨x, hx, hb⟩ := last _ hs
  refine oks_opt hx ?_
  rw [knows hl, no_ok]
  refine oks_if (fun _ => oks_ok hs) fun h0 => ?_
  refine oks_call (draw (by have := of_decide_eq_false (Bool.not_eq_true _ |>.mp h0); omega)) fun d hd => ?_
  obtain ⟨y, hy, hm, _⟩ := at_some hd.1 hd.2
  refine oks_opt hy ?_
  have hyb := (V.rng _ (mem_kw.1 hm)).2.1
  refine oks_ifb (fun hin => ?_) fun hin => ?_
  · obtain ⟨j, hj, hjl, hjg⟩ := idx_mem (mem_T.1 hin)
    refine oks_opt hj (oks_ok ?_)
    rw [cut_from]
    refine ⟨fun q => ?_, fun z hz => hs.rg z (List.mem_of_mem_drop hz), by rw [List.length_drop]; have := hs.len; omega⟩
    have := congrArg List.length q
    rw [List.length_drop] at this
    simp only [List.length_nil] at this
    omega
  · refine oks_ck (by unfold appC; have := hs.len; omega) (oks_ok ⟨⟨by simp, fun z hz => ?_, by rw [List.length_append, List.length_singleton]; omega⟩, by rw [List.length_append, List.length_append, hsl]; rfl⟩)
    rcases List.mem_append.1 hz with hz | hz
    · exact hs.rg z hz
    · rw [List.mem_singleton.1 hz]; exact hyb
end Lk09
namespace Lk09
open PySem KS KT KL KN
theorem some_ring {n : Int} {as : List (Int × Int)} (V : VN n as) : Oks (T_some_ring (NT n as)) fun r => (r = none ∧ NoRing as (rngT 0 n)) ∨ ∃ xs : List Int, r = some xs ∧ Rg as (eT eI xs) ∧ xs.length ≤ 100 ∧ ¬ NoRing as (rngT 0 n) := by
  have lo := V.lo
  have hi := V.hi
  have hl := V.len
  unfold T_some_ring
  refine oks_ck (by show okR n ∧ n.toNat ≤ 16777216; unfold okR; omega) (oks_call (stripped V rng_lot false) fun R ⟨h1, h2, h3⟩ => ?_)
  have hR := no_some h1 h2 h3
  refine oks_ifb (fun h => oks_ok (.inl ⟨rfl, hR.1 ?_⟩)) fun h => ?_
  · rw [Bool.not_not] at h
    exact List.isEmpty_iff.1 h
  rw [Bool.not_not] at h
  have hne : R ≠ [] := fun q => by rw [q] at h; cases h
  have hno : ¬ NoRing as (rngT 0 n) := fun q => hne (hR.2 q)
  have hRb : ∀ x ∈ R, 0 ≤ x ∧ x < n := fun x hx => mem_rng.1 (h1 x hx)
  cases R with
  | nil => exact absurd rfl hne
  | cons r6 R' =>
  refine oks_opt (at_cons r6 R') (oks_lt (oks_ck (by show okR n; unfold okR; omega) ?_))
  refine oks_aft (P := fun w => match w with
    | .nx s => False
    | .brk s => False
    | .ret q => ∃ xs : List Int, q = some xs ∧ Rg as (eT eI xs) ∧ xs.length ≤ 100) ?_ (fun s h => h.elim) (fun s h => h.elim) (fun q ⟨xs, e, h, hx⟩ => oks_ok (.inr ⟨xs, e, h, hx, hno⟩))
  refine oks_loop (fun pre s => s.Nodup ∧ (∀ x ∈ s, x ∈ r6 :: R') ∧ s.length = pre.length + 1 ∧ ∀ k : Nat, k + 1 < s.length → (ix s k, ix s (k + 1)) ∈ as) ⟨by simp, by simp, rfl, fun k hk => by simp at hk⟩ ?_ ?_
  · rintro pre k post s e ⟨nd, hs, hsl, hc⟩
    obtain ⟨_, hk, _⟩ := rng_snoc0 e
    have hk : (pre.length : Int) < n := hk
    have hs0 : s ≠ [] := fun q => by rw [q] at hsl; simp at hsl
    have hlast := hs _ (List.getLast_mem hs0)
    have hb := hRb _ hlast
    refine oks_opt (at_last hs0) (oks_opt (kn_at hb.1 hb.2) (oks_ck (by have := kw_len (as := as) (i := s.getLast hs0); omega) ?_))
    obtain ⟨j, hj, hjR⟩ := h2 _ hlast
    rw [List.map_id']
    have hmem : ∀ y ∈ (kw as (s.getLast hs0)).filter (fun o => memT o (r6 :: R')), (s.getLast hs0, y) ∈ as ∧ y ∈ r6 :: R' := fun y hy => by
      obtain ⟨a, b⟩ := List.mem_filter.1 hy
      exact ⟨mem_kw.1 a, mem_T.1 b⟩
    cases ef : (kw as (s.getLast hs0)).filter (fun o => memT o (r6 :: R')) with
    | nil =>
      have : j ∈ (kw as (s.getLast hs0)).filter (fun o => memT o (r6 :: R')) := List.mem_filter.2 ⟨hj, mem_T.2 hjR⟩
      rw [ef] at this
      cases this
    | cons y F =>
      obtain ⟨hy1, hy2⟩ := hmem y (by rw [ef]; exact .head _)
      refine oks_opt (at_cons y F) ?_
      have hlx : ix s (s.length - 1) = s.getLast hs0 := by
        unfold ix
        rw [List.getLast_eq_getElem hs0, List.getD_eq_getElem?_getD, List.getElem?_eq_getElem (by have := List.length_pos_iff.2 hs0; omega)]; rfl
      refine oks_ifb (fun hin => ?_) fun hin => ?_
      · obtain ⟨q, hq, hql, hqg⟩ := idx_mem (mem_T.1 hin)
        refine oks_opt hq (oks_ok ?_)
        rw [cut_from]
        refine ⟨s.drop q, rfl, rg_tup.2 ⟨fun z => ?_, nd.sublist (List.drop_sublist ..), ?_⟩, by rw [List.length_drop]; omega⟩
        · have := congrArg List.length z
          rw [List.length_drop] at this
          simp only [List.length_nil] at this
          omega
        · refine cyc_ix.2 fun k hk2 => ?_
          rw [List.length_drop] at hk2 ⊢
          have hd : ∀ k : Nat, ix (s.drop q) k = ix s (q + k) := fun k => by
            unfold ix
            rw [List.getD_eq_getElem?_getD, List.getD_eq_getElem?_getD, List.getElem?_drop]
          by_cases hk3 : k + 1 < s.length - q
          · rw [Nat.mod_eq_of_lt hk3, hd, hd]
            exact hc (q + k) (by omega)
          · have : k + 1 = s.length - q := by omega
            rw [this, Nat.mod_self, hd, hd, show q + k = s.length - 1 by omega, hlx, Nat.add_zero]
            have : ix s q = y := by
              unfold ix
              rw [List.getD_eq_getElem?_getD, hqg]; rfl
            rw [this]
            exact hy1
      · refine oks_ck (by unfold appC; omega) (oks_ok ⟨List.nodup_append.2 ⟨nd, by simp, fun x hx z hz => by
          rw [List.mem_singleton.1 hz]
          rintro rfl
          have := mem_T.2 hx
          rw [hin] at this
          cases this⟩, fun x hx => ?_, by rw [List.length_append, List.length_append, hsl]; rfl, fun k hk2 => ?_⟩)
        · rcases List.mem_append.1 hx with hx | hx
          · exact hs x hx
          · rw [List.mem_singleton.1 hx]; exact hy2
        · rw [List.length_append, List.length_singleton] at hk2
          have ha : ∀ k : Nat, k < s.length → ix (s ++ [y]) k = ix s k := fun k hk => by
            unfold ix
            rw [List.getD_eq_getElem?_getD, List.getD_eq_getElem?_getD, List.getElem?_append_left hk]
          rw [ha k (by omega)]
          by_cases hk3 : k + 1 < s.length
          · rw [ha _ hk3]
            exact hc k hk3
          · have : k + 1 = s.length := by omega
            rw [this, show k = s.length - 1 by omega, hlx]
            have : ix (s ++ [y]) s.length = y := by
              unfold ix
              rw [List.getD_eq_getElem?_getD, List.getElem?_append_right (Nat.le_refl _), Nat.sub_self]; rfl
            rw [this]
            exact hy1
  · rintro s ⟨nd, hs, hsl, _⟩
    have := nodup_len n.toNat nd fun x hx => by have := hRb x (hs x hx); omega
    have e : (rngT 0 (NT n as).1).length = n.toNat := by rw [show (NT n as).1 = n from rfl, rng_len]; omega
    omega
/-- any value that the law may ask of -/
structure VOk (v : DV) : Prop where
  ok : okV 3 v = true
  len : ∀ ds, v = .tup ds → ds.length ≤ 100
theorem vok_word {w : List Int} (h : w.length ≤ 100) : VOk (eT eI w) := ⟨okV_tup.2 ⟨by rw [List.length_map]; omega, fun d hd => by
  obtain ⟨x, _, rfl⟩ := List.mem_map.1 hd; rfl⟩, fun ds e => by
  have e : DV.tup (w.map eI) = .tup ds := e
  injection e with e
  rw [← e, List.length_map]; exact h⟩
theorem vok_tup {ds : List DV} (h : ∀ d ∈ ds, okV 2 d = true) (hl : ds.length ≤ 100) : VOk (.tup ds) := ⟨okV_tup.2 ⟨by omega, h⟩, fun ds' e => by injection e with e; rw [← e]; exact hl⟩
theorem vok_lst {ds : List DV} (h : ∀ d ∈ ds, okV 2 d = true) (hl : ds.length ≤ 100) : VOk (.lst ds) := ⟨by
  show (decide (ds.length ≤ 1000000) && ds.all (okV 2)) = true
  rw [Bool.and_eq_true, List.all_eq_true]
  exact ⟨decide_eq_true (by omega), h⟩, fun ds' e => by cases e⟩
theorem at_in {α : Type} {l : List α} {i : Int} {P : α → Prop} (h0 : 0 ≤ i) (h1 : i < l.length) (h : ∀ a ∈ l, P a) : ∃ a, L2.atI l i = some a ∧ P a := by
  obtain ⟨a, e, hm, _⟩ := at_some h0 h1
  exact ⟨a, e, h a hm⟩
theorem value {n : Int} {as : List (Int × Int)} (V : VN n as) (pool : List Int) : Oks (T_law_value pool (n, as)) fun r => VOk r.1 := by
  have lo := V.lo
  unfold T_law_value
  refine oks_call (walked V pool) fun w hw => ?_
  have wl := hw.len
  have wp := List.length_pos_iff.2 hw.ne
  refine oks_call (draw (by omega)) fun a ha => oks_call (draw (by decide)) fun f hf => oks_call (draw (by decide)) fun y hy => ?_
  have c1 : ∀ i j : Option Int, (cutT w.1 i j).length ≤ 13 := fun i j => Nat.le_trans (cut_sub w.1 i j).length_le wl
  refine oks_if (fun _ => oks_ck ?_ (oks_ok (vok_word ?_))) fun _ => ?_
  · unfold catC; have := c1 (some a.1) none; have := c1 none (some a.1); omega
  · rw [List.length_append]; have := c1 (some a.1) none; have := c1 none (some a.1); omega
  refine oks_if (fun _ => oks_ok (vok_word (by rw [List.length_reverse]; omega))) fun _ => ?_
  refine oks_if (fun _ => oks_ck ?_ (oks_ok (vok_word ?_))) fun _ => ?_
  · unfold catC; have := c1 none (some a.1); have := c1 (some (a.1 + 1)) none; omega
  · rw [List.length_append]; have := c1 none (some a.1); have := c1 (some (a.1 + 1)) none; omega
  refine oks_if (fun _ => oks_ck ?_ (oks_ok (vok_word ?_))) fun _ => ?_
  · unfold catC; have := c1 (some a.1) none; omega
  · rw [List.length_append]; have := c1 (some a.1) none; omega
  refine oks_if (fun _ => oks_call (draw (by decide)) fun d hd => ?_) fun _ => ?_
  · obtain ⟨x, hx, hxo⟩ := at_in (P := fun v => okV 2 v = true) (l := [(eI f.1), (eI (-1)), (eB true), (eU ()), (eS ((PySem.Str.ofString "0"))), ((eT eI) ([0]))]) hd.1 hd.2 (by simp only [List.mem_cons, List.not_mem_nil, or_false]; rintro v (rfl | rfl | rfl | rfl | rfl | rfl) <;> rfl)
    have := c1 none (some a.1); have := c1 (some (a.1 + 1)) none
    refine oks_opt hx (oks_ck ?_ (oks_ck ?_ (oks_ok ?_)))
    · unfold catC; rw [List.length_map, List.length_singleton]; omega
    · unfold catC; rw [List.length_append, List.length_map, List.length_map, List.length_singleton]; omega
    · show VOk (.tup (List.map (fun v => v) _))
      rw [List.map_id']
      refine vok_tup (fun d hd => ?_) (by rw [List.length_append, List.length_append, List.length_map, List.length_map, List.length_singleton]; omega)
      rcases List.mem_append.1 hd with hd | hd
      · rcases List.mem_append.1 hd with hd | hd
        · obtain ⟨z, _, rfl⟩ := List.mem_map.1 hd; rfl
        · rw [List.mem_singleton.1 hd]; exact hxo
      · obtain ⟨z, _, rfl⟩ := List.mem_map.1 hd; rfl
  refine oks_if (fun _ => ?_) fun _ => oks_call (draw (by decide)) fun d hd => oks_ck (by unfold okR; omega) (oks_ck (by rw [rng_len]; omega) ?_)
  · obtain ⟨z, hz, _⟩ := at_some (l := w.1) (i := 0) (by omega) (by omega)
    refine oks_opt hz (oks_call (draw (by decide)) fun d hd => ?_)
    obtain ⟨x, hx, hxo⟩ := at_in (P := VOk) (l := [((eL eI) w.1), (eU ()), (eI f.1), (eS ((PySem.Str.ofString ""))), (eI z), ((eT eI) ([])), ((eT (eP2 eI eI)) ([(0, 1)])), (eB true)]) hd.1 hd.2 (by
      simp only [List.mem_cons, List.not_mem_nil, or_false]
      rintro v (rfl | rfl | rfl | rfl | rfl | rfl | rfl | rfl)
      · exact vok_lst (fun d hd => by obtain ⟨z, _, rfl⟩ := List.mem_map.1 hd; rfl) (by rw [List.length_map]; omega)
      · exact ⟨rfl, fun _ h => by cases h⟩
      · exact ⟨rfl, fun _ h => by cases h⟩
      · exact ⟨rfl, fun _ h => by cases h⟩
      · exact ⟨rfl, fun _ h => by cases h⟩
      · exact vok_word (by simp)
      · exact vok_tup (by simp; rfl) (by simp)
      · exact ⟨rfl, fun _ h => by cases h⟩)
    exact oks_opt hx (oks_ok hxo)
  · refine oks_call (P := fun l => l.1.length ≤ 6) ?_ fun l hl => oks_ok (vok_word (by omega))
    refine oks_comp (fun pre out s => out.length = pre.length) rfl ?_ ?_
    · intro pre k post out s _ h
      exact oks_call (draw (by show 0 < n; omega)) fun r hr => oks_ok (by dsimp only; rw [List.length_append, List.length_append, h]; rfl)
    · intro out s h
      dsimp only
      rw [h, rng_len]; omega
end Lk09
namespace Lk09
open PySem KS KT KL KN
def lz (p : DV × DV) : Bool := match p.1, p.2 with
  | .int x, .int y => decide (x < y)
  | _, _ => false
theorem lot_no {n : Int} {xs : List Int} (hl : xs.length ≤ 100) (h : ((xs.zip (xs.drop 1)).all fun p => decide (p.1 < p.2)) = false) : T_is_lot (eT eI xs) n = .ok false := by
  have hok : ∀ d ∈ xs.map eI, okV 2 d = true := fun d hd => by obtain ⟨z, _, rfl⟩ := List.mem_map.1 hd; rfl
  by_cases hal : (xs.map eI).all (isLet n) = true
  · refine Oks.to ?_
    unfold T_is_lot
    refine oks_bind (P := fun q => q.1 = false) (oks_opt (a := true) rfl (oks_ifb (fun h => by cases h) fun _ => oks_opt (a := xs.map eI) rfl (oks_ck (by rw [List.length_map]; omega) ?_))) fun q hq => ?_
    · rw [KT.comp_map (g := isLet n) fun d hd => by rw [belowV (hok d hd)]; rfl, no_ok]
      refine oks_ok ?_
      dsimp only
      rw [List.all_map]
      show (!((xs.map eI).all (isLet n))) = false
      rw [hal]; rfl
    · rw [hq]
      refine oks_ifb (fun h => by cases h) fun _ => oks_opt (a := xs.map eI) (decs_some _) (oks_opt (a := xs.map eI) (decs_some _) ?_)
      rw [show cutT (xs.map eI) (some 1) none = (xs.map eI).drop 1 from cut_from _ 1]
      have ez : (xs.map eI).zip ((xs.map eI).drop 1) = (xs.zip (xs.drop 1)).map (Prod.map eI eI) := by
        rw [← List.map_drop, List.zip_map]
      rw [ez]
      refine oks_ck (by rw [List.length_map, List.length_zip]; omega) ?_
      rw [KT.comp_map (g := lz) fun p hp => ?_, no_ok]
      · refine oks_ok ?_
        dsimp only
        rw [List.all_map, List.all_map]
        exact h
      · obtain ⟨⟨x, y⟩, hm, rfl⟩ := List.mem_map.1 hp
        exact Oks.to (oks_opt (a := x) rfl (oks_opt (a := y) rfl (oks_ok rfl)))
  · exact lot_any hok (by rw [List.length_map]; omega) (Bool.not_eq_true _ |>.mp hal)
theorem no_lot {n one : Int} (n0 : 0 ≤ one) (n1 : one < n) {v : DV} (h : v ∈ ([(eU ()), ((eP2 eI eI) ((one, one))), ((eL eI) ([one])), ((eT eI) ([n])), ((eP2 eI eI) (((-1), one))), (eS ((PySem.Str.ofString "0"))), ((eT eB) ([true])), ((eP3 eI eI eI) ((one, 0, 1))), ((eT (eT eI)) ([[]])), (eI 5), ((eP2 eI eU) ((one, ())))] : List DV)) : NoLot n v := by
  simp only [List.mem_cons, List.not_mem_nil, or_false] at h
  rcases h with rfl | rfl | rfl | rfl | rfl | rfl | rfl | rfl | rfl | rfl | rfl
  · exact ⟨rfl, rfl⟩
  · exact ⟨rfl, lot_pair (by omega)⟩
  · exact ⟨rfl, rfl⟩
  · refine lot_one rfl ?_
    show (decide (0 ≤ n) && decide (n < n)) = false
    simp
  · exact ⟨rfl, lot_any (ds := [.int (-1), .int one]) (by simp; exact ⟨rfl, rfl⟩) (by simp) rfl⟩
  · exact ⟨rfl, rfl⟩
  · exact lot_one rfl rfl
  · refine ⟨rfl, lot_no (xs := [one, 0, 1]) (by simp) ?_⟩
    show (decide (one < 0) && (decide ((0 : Int) < 1) && true)) = false
    rw [decide_eq_false (by omega)]; rfl
  · exact lot_one (x := eT eI []) rfl rfl
  · exact ⟨rfl, rfl⟩
  · refine ⟨rfl, lot_any (ds := [.int one, .non]) (by simp; exact ⟨rfl, rfl⟩) (by simp) ?_⟩
    show ((decide (0 ≤ one) && decide (one < n)) && (false && true)) = false
    simp
theorem refused {n : Int} {as : List (Int × Int)} {v : DV} (hv : NoLot n v) : T_law_refused (NT n as) v = .ok true := by
  unfold T_law_refused
  have e : T_can_order (NT n as) v = .exc 1 [v] [] := by
    unfold T_can_order
    rw [show (NT n as).1 = n from rfl, hv.no]; rfl
  rw [e]
  show O.aft (tryT (.exc 1 [v] []) _) _ _ = _
  rw [tryT_exc, ck_pos (by decide), if_pos (by rfl), show T_law_alone 1 [v] 4 = .ok true from by rfl, no_ok, if_pos rfl, show xfT (xf_value 1) [v] = some v from rfl, opt_some, O.bind_ok, same hv.ok]; rfl
theorem law (script : List Int) (hs : script.length ≤ 63) : T_law script = .ok true := by
  refine Oks.to ?_
  unfold T_law
  refine oks_call (pool hs (by omega) (by omega)) fun pl _ => oks_call (arcs pl 2 (by omega) (by omega)) fun r hr => ?_
  obtain ⟨V, hm⟩ := hr
  obtain ⟨⟨n, as⟩, pool2⟩ := r
  dsimp only at V hm ⊢
  have lo := V.lo
  have hi := V.hi
  rw [init V, no_ok]
  refine oks_aft (P := fun w => match w with
    | .nx _ => True
    | .brk _ => False
    | .ret _ => False) ?_ (fun s _ => ?_) (fun s h => h.elim) (fun _ h => h.elim)
  · refine oks_loop (fun _ _ => True) trivial ?_ fun _ _ => trivial
    intro pre k post s e _
    refine oks_call (value V s) fun v hv => oks_call (is_ring V hv.ok hv.len) fun b hb => ?_
    refine oks_bind (P := fun q => q.1 = false) (oks_opt (a := true) rfl (oks_ifb (fun h => by cases h) fun _ => oks_call (law_is_ring (n := n) hv.ok hv.len) fun c hc => oks_ok ?_)) fun q hq => by
      rw [hq]; exact oks_ifb (fun h => by cases h) fun _ => oks_ok trivial
    have : b = c := by rw [Bool.eq_iff_iff, hb, hc]
    rw [this]; simp
  · refine oks_call (some_ring V) fun r hr => oks_ck (by show okR n ∧ n.toNat ≤ 16777216; unfold okR; omega) (oks_call (ringless V.len (by omega) rng_lot) fun b hb => ?_)
    have hbr : b = r.isNone := by
      rcases hr with ⟨rfl, h⟩ | ⟨xs, rfl, _, _, h⟩
      · rw [hb.2 h]; rfl
      · have : b = false := Bool.eq_false_iff.2 fun q => h (hb.1 q)
        rw [this]; rfl
    refine oks_if (fun h => by rw [hbr] at h; simp at h) fun _ => ?_
    refine oks_bind (P := fun q => q.1 = false) ?_ fun q hq => ?_
    · refine oks_ifb (fun h => ?_) fun _ => oks_ok rfl
      rcases hr with ⟨rfl, _⟩ | ⟨xs, rfl, hR, hx, _⟩
      · cases h
      · refine oks_call (law_is_ring (n := n) (v := eT eI xs) (vok_word hx).ok (vok_word hx).len) fun c hc => oks_ok ?_
        rw [hc.2 hR]; rfl
    rw [hq]
    refine oks_ifb (fun h => by cases h) fun _ => ?_
    refine oks_aft (P := fun w => match w with
      | .nx _ => True
      | .brk _ => False
      | .ret _ => False) ?_ (fun s2 _ => ?_) (fun s h => h.elim) (fun _ h => h.elim)
    · refine oks_loop (fun _ _ => True) trivial ?_ fun _ _ => trivial
      intro pre k post s2 e _
      refine oks_ck (by unfold okR; omega) (oks_ck (by rw [rng_len]; omega) (oks_call (P := fun l => LotOf n l.1) ?_ fun l hl => ?_))
      · refine oks_comp (fun pre out s => LotOf pre.length out) LotOf.nil ?_ ?_
        · intro pre i post out s e h
          obtain ⟨rfl, hk, _⟩ := rng_snoc0 e
          refine oks_bind (P := fun _ => True) (oks_call (draw (by decide)) fun _ _ => oks_ok trivial) fun x _ => oks_ifb (fun _ => oks_ok ?_) fun _ => oks_ok ?_
          · dsimp only
            rw [List.length_append, List.length_singleton]
            exact h.snoc (by omega)
          · dsimp only
            rw [List.length_append, List.length_singleton]
            exact (List.append_nil out).symm ▸ h.mono (by omega)
        · intro out s h
          rw [rng_len] at h
          exact h.mono (by omega)
      · refine oks_call (can_order V hl) fun b1 hb1 => ?_
        refine oks_bind (P := fun q => q.1 = false) (oks_opt (a := true) rfl (oks_ifb (fun h => by cases h) fun _ => oks_call (ringless V.len (by omega) hl) fun c hc => oks_ok ?_)) fun q hq => by
          rw [hq]; exact oks_ifb (fun h => by cases h) fun _ => oks_ok trivial
        have : b1 = c := by rw [Bool.eq_iff_iff, hb1, hc]
        rw [this]; simp
    · refine oks_call (draw (by omega)) fun d hd => oks_ltG fun bad hbad => ?_
      rw [is_ring_obj, no_ok]
      refine oks_bind (P := fun q => q.1 = true) ?_ fun q hq => oks_ok hq
      refine oks_if (fun _ => ?_) fun h => by simp at h
      refine oks_call (draw (by omega)) fun r3 hr3 => ?_
      obtain ⟨b, eb, mb, _⟩ := at_some (l := bad) (i := r3.1) hr3.1 (by rw [hbad]; exact hr3.2)
      refine oks_opt eb ?_
      rw [refused (no_lot hd.1 hd.2 (hbad ▸ mb)), O.bind_ok]
      exact oks_ok rfl
end Lk09
namespace Lk09
open PySem KS KT
theorem law_true (ns : List Int) (hl : ns.length ≤ 63) (hb : ∀ z ∈ ns, Builtin.Int.intBits z ≤ 1048576) : ∃ outs, fn_law [.scr ns] = .ok (.bl true) outs := law_of (law ns hl)
end Lk09
namespace Lk09
open PySem PySem.Spec L2 KS PyProof.Rows
def fldF : Nat → Str
  | 0 => (PySem.Str.ofString "size")
  | 1 => (PySem.Str.ofString "arcs")
  | 2 => (PySem.Str.ofString "knows")
  | _ => (PySem.Str.ofString "?")
theorem injF_size : ∀ m, fldF m = fldF 0 → m = 0
  | 0, _ => rfl
  | 1, h => absurd h (show ¬ ((PySem.Str.ofString "arcs") = (PySem.Str.ofString "size")) by decide +kernel)
  | 2, h => absurd h (show ¬ ((PySem.Str.ofString "knows") = (PySem.Str.ofString "size")) by decide +kernel)
  | _ + 3, h => absurd h (show ¬ ((PySem.Str.ofString "?") = (PySem.Str.ofString "size")) by decide +kernel)
theorem injF_arcs : ∀ m, fldF m = fldF 1 → m = 1
  | 0, h => absurd h (show ¬ ((PySem.Str.ofString "size") = (PySem.Str.ofString "arcs")) by decide +kernel)
  | 1, _ => rfl
  | 2, h => absurd h (show ¬ ((PySem.Str.ofString "knows") = (PySem.Str.ofString "arcs")) by decide +kernel)
  | _ + 3, h => absurd h (show ¬ ((PySem.Str.ofString "?") = (PySem.Str.ofString "arcs")) by decide +kernel)
theorem injF_knows : ∀ m, fldF m = fldF 2 → m = 2
  | 0, h => absurd h (show ¬ ((PySem.Str.ofString "size") = (PySem.Str.ofString "knows")) by decide +kernel)
  | 1, h => absurd h (show ¬ ((PySem.Str.ofString "arcs") = (PySem.Str.ofString "knows")) by decide +kernel)
  | 2, _ => rfl
  | _ + 3, h => absurd h (show ¬ ((PySem.Str.ofString "?") = (PySem.Str.ofString "knows")) by decide +kernel)
def spLaw (K : PySem.W.Frag) : Sp := fun vs H Q _ => ∃ (a : Addr) (ns : List Int), vs = [.ref a] ∧ SqL K H a (ns.map V.int) ∧ ns.length ≤ 63 ∧ (∀ z ∈ ns, Builtin.Int.intBits z ≤ 1048576) ∧ ∀ H', Q (.bl true) H'
theorem sp_law {G : SE} (ht : G.tabs = []) (vs : List V) (H : Hp) (Q : VK) (E : XK) (h : spLaw G.K vs H Q E) : spOf G [false] false fn_law vs H Q E := by
  obtain ⟨a, ns, rfl, hs, hl, hb, q⟩ := h
  refine ⟨[.scr ns], H, ⟨.refl _, (by rw [ht]; intro P hP; cases hP), rfl, rfl, fun i d hm hd => ?_, fun i d hm hd => ?_, fun i j a' hij hi hj => ?_⟩, ?_⟩
  · cases i with
    | zero =>
      have e : D.scr ns = d := Option.some.inj hd
      subst e
      refine ⟨_, rfl, ?_⟩
      simp only [Rep]
      exact ⟨a, rfl, hs⟩
    | succ i => simp at hd
  · cases i with
    | zero => cases hm
    | succ i => simp at hm
  · cases i with
    | zero => cases hi
    | succ i => simp at hi
  · obtain ⟨outs, e⟩ := law_true ns hl hb
    rw [e]
    intro v H' Hv' _ ret
    have ret : Rep G Hv' (.bl true) v := by
      unfold RetR at ret
      rwa [if_neg Bool.false_ne_true] at ret
    rw [Rep.bl_iff.mp ret]
    exact q H'
theorem all_mk {l : PySem.W.OpenLaw} {w : World} {K : PySem.W.Frag} {h : Heap} {mg : Str → Option Value} {fa f_law_pool f_law_draw f_law_arcs f_is_below f_first_wrong_arc f_Net_init f_stripped f_some_ring f_law_knows f_law_walked f_law_value f_is_ring f_law_ringless f_is_lot f_can_order f_law_kinds f_law_alone f_law_same f_law_refused f_law_is_ring f_law C_Net X_InvalidNet of_InvalidNet X_InvalidLot of_InvalidLot Y_SayError Y_InvalidNumber Y_InvalidMatrix Y_InvalidAudience Y_InvalidDeed Y_InvalidWord Y_InvalidWords Y_InvalidSignals Y_InvalidLosses Y_InvalidText Y_InvalidLine Y_UnknownWord Y_TooMany Y_Undefined Y_NothingToUndo : Addr} (X : K.In h) (G : h.Ns mainGlobals mg) (hfa : mg "law" = some (.ref fa))
    {od_law_pool an_law_pool od_law_draw an_law_draw od_law_arcs an_law_arcs od_is_below an_is_below od_first_wrong_arc an_first_wrong_arc od_Net_init an_Net_init od_stripped an_stripped od_some_ring an_some_ring od_law_knows an_law_knows od_law_walked an_law_walked od_law_value an_law_value od_is_ring an_is_ring od_law_ringless an_law_ringless od_is_lot an_is_lot od_can_order an_can_order od_law_kinds an_law_kinds od_law_alone an_law_alone od_law_same an_law_same od_law_refused an_law_refused od_law_is_ring an_law_is_ring od_law an_law od_InvalidNet an_InvalidNet od_InvalidLot an_InvalidLot : Option Addr} {sl_law_pool sl_law_draw sl_law_arcs sl_is_below sl_first_wrong_arc sl_Net_init sl_stripped sl_some_ring sl_law_knows sl_law_walked sl_law_value sl_is_ring sl_law_ringless sl_is_lot sl_can_order sl_law_kinds sl_law_alone sl_law_same sl_law_refused sl_law_is_ring sl_law sl_InvalidNet sl_InvalidLot : Array (Option Value)} {oc_law_pool kV_law_pool dc_law_pool pm_law_pool cd_law_pool ct_law_pool oc_law_draw kV_law_draw dc_law_draw pm_law_draw cd_law_draw ct_law_draw oc_law_arcs kV_law_arcs dc_law_arcs pm_law_arcs cd_law_arcs ct_law_arcs oc_is_below kV_is_below dc_is_below pm_is_below cd_is_below ct_is_below oc_first_wrong_arc kV_first_wrong_arc dc_first_wrong_arc pm_first_wrong_arc cd_first_wrong_arc ct_first_wrong_arc oc_Net_init kV_Net_init dc_Net_init pm_Net_init cd_Net_init ct_Net_init oc_stripped kV_stripped dc_stripped pm_stripped cd_stripped ct_stripped oc_some_ring kV_some_ring dc_some_ring pm_some_ring cd_some_ring ct_some_ring oc_law_knows kV_law_knows dc_law_knows pm_law_knows cd_law_knows ct_law_knows oc_law_walked kV_law_walked dc_law_walked pm_law_walked cd_law_walked ct_law_walked oc_law_value kV_law_value dc_law_value pm_law_value cd_law_value ct_law_value oc_is_ring kV_is_ring dc_is_ring pm_is_ring cd_is_ring ct_is_ring oc_law_ringless kV_law_ringless dc_law_ringless pm_law_ringless cd_law_ringless ct_law_ringless oc_is_lot kV_is_lot dc_is_lot pm_is_lot cd_is_lot ct_is_lot oc_can_order kV_can_order dc_can_order pm_can_order cd_can_order ct_can_order oc_law_kinds kV_law_kinds dc_law_kinds pm_law_kinds cd_law_kinds ct_law_kinds oc_law_alone kV_law_alone dc_law_alone pm_law_alone cd_law_alone ct_law_alone oc_law_same kV_law_same dc_law_same pm_law_same cd_law_same ct_law_same oc_law_refused kV_law_refused dc_law_refused pm_law_refused cd_law_refused ct_law_refused oc_law_is_ring kV_law_is_ring dc_law_is_ring pm_law_is_ring cd_law_is_ring ct_law_is_ring oc_law kV_law dc_law pm_law cd_law ct_law oc_InvalidNet kV_InvalidNet dc_InvalidNet pm_InvalidNet cd_InvalidNet ct_InvalidNet oc_InvalidLot kV_InvalidLot dc_InvalidLot pm_InvalidLot cd_InvalidLot ct_InvalidLot : Value} {t_MOST_PLACES : Tok}
    (aC_Net : PySem.W.nsIn K mainGlobals (PySem.Str.ofString "Net") = some (some (.ref C_Net)))
    (xC_InvalidNet : PySem.W.nsIn K mainGlobals (PySem.Str.ofString "InvalidNet") = some (some (.ref X_InvalidNet)))
    (xC_InvalidLot : PySem.W.nsIn K mainGlobals (PySem.Str.ofString "InvalidLot") = some (some (.ref X_InvalidLot)))
    (yC_SayError : PySem.W.nsIn K mainGlobals (PySem.Str.ofString "SayError") = some (some (.ref Y_SayError)))
    (yC_InvalidNumber : PySem.W.nsIn K mainGlobals (PySem.Str.ofString "InvalidNumber") = some (some (.ref Y_InvalidNumber)))
    (yC_InvalidMatrix : PySem.W.nsIn K mainGlobals (PySem.Str.ofString "InvalidMatrix") = some (some (.ref Y_InvalidMatrix)))
    (yC_InvalidAudience : PySem.W.nsIn K mainGlobals (PySem.Str.ofString "InvalidAudience") = some (some (.ref Y_InvalidAudience)))
    (yC_InvalidDeed : PySem.W.nsIn K mainGlobals (PySem.Str.ofString "InvalidDeed") = some (some (.ref Y_InvalidDeed)))
    (yC_InvalidWord : PySem.W.nsIn K mainGlobals (PySem.Str.ofString "InvalidWord") = some (some (.ref Y_InvalidWord)))
    (yC_InvalidWords : PySem.W.nsIn K mainGlobals (PySem.Str.ofString "InvalidWords") = some (some (.ref Y_InvalidWords)))
    (yC_InvalidSignals : PySem.W.nsIn K mainGlobals (PySem.Str.ofString "InvalidSignals") = some (some (.ref Y_InvalidSignals)))
    (yC_InvalidLosses : PySem.W.nsIn K mainGlobals (PySem.Str.ofString "InvalidLosses") = some (some (.ref Y_InvalidLosses)))
    (yC_InvalidText : PySem.W.nsIn K mainGlobals (PySem.Str.ofString "InvalidText") = some (some (.ref Y_InvalidText)))
    (yC_InvalidLine : PySem.W.nsIn K mainGlobals (PySem.Str.ofString "InvalidLine") = some (some (.ref Y_InvalidLine)))
    (yC_UnknownWord : PySem.W.nsIn K mainGlobals (PySem.Str.ofString "UnknownWord") = some (some (.ref Y_UnknownWord)))
    (yC_TooMany : PySem.W.nsIn K mainGlobals (PySem.Str.ofString "TooMany") = some (some (.ref Y_TooMany)))
    (yC_Undefined : PySem.W.nsIn K mainGlobals (PySem.Str.ofString "Undefined") = some (some (.ref Y_Undefined)))
    (yC_NothingToUndo : PySem.W.nsIn K mainGlobals (PySem.Str.ofString "NothingToUndo") = some (some (.ref Y_NothingToUndo)))
    (a_law_pool : PySem.W.nsIn K mainGlobals (PySem.Str.ofString "_law_pool") = some (some (.ref f_law_pool)))
    (l_law_pool : K.lookup f_law_pool = some ⟨oc_law_pool, od_law_pool, .func (PySem.W.fnOf (PySem.Str.ofString "_law_pool") (PySem.Str.ofString "_law_pool") (defArgs st_law_pool) (defBody st_law_pool) (defScope st_law_pool) .none kV_law_pool dc_law_pool pm_law_pool an_law_pool cd_law_pool ct_law_pool), sl_law_pool⟩)
    (c_law_pool : PySem.W.codeIn K cd_law_pool (PySem.Str.ofString "_law_pool") = true)
    (k_law_pool : PySem.W.keepIn K (.ref f_law_pool) = true)
    (a_law_draw : PySem.W.nsIn K mainGlobals (PySem.Str.ofString "_law_draw") = some (some (.ref f_law_draw)))
    (l_law_draw : K.lookup f_law_draw = some ⟨oc_law_draw, od_law_draw, .func (PySem.W.fnOf (PySem.Str.ofString "_law_draw") (PySem.Str.ofString "_law_draw") (defArgs st_law_draw) (defBody st_law_draw) (defScope st_law_draw) .none kV_law_draw dc_law_draw pm_law_draw an_law_draw cd_law_draw ct_law_draw), sl_law_draw⟩)
    (c_law_draw : PySem.W.codeIn K cd_law_draw (PySem.Str.ofString "_law_draw") = true)
    (k_law_draw : PySem.W.keepIn K (.ref f_law_draw) = true)
    (a_law_arcs : PySem.W.nsIn K mainGlobals (PySem.Str.ofString "_law_arcs") = some (some (.ref f_law_arcs)))
    (l_law_arcs : K.lookup f_law_arcs = some ⟨oc_law_arcs, od_law_arcs, .func (PySem.W.fnOf (PySem.Str.ofString "_law_arcs") (PySem.Str.ofString "_law_arcs") (defArgs st_law_arcs) (defBody st_law_arcs) (defScope st_law_arcs) .none kV_law_arcs dc_law_arcs pm_law_arcs an_law_arcs cd_law_arcs ct_law_arcs), sl_law_arcs⟩)
    (c_law_arcs : PySem.W.codeIn K cd_law_arcs (PySem.Str.ofString "_law_arcs") = true)
    (k_law_arcs : PySem.W.keepIn K (.ref f_law_arcs) = true)
    (a_is_below : PySem.W.nsIn K mainGlobals (PySem.Str.ofString "is_below") = some (some (.ref f_is_below)))
    (l_is_below : K.lookup f_is_below = some ⟨oc_is_below, od_is_below, .func (PySem.W.fnOf (PySem.Str.ofString "is_below") (PySem.Str.ofString "is_below") (defArgs st_is_below) (defBody st_is_below) (defScope st_is_below) .none kV_is_below dc_is_below pm_is_below an_is_below cd_is_below ct_is_below), sl_is_below⟩)
    (c_is_below : PySem.W.codeIn K cd_is_below (PySem.Str.ofString "is_below") = true)
    (k_is_below : PySem.W.keepIn K (.ref f_is_below) = true)
    (a_first_wrong_arc : PySem.W.nsIn K mainGlobals (PySem.Str.ofString "first_wrong_arc") = some (some (.ref f_first_wrong_arc)))
    (l_first_wrong_arc : K.lookup f_first_wrong_arc = some ⟨oc_first_wrong_arc, od_first_wrong_arc, .func (PySem.W.fnOf (PySem.Str.ofString "first_wrong_arc") (PySem.Str.ofString "first_wrong_arc") (defArgs st_first_wrong_arc) (defBody st_first_wrong_arc) (defScope st_first_wrong_arc) .none kV_first_wrong_arc dc_first_wrong_arc pm_first_wrong_arc an_first_wrong_arc cd_first_wrong_arc ct_first_wrong_arc), sl_first_wrong_arc⟩)
    (c_first_wrong_arc : PySem.W.codeIn K cd_first_wrong_arc (PySem.Str.ofString "first_wrong_arc") = true)
    (k_first_wrong_arc : PySem.W.keepIn K (.ref f_first_wrong_arc) = true)
    (a_Net_init : PySem.W.findIn K (.ref C_Net) (PySem.Str.ofString "__init__") = some (some (.ref f_Net_init)))
    (i_Net_init : PySem.W.isFn K (.ref f_Net_init) = true)
    (l_Net_init : K.lookup f_Net_init = some ⟨oc_Net_init, od_Net_init, .func (PySem.W.fnOf (PySem.Str.ofString "__init__") (PySem.Str.ofString "Net.__init__") (defArgs st_Net_init) (defBody st_Net_init) (defScope st_Net_init) .none kV_Net_init dc_Net_init pm_Net_init an_Net_init cd_Net_init ct_Net_init), sl_Net_init⟩)
    (c_Net_init : PySem.W.codeIn K cd_Net_init (PySem.Str.ofString "Net.__init__") = true)
    (k_Net_init : PySem.W.keepIn K (.ref f_Net_init) = true)
    (a_stripped : PySem.W.nsIn K mainGlobals (PySem.Str.ofString "stripped") = some (some (.ref f_stripped)))
    (l_stripped : K.lookup f_stripped = some ⟨oc_stripped, od_stripped, .func (PySem.W.fnOf (PySem.Str.ofString "stripped") (PySem.Str.ofString "stripped") (defArgs st_stripped) (defBody st_stripped) (defScope st_stripped) .none kV_stripped dc_stripped pm_stripped an_stripped cd_stripped ct_stripped), sl_stripped⟩)
    (c_stripped : PySem.W.codeIn K cd_stripped (PySem.Str.ofString "stripped") = true)
    (k_stripped : PySem.W.keepIn K (.ref f_stripped) = true)
    (a_some_ring : PySem.W.nsIn K mainGlobals (PySem.Str.ofString "some_ring") = some (some (.ref f_some_ring)))
    (l_some_ring : K.lookup f_some_ring = some ⟨oc_some_ring, od_some_ring, .func (PySem.W.fnOf (PySem.Str.ofString "some_ring") (PySem.Str.ofString "some_ring") (defArgs st_some_ring) (defBody st_some_ring) (defScope st_some_ring) .none kV_some_ring dc_some_ring pm_some_ring an_some_ring cd_some_ring ct_some_ring), sl_some_ring⟩)
    (c_some_ring : PySem.W.codeIn K cd_some_ring (PySem.Str.ofString "some_ring") = true)
    (k_some_ring : PySem.W.keepIn K (.ref f_some_ring) = true)
    (a_law_knows : PySem.W.nsIn K mainGlobals (PySem.Str.ofString "_law_knows") = some (some (.ref f_law_knows)))
    (l_law_knows : K.lookup f_law_knows = some ⟨oc_law_knows, od_law_knows, .func (PySem.W.fnOf (PySem.Str.ofString "_law_knows") (PySem.Str.ofString "_law_knows") (defArgs st_law_knows) (defBody st_law_knows) (defScope st_law_knows) .none kV_law_knows dc_law_knows pm_law_knows an_law_knows cd_law_knows ct_law_knows), sl_law_knows⟩)
    (c_law_knows : PySem.W.codeIn K cd_law_knows (PySem.Str.ofString "_law_knows") = true)
    (k_law_knows : PySem.W.keepIn K (.ref f_law_knows) = true)
    (a_law_walked : PySem.W.nsIn K mainGlobals (PySem.Str.ofString "_law_walked") = some (some (.ref f_law_walked)))
    (l_law_walked : K.lookup f_law_walked = some ⟨oc_law_walked, od_law_walked, .func (PySem.W.fnOf (PySem.Str.ofString "_law_walked") (PySem.Str.ofString "_law_walked") (defArgs st_law_walked) (defBody st_law_walked) (defScope st_law_walked) .none kV_law_walked dc_law_walked pm_law_walked an_law_walked cd_law_walked ct_law_walked), sl_law_walked⟩)
    (c_law_walked : PySem.W.codeIn K cd_law_walked (PySem.Str.ofString "_law_walked") = true)
    (k_law_walked : PySem.W.keepIn K (.ref f_law_walked) = true)
    (a_law_value : PySem.W.nsIn K mainGlobals (PySem.Str.ofString "_law_value") = some (some (.ref f_law_value)))
    (l_law_value : K.lookup f_law_value = some ⟨oc_law_value, od_law_value, .func (PySem.W.fnOf (PySem.Str.ofString "_law_value") (PySem.Str.ofString "_law_value") (defArgs st_law_value) (defBody st_law_value) (defScope st_law_value) .none kV_law_value dc_law_value pm_law_value an_law_value cd_law_value ct_law_value), sl_law_value⟩)
    (c_law_value : PySem.W.codeIn K cd_law_value (PySem.Str.ofString "_law_value") = true)
    (k_law_value : PySem.W.keepIn K (.ref f_law_value) = true)
    (a_is_ring : PySem.W.nsIn K mainGlobals (PySem.Str.ofString "is_ring") = some (some (.ref f_is_ring)))
    (l_is_ring : K.lookup f_is_ring = some ⟨oc_is_ring, od_is_ring, .func (PySem.W.fnOf (PySem.Str.ofString "is_ring") (PySem.Str.ofString "is_ring") (defArgs st_is_ring) (defBody st_is_ring) (defScope st_is_ring) .none kV_is_ring dc_is_ring pm_is_ring an_is_ring cd_is_ring ct_is_ring), sl_is_ring⟩)
    (c_is_ring : PySem.W.codeIn K cd_is_ring (PySem.Str.ofString "is_ring") = true)
    (k_is_ring : PySem.W.keepIn K (.ref f_is_ring) = true)
    (a_law_ringless : PySem.W.nsIn K mainGlobals (PySem.Str.ofString "_law_ringless") = some (some (.ref f_law_ringless)))
    (l_law_ringless : K.lookup f_law_ringless = some ⟨oc_law_ringless, od_law_ringless, .func (PySem.W.fnOf (PySem.Str.ofString "_law_ringless") (PySem.Str.ofString "_law_ringless") (defArgs st_law_ringless) (defBody st_law_ringless) (defScope st_law_ringless) .none kV_law_ringless dc_law_ringless pm_law_ringless an_law_ringless cd_law_ringless ct_law_ringless), sl_law_ringless⟩)
    (c_law_ringless : PySem.W.codeIn K cd_law_ringless (PySem.Str.ofString "_law_ringless") = true)
    (k_law_ringless : PySem.W.keepIn K (.ref f_law_ringless) = true)
    (a_is_lot : PySem.W.nsIn K mainGlobals (PySem.Str.ofString "is_lot") = some (some (.ref f_is_lot)))
    (l_is_lot : K.lookup f_is_lot = some ⟨oc_is_lot, od_is_lot, .func (PySem.W.fnOf (PySem.Str.ofString "is_lot") (PySem.Str.ofString "is_lot") (defArgs st_is_lot) (defBody st_is_lot) (defScope st_is_lot) .none kV_is_lot dc_is_lot pm_is_lot an_is_lot cd_is_lot ct_is_lot), sl_is_lot⟩)
    (c_is_lot : PySem.W.codeIn K cd_is_lot (PySem.Str.ofString "is_lot") = true)
    (k_is_lot : PySem.W.keepIn K (.ref f_is_lot) = true)
    (a_can_order : PySem.W.nsIn K mainGlobals (PySem.Str.ofString "can_order") = some (some (.ref f_can_order)))
    (l_can_order : K.lookup f_can_order = some ⟨oc_can_order, od_can_order, .func (PySem.W.fnOf (PySem.Str.ofString "can_order") (PySem.Str.ofString "can_order") (defArgs st_can_order) (defBody st_can_order) (defScope st_can_order) .none kV_can_order dc_can_order pm_can_order an_can_order cd_can_order ct_can_order), sl_can_order⟩)
    (c_can_order : PySem.W.codeIn K cd_can_order (PySem.Str.ofString "can_order") = true)
    (k_can_order : PySem.W.keepIn K (.ref f_can_order) = true)
    (a_law_kinds : PySem.W.nsIn K mainGlobals (PySem.Str.ofString "_law_kinds") = some (some (.ref f_law_kinds)))
    (l_law_kinds : K.lookup f_law_kinds = some ⟨oc_law_kinds, od_law_kinds, .func (PySem.W.fnOf (PySem.Str.ofString "_law_kinds") (PySem.Str.ofString "_law_kinds") (defArgs st_law_kinds) (defBody st_law_kinds) (defScope st_law_kinds) .none kV_law_kinds dc_law_kinds pm_law_kinds an_law_kinds cd_law_kinds ct_law_kinds), sl_law_kinds⟩)
    (c_law_kinds : PySem.W.codeIn K cd_law_kinds (PySem.Str.ofString "_law_kinds") = true)
    (k_law_kinds : PySem.W.keepIn K (.ref f_law_kinds) = true)
    (a_law_alone : PySem.W.nsIn K mainGlobals (PySem.Str.ofString "_law_alone") = some (some (.ref f_law_alone)))
    (l_law_alone : K.lookup f_law_alone = some ⟨oc_law_alone, od_law_alone, .func (PySem.W.fnOf (PySem.Str.ofString "_law_alone") (PySem.Str.ofString "_law_alone") (defArgs st_law_alone) (defBody st_law_alone) (defScope st_law_alone) .none kV_law_alone dc_law_alone pm_law_alone an_law_alone cd_law_alone ct_law_alone), sl_law_alone⟩)
    (c_law_alone : PySem.W.codeIn K cd_law_alone (PySem.Str.ofString "_law_alone") = true)
    (k_law_alone : PySem.W.keepIn K (.ref f_law_alone) = true)
    (a_law_same : PySem.W.nsIn K mainGlobals (PySem.Str.ofString "_law_same") = some (some (.ref f_law_same)))
    (l_law_same : K.lookup f_law_same = some ⟨oc_law_same, od_law_same, .func (PySem.W.fnOf (PySem.Str.ofString "_law_same") (PySem.Str.ofString "_law_same") (defArgs st_law_same) (defBody st_law_same) (defScope st_law_same) .none kV_law_same dc_law_same pm_law_same an_law_same cd_law_same ct_law_same), sl_law_same⟩)
    (c_law_same : PySem.W.codeIn K cd_law_same (PySem.Str.ofString "_law_same") = true)
    (k_law_same : PySem.W.keepIn K (.ref f_law_same) = true)
    (a_law_refused : PySem.W.nsIn K mainGlobals (PySem.Str.ofString "_law_refused") = some (some (.ref f_law_refused)))
    (l_law_refused : K.lookup f_law_refused = some ⟨oc_law_refused, od_law_refused, .func (PySem.W.fnOf (PySem.Str.ofString "_law_refused") (PySem.Str.ofString "_law_refused") (defArgs st_law_refused) (defBody st_law_refused) (defScope st_law_refused) .none kV_law_refused dc_law_refused pm_law_refused an_law_refused cd_law_refused ct_law_refused), sl_law_refused⟩)
    (c_law_refused : PySem.W.codeIn K cd_law_refused (PySem.Str.ofString "_law_refused") = true)
    (k_law_refused : PySem.W.keepIn K (.ref f_law_refused) = true)
    (a_law_is_ring : PySem.W.nsIn K mainGlobals (PySem.Str.ofString "_law_is_ring") = some (some (.ref f_law_is_ring)))
    (l_law_is_ring : K.lookup f_law_is_ring = some ⟨oc_law_is_ring, od_law_is_ring, .func (PySem.W.fnOf (PySem.Str.ofString "_law_is_ring") (PySem.Str.ofString "_law_is_ring") (defArgs st_law_is_ring) (defBody st_law_is_ring) (defScope st_law_is_ring) .none kV_law_is_ring dc_law_is_ring pm_law_is_ring an_law_is_ring cd_law_is_ring ct_law_is_ring), sl_law_is_ring⟩)
    (c_law_is_ring : PySem.W.codeIn K cd_law_is_ring (PySem.Str.ofString "_law_is_ring") = true)
    (k_law_is_ring : PySem.W.keepIn K (.ref f_law_is_ring) = true)
    (a_law : PySem.W.nsIn K mainGlobals (PySem.Str.ofString "law") = some (some (.ref f_law)))
    (l_law : K.lookup f_law = some ⟨oc_law, od_law, .func (PySem.W.fnOf (PySem.Str.ofString "law") (PySem.Str.ofString "law") (defArgs st_law) (defBody st_law) (defScope st_law) .none kV_law dc_law pm_law an_law cd_law ct_law), sl_law⟩)
    (c_law : PySem.W.codeIn K cd_law (PySem.Str.ofString "law") = true)
    (k_law : PySem.W.keepIn K (.ref f_law) = true)
    (pg_Net : PySem.W.plainGet K C_Net Str.empty = true)
    (hd_Net : PySem.W.hasDictIn K C_Net = true)
    (po_Net : PySem.W.plainOver K C_Net = true)
    (sa_Net : PySem.W.findIn K (.ref C_Net) "__setattr__" = some (some (.builtin "object.__setattr__")))
    (mk_Net : PySem.W.makesIn K C_Net = true)
    (kq_Net : PySem.W.keepIn K (.ref C_Net) = true)
    (ha_Net : PySem.W.findIn K (.ref C_Net) "__class__" = some (some (.builtin "object.__class__")))
    (hn_Net : PySem.W.specialIn K (.builtin "object.__class__") "__get__" = some (some (.builtin "getset_descriptor.__get__")))
    (ht_Net : PySem.W.takesIn K (.builtin "object.__class__") = some true)
    (hm_Net : PySem.W.mroIn K C_Net (.type "object") = some true)
    (hmt_Net_tuple : PySem.W.mroIn K C_Net (.type "tuple") = some false)
    (nf_Net_size : PySem.W.findIn K (.ref C_Net) (PySem.Str.ofString "size") = some none)
    (nf_Net_arcs : PySem.W.findIn K (.ref C_Net) (PySem.Str.ofString "arcs") = some none)
    (nf_Net_knows : PySem.W.findIn K (.ref C_Net) (PySem.Str.ofString "knows") = some none)
    (xa_InvalidNet : PySem.W.findIn K (.ref X_InvalidNet) "__init__" = some (some (.ref of_InvalidNet)))
    (xt_InvalidNet : PySem.W.typeIn K (.ref of_InvalidNet) = some (.type "function"))
    (xl_InvalidNet : K.lookup of_InvalidNet = some ⟨oc_InvalidNet, od_InvalidNet, .func (PySem.W.fnOf "__init__" (PySem.Str.ofString "InvalidNet.__init__") (defArgs st_xInvalidNet) (defBody st_xInvalidNet) (defScope st_xInvalidNet) .none kV_InvalidNet dc_InvalidNet pm_InvalidNet an_InvalidNet cd_InvalidNet ct_InvalidNet), sl_InvalidNet⟩)
    (xc_InvalidNet : PySem.W.codeIn K cd_InvalidNet (PySem.Str.ofString "InvalidNet.__init__") = true)
    (xk_InvalidNet : PySem.W.keepIn K (.ref of_InvalidNet) = true)
    (xs_InvalidNet : PySem.W.findIn K (.ref X_InvalidNet) "__setattr__" = some (some (.builtin "object.__setattr__")))
    (xe_InvalidNet : PySem.W.subIn K (.ref X_InvalidNet) (.type "BaseException") = some true)
    (xy_InvalidNet : PySem.W.typeIn K (.ref X_InvalidNet) = some (.type "type"))
    (xp_InvalidNet : PySem.W.keepIn K (.ref X_InvalidNet) = true)
    (xo_InvalidNet : ∃ nm q N bs bm sn sub ab col dd k0 k1 k2 k3 k5, K.lookup X_InvalidNet = some (excClassObj nm q X_InvalidNet N bs bm true sn sub ab col dd k0 k1 k2 k3 k5 "ValueError.__new__") ∧ PySem.HandSPX.refsVE bm = true)
    (xf_InvalidNet_part : PySem.W.findIn K (.ref X_InvalidNet) (PySem.Str.ofString "part") = some none)
    (xf_InvalidNet_place : PySem.W.findIn K (.ref X_InvalidNet) (PySem.Str.ofString "place") = some none)
    (eg_InvalidNet : PySem.W.findIn K (.ref X_InvalidNet) "__getattribute__" = some (some (.builtin "BaseException.__getattribute__")))
    (ek_InvalidNet : PySem.W.findIn K (.ref X_InvalidNet) "__getattr__" = some none)
    (eh_InvalidNet : PySem.W.hasDictIn K X_InvalidNet = true)
    (ea_InvalidNet : PySem.W.findIn K (.ref X_InvalidNet) "__class__" = some (some (.builtin "object.__class__")))
    (en_InvalidNet : PySem.W.specialIn K (.builtin "object.__class__") "__get__" = some (some (.builtin "getset_descriptor.__get__")))
    (et_InvalidNet : PySem.W.takesIn K (.builtin "object.__class__") = some true)
    (em_InvalidNet : PySem.W.mroIn K X_InvalidNet (.type "object") = some true)
    (xa_InvalidLot : PySem.W.findIn K (.ref X_InvalidLot) "__init__" = some (some (.ref of_InvalidLot)))
    (xt_InvalidLot : PySem.W.typeIn K (.ref of_InvalidLot) = some (.type "function"))
    (xl_InvalidLot : K.lookup of_InvalidLot = some ⟨oc_InvalidLot, od_InvalidLot, .func (PySem.W.fnOf "__init__" (PySem.Str.ofString "InvalidLot.__init__") (defArgs st_xInvalidLot) (defBody st_xInvalidLot) (defScope st_xInvalidLot) .none kV_InvalidLot dc_InvalidLot pm_InvalidLot an_InvalidLot cd_InvalidLot ct_InvalidLot), sl_InvalidLot⟩)
    (xc_InvalidLot : PySem.W.codeIn K cd_InvalidLot (PySem.Str.ofString "InvalidLot.__init__") = true)
    (xk_InvalidLot : PySem.W.keepIn K (.ref of_InvalidLot) = true)
    (xs_InvalidLot : PySem.W.findIn K (.ref X_InvalidLot) "__setattr__" = some (some (.builtin "object.__setattr__")))
    (xe_InvalidLot : PySem.W.subIn K (.ref X_InvalidLot) (.type "BaseException") = some true)
    (xy_InvalidLot : PySem.W.typeIn K (.ref X_InvalidLot) = some (.type "type"))
    (xp_InvalidLot : PySem.W.keepIn K (.ref X_InvalidLot) = true)
    (xo_InvalidLot : ∃ nm q N bs bm sn sub ab col dd k0 k1 k2 k3 k5, K.lookup X_InvalidLot = some (excClassObj nm q X_InvalidLot N bs bm true sn sub ab col dd k0 k1 k2 k3 k5 "ValueError.__new__") ∧ PySem.HandSPX.refsVE bm = true)
    (xf_InvalidLot_value : PySem.W.findIn K (.ref X_InvalidLot) (PySem.Str.ofString "value") = some none)
    (eg_InvalidLot : PySem.W.findIn K (.ref X_InvalidLot) "__getattribute__" = some (some (.builtin "BaseException.__getattribute__")))
    (ek_InvalidLot : PySem.W.findIn K (.ref X_InvalidLot) "__getattr__" = some none)
    (eh_InvalidLot : PySem.W.hasDictIn K X_InvalidLot = true)
    (ea_InvalidLot : PySem.W.findIn K (.ref X_InvalidLot) "__class__" = some (some (.builtin "object.__class__")))
    (en_InvalidLot : PySem.W.specialIn K (.builtin "object.__class__") "__get__" = some (some (.builtin "getset_descriptor.__get__")))
    (et_InvalidLot : PySem.W.takesIn K (.builtin "object.__class__") = some true)
    (em_InvalidLot : PySem.W.mroIn K X_InvalidLot (.type "object") = some true)
    (ys_SayError : PySem.W.subIn K (.ref Y_SayError) (.type "BaseException") = some true)
    (yd_SayError : PySem.W.hasDictIn K Y_SayError = true)
    (yt_SayError : PySem.W.typeIn K (.ref Y_SayError) = some (.type "type"))
    (yb_InvalidNet_SayError : PySem.W.subIn K (.ref X_InvalidNet) (.ref Y_SayError) = some true)
    (yb_InvalidLot_SayError : PySem.W.subIn K (.ref X_InvalidLot) (.ref Y_SayError) = some true)
    (yk_InvalidNet_InvalidNumber : PySem.W.kitOne K (.ref X_InvalidNet) (.ref Y_InvalidNumber) = some false)
    (yk_InvalidLot_InvalidNumber : PySem.W.kitOne K (.ref X_InvalidLot) (.ref Y_InvalidNumber) = some false)
    (yk_InvalidNet_InvalidMatrix : PySem.W.kitOne K (.ref X_InvalidNet) (.ref Y_InvalidMatrix) = some false)
    (yk_InvalidLot_InvalidMatrix : PySem.W.kitOne K (.ref X_InvalidLot) (.ref Y_InvalidMatrix) = some false)
    (yk_InvalidNet_InvalidAudience : PySem.W.kitOne K (.ref X_InvalidNet) (.ref Y_InvalidAudience) = some false)
    (yk_InvalidLot_InvalidAudience : PySem.W.kitOne K (.ref X_InvalidLot) (.ref Y_InvalidAudience) = some false)
    (yk_InvalidNet_InvalidDeed : PySem.W.kitOne K (.ref X_InvalidNet) (.ref Y_InvalidDeed) = some false)
    (yk_InvalidLot_InvalidDeed : PySem.W.kitOne K (.ref X_InvalidLot) (.ref Y_InvalidDeed) = some false)
    (yk_InvalidNet_InvalidNet : PySem.W.kitOne K (.ref X_InvalidNet) (.ref X_InvalidNet) = some true)
    (yk_InvalidLot_InvalidNet : PySem.W.kitOne K (.ref X_InvalidLot) (.ref X_InvalidNet) = some false)
    (yk_InvalidNet_InvalidLot : PySem.W.kitOne K (.ref X_InvalidNet) (.ref X_InvalidLot) = some false)
    (yk_InvalidLot_InvalidLot : PySem.W.kitOne K (.ref X_InvalidLot) (.ref X_InvalidLot) = some true)
    (yk_InvalidNet_InvalidWord : PySem.W.kitOne K (.ref X_InvalidNet) (.ref Y_InvalidWord) = some false)
    (yk_InvalidLot_InvalidWord : PySem.W.kitOne K (.ref X_InvalidLot) (.ref Y_InvalidWord) = some false)
    (yk_InvalidNet_InvalidWords : PySem.W.kitOne K (.ref X_InvalidNet) (.ref Y_InvalidWords) = some false)
    (yk_InvalidLot_InvalidWords : PySem.W.kitOne K (.ref X_InvalidLot) (.ref Y_InvalidWords) = some false)
    (yk_InvalidNet_InvalidSignals : PySem.W.kitOne K (.ref X_InvalidNet) (.ref Y_InvalidSignals) = some false)
    (yk_InvalidLot_InvalidSignals : PySem.W.kitOne K (.ref X_InvalidLot) (.ref Y_InvalidSignals) = some false)
    (yk_InvalidNet_InvalidLosses : PySem.W.kitOne K (.ref X_InvalidNet) (.ref Y_InvalidLosses) = some false)
    (yk_InvalidLot_InvalidLosses : PySem.W.kitOne K (.ref X_InvalidLot) (.ref Y_InvalidLosses) = some false)
    (yk_InvalidNet_InvalidText : PySem.W.kitOne K (.ref X_InvalidNet) (.ref Y_InvalidText) = some false)
    (yk_InvalidLot_InvalidText : PySem.W.kitOne K (.ref X_InvalidLot) (.ref Y_InvalidText) = some false)
    (yk_InvalidNet_InvalidLine : PySem.W.kitOne K (.ref X_InvalidNet) (.ref Y_InvalidLine) = some false)
    (yk_InvalidLot_InvalidLine : PySem.W.kitOne K (.ref X_InvalidLot) (.ref Y_InvalidLine) = some false)
    (yk_InvalidNet_UnknownWord : PySem.W.kitOne K (.ref X_InvalidNet) (.ref Y_UnknownWord) = some false)
    (yk_InvalidLot_UnknownWord : PySem.W.kitOne K (.ref X_InvalidLot) (.ref Y_UnknownWord) = some false)
    (yk_InvalidNet_TooMany : PySem.W.kitOne K (.ref X_InvalidNet) (.ref Y_TooMany) = some false)
    (yk_InvalidLot_TooMany : PySem.W.kitOne K (.ref X_InvalidLot) (.ref Y_TooMany) = some false)
    (yk_InvalidNet_Undefined : PySem.W.kitOne K (.ref X_InvalidNet) (.ref Y_Undefined) = some false)
    (yk_InvalidLot_Undefined : PySem.W.kitOne K (.ref X_InvalidLot) (.ref Y_Undefined) = some false)
    (yk_InvalidNet_NothingToUndo : PySem.W.kitOne K (.ref X_InvalidNet) (.ref Y_NothingToUndo) = some false)
    (yk_InvalidLot_NothingToUndo : PySem.W.kitOne K (.ref X_InvalidLot) (.ref Y_NothingToUndo) = some false)
    (yk_InvalidNet_SayError : PySem.W.kitOne K (.ref X_InvalidNet) (.ref Y_SayError) = some true)
    (yk_InvalidLot_SayError : PySem.W.kitOne K (.ref X_InvalidLot) (.ref Y_SayError) = some true)
    (yv_InvalidNet_ValueError : PySem.W.kitOne K (.ref X_InvalidNet) (.type "ValueError") = some true)
    (yv_InvalidLot_ValueError : PySem.W.kitOne K (.ref X_InvalidLot) (.type "ValueError") = some true)
    (z_ValueError : PySem.W.nsIn K mainGlobals (PySem.Str.ofString "ValueError") = some none)
    (z_abs : PySem.W.nsIn K mainGlobals (PySem.Str.ofString "abs") = some none)
    (z_all : PySem.W.nsIn K mainGlobals (PySem.Str.ofString "all") = some none)
    (z_any : PySem.W.nsIn K mainGlobals (PySem.Str.ofString "any") = some none)
    (z_bool : PySem.W.nsIn K mainGlobals (PySem.Str.ofString "bool") = some none)
    (z_enumerate : PySem.W.nsIn K mainGlobals (PySem.Str.ofString "enumerate") = some none)
    (z_int : PySem.W.nsIn K mainGlobals (PySem.Str.ofString "int") = some none)
    (z_isinstance : PySem.W.nsIn K mainGlobals (PySem.Str.ofString "isinstance") = some none)
    (z_len : PySem.W.nsIn K mainGlobals (PySem.Str.ofString "len") = some none)
    (z_list : PySem.W.nsIn K mainGlobals (PySem.Str.ofString "list") = some none)
    (z_min : PySem.W.nsIn K mainGlobals (PySem.Str.ofString "min") = some none)
    (z_range : PySem.W.nsIn K mainGlobals (PySem.Str.ofString "range") = some none)
    (z_set : PySem.W.nsIn K mainGlobals (PySem.Str.ofString "set") = some none)
    (z_sorted : PySem.W.nsIn K mainGlobals (PySem.Str.ofString "sorted") = some none)
    (z_str : PySem.W.nsIn K mainGlobals (PySem.Str.ofString "str") = some none)
    (z_tuple : PySem.W.nsIn K mainGlobals (PySem.Str.ofString "tuple") = some none)
    (z_zip : PySem.W.nsIn K mainGlobals (PySem.Str.ofString "zip") = some none)
    (g_MOST_PLACES : PySem.W.nsIn K mainGlobals (PySem.Str.ofString "MOST_PLACES") = some (some (.int 12 t_MOST_PLACES))) :
    ∃ fd : FuncData, (∀ (s : Shared) (v : Value), BindsTo s fd ⟨[v], []⟩ [((PySem.Str.ofString "_law_script"), v)]) ∧ ∀ base : Heap, K.In base → base.Ns mainGlobals mg → FnG l.prog w K mg base (L2N.CX l.prog w) 9 fa fd [(PySem.Str.ofString "_law_script")] (spLaw K) := by
  have e := hfa.symm.trans (PySem.W.mg_of X G a_law)
  cases e
  have F_law_pool := fun_mk (st := st_law_pool) l_law_pool c_law_pool k_law_pool
  have b_law_pool := F_law_pool.binds (ps := [(PySem.Str.ofString "_law_script"), (PySem.Str.ofString "_law_many")]) fun _ _ _ _ _ _ us hl => match us, hl with | [_, _], _ => rfl
  have F_law_draw := fun_mk (st := st_law_draw) l_law_draw c_law_draw k_law_draw
  have b_law_draw := F_law_draw.binds (ps := [(PySem.Str.ofString "_law_pool_here"), (PySem.Str.ofString "_law_many")]) fun _ _ _ _ _ _ us hl => match us, hl with | [_, _], _ => rfl
  have F_law_arcs := fun_mk (st := st_law_arcs) l_law_arcs c_law_arcs k_law_arcs
  have b_law_arcs := F_law_arcs.binds (ps := [(PySem.Str.ofString "_law_pool_here"), (PySem.Str.ofString "_law_most"), (PySem.Str.ofString "_law_odds")]) fun _ _ _ _ _ _ us hl => match us, hl with | [_, _, _], _ => rfl
  have F_is_below := fun_mk (st := st_is_below) l_is_below c_is_below k_is_below
  have b_is_below := F_is_below.binds (ps := [(PySem.Str.ofString "value"), (PySem.Str.ofString "many")]) fun _ _ _ _ _ _ us hl => match us, hl with | [_, _], _ => rfl
  have F_first_wrong_arc := fun_mk (st := st_first_wrong_arc) l_first_wrong_arc c_first_wrong_arc k_first_wrong_arc
  have b_first_wrong_arc := F_first_wrong_arc.binds (ps := [(PySem.Str.ofString "size"), (PySem.Str.ofString "arcs")]) fun _ _ _ _ _ _ us hl => match us, hl with | [_, _], _ => rfl
  have F_Net_init := fun_mk (st := st_Net_init) l_Net_init c_Net_init k_Net_init
  have b_Net_init := F_Net_init.binds (ps := [(PySem.Str.ofString "self"), (PySem.Str.ofString "size"), (PySem.Str.ofString "arcs")]) fun _ _ _ _ _ _ us hl => match us, hl with | [_, _, _], _ => rfl
  have F_stripped := fun_mk (st := st_stripped) l_stripped c_stripped k_stripped
  have b_stripped := F_stripped.binds (ps := [(PySem.Str.ofString "net"), (PySem.Str.ofString "places")]) fun _ _ _ _ _ _ us hl => match us, hl with | [_, _], _ => rfl
  have F_some_ring := fun_mk (st := st_some_ring) l_some_ring c_some_ring k_some_ring
  have b_some_ring := F_some_ring.binds (ps := [(PySem.Str.ofString "net")]) fun _ _ _ _ _ _ us hl => match us, hl with | [_], _ => rfl
  have F_law_knows := fun_mk (st := st_law_knows) l_law_knows c_law_knows k_law_knows
  have b_law_knows := F_law_knows.binds (ps := [(PySem.Str.ofString "_law_net"), (PySem.Str.ofString "_law_i")]) fun _ _ _ _ _ _ us hl => match us, hl with | [_, _], _ => rfl
  have F_law_walked := fun_mk (st := st_law_walked) l_law_walked c_law_walked k_law_walked
  have b_law_walked := F_law_walked.binds (ps := [(PySem.Str.ofString "_law_pool_here"), (PySem.Str.ofString "_law_net")]) fun _ _ _ _ _ _ us hl => match us, hl with | [_, _], _ => rfl
  have F_law_value := fun_mk (st := st_law_value) l_law_value c_law_value k_law_value
  have b_law_value := F_law_value.binds (ps := [(PySem.Str.ofString "_law_pool_here"), (PySem.Str.ofString "_law_net")]) fun _ _ _ _ _ _ us hl => match us, hl with | [_, _], _ => rfl
  have F_is_ring := fun_mk (st := st_is_ring) l_is_ring c_is_ring k_is_ring
  have b_is_ring := F_is_ring.binds (ps := [(PySem.Str.ofString "net"), (PySem.Str.ofString "value")]) fun _ _ _ _ _ _ us hl => match us, hl with | [_, _], _ => rfl
  have F_law_ringless := fun_mk (st := st_law_ringless) l_law_ringless c_law_ringless k_law_ringless
  have b_law_ringless := F_law_ringless.binds (ps := [(PySem.Str.ofString "_law_arcs_here"), (PySem.Str.ofString "_law_lot")]) fun _ _ _ _ _ _ us hl => match us, hl with | [_, _], _ => rfl
  have F_is_lot := fun_mk (st := st_is_lot) l_is_lot c_is_lot k_is_lot
  have b_is_lot := F_is_lot.binds (ps := [(PySem.Str.ofString "value"), (PySem.Str.ofString "size")]) fun _ _ _ _ _ _ us hl => match us, hl with | [_, _], _ => rfl
  have F_can_order := fun_mk (st := st_can_order) l_can_order c_can_order k_can_order
  have b_can_order := F_can_order.binds (ps := [(PySem.Str.ofString "net"), (PySem.Str.ofString "lot")]) fun _ _ _ _ _ _ us hl => match us, hl with | [_, _], _ => rfl
  have F_law_kinds := fun_mk (st := st_law_kinds) l_law_kinds c_law_kinds k_law_kinds
  have b_law_kinds := F_law_kinds.binds (ps := [(PySem.Str.ofString "_law_e")]) fun _ _ _ _ _ _ us hl => match us, hl with | [_], _ => rfl
  have F_law_alone := fun_mk (st := st_law_alone) l_law_alone c_law_alone k_law_alone
  have b_law_alone := F_law_alone.binds (ps := [(PySem.Str.ofString "_law_e"), (PySem.Str.ofString "_law_kind")]) fun _ _ _ _ _ _ us hl => match us, hl with | [_, _], _ => rfl
  have F_law_same := fun_mk (st := st_law_same) l_law_same c_law_same k_law_same
  have b_law_same := F_law_same.binds (ps := [(PySem.Str.ofString "_law_told"), (PySem.Str.ofString "_law_due")]) fun _ _ _ _ _ _ us hl => match us, hl with | [_, _], _ => rfl
  have F_law_refused := fun_mk (st := st_law_refused) l_law_refused c_law_refused k_law_refused
  have b_law_refused := F_law_refused.binds (ps := [(PySem.Str.ofString "_law_helper"), (PySem.Str.ofString "_law_bad")]) fun _ _ _ _ _ _ us hl => match us, hl with | [_, _], _ => rfl
  have F_law_is_ring := fun_mk (st := st_law_is_ring) l_law_is_ring c_law_is_ring k_law_is_ring
  have b_law_is_ring := F_law_is_ring.binds (ps := [(PySem.Str.ofString "_law_net"), (PySem.Str.ofString "_law_value_here")]) fun _ _ _ _ _ _ us hl => match us, hl with | [_, _], _ => rfl
  have F_law := fun_mk (st := st_law) l_law c_law k_law
  have b_law := F_law.binds (ps := [(PySem.Str.ofString "_law_script")]) fun _ _ _ _ _ _ us hl => match us, hl with | [_], _ => rfl
  have oF_InvalidNet := fun_mk (st := st_xInvalidNet) xl_InvalidNet xc_InvalidNet xk_InvalidNet
  have ob_InvalidNet := oF_InvalidNet.binds (ps := [(PySem.Str.ofString "self"), (PySem.Str.ofString "part"), (PySem.Str.ofString "place")]) fun _ _ _ _ _ _ us hl => match us, hl with | [_, _, _], _ => rfl
  have oF_InvalidLot := fun_mk (st := st_xInvalidLot) xl_InvalidLot xc_InvalidLot xk_InvalidLot
  have ob_InvalidLot := oF_InvalidLot.binds (ps := [(PySem.Str.ofString "self"), (PySem.Str.ofString "value")]) fun _ _ _ _ _ _ us hl => match us, hl with | [_, _], _ => rfl
  have xC2_InvalidNet : ExcC K X_InvalidNet := ⟨eg_InvalidNet, ek_InvalidNet, xe_InvalidNet, eh_InvalidNet, ea_InvalidNet, en_InvalidNet, et_InvalidNet, em_InvalidNet⟩
  have xC3_InvalidNet : XfC K X_InvalidNet := ⟨eg_InvalidNet, ek_InvalidNet, xe_InvalidNet, eh_InvalidNet⟩
  have xC2_InvalidLot : ExcC K X_InvalidLot := ⟨eg_InvalidLot, ek_InvalidLot, xe_InvalidLot, eh_InvalidLot, ea_InvalidLot, en_InvalidLot, et_InvalidLot, em_InvalidLot⟩
  have xC3_InvalidLot : XfC K X_InvalidLot := ⟨eg_InvalidLot, ek_InvalidLot, xe_InvalidLot, eh_InvalidLot⟩
  have cl_Net : Cls K C_Net := ⟨pg_Net, hd_Net, po_Net, sa_Net⟩
  have me_Net : PySem.W.kitOne K (.ref C_Net) (.ref C_Net) = some true := by unfold PySem.W.kitOne; simp
  have ic_Net : C8.InsC K C_Net := ⟨cl_Net, ha_Net, hn_Net, ht_Net, hm_Net, me_Net⟩
  refine ⟨PySem.W.fnOf "law" "law" (defArgs st_law) (defBody st_law) (defScope st_law) .none kV_law dc_law pm_law an_law cd_law ct_law, fun s v => .of_eq rfl, fun base _ _ => ?_⟩
  let S : SE := ⟨l.prog, w, K, mg, base, [], fun c => if c = 0 then C_Net else 0, fldF, fun c => if c = 0 then X_InvalidNet else if c = 1 then X_InvalidLot else 0, fun c => if c = 0 then [(PySem.Str.ofString "part"), (PySem.Str.ofString "place")] else if c = 1 then [(PySem.Str.ofString "value")] else []⟩
  let T : Txt S := {
      f_law_pool := f_law_pool, fd_law_pool := _, F_law_pool := F_law_pool, b_law_pool := b_law_pool, m_law_pool := PySem.W.mg_of X G a_law_pool,
      f_law_draw := f_law_draw, fd_law_draw := _, F_law_draw := F_law_draw, b_law_draw := b_law_draw, m_law_draw := PySem.W.mg_of X G a_law_draw,
      f_law_arcs := f_law_arcs, fd_law_arcs := _, F_law_arcs := F_law_arcs, b_law_arcs := b_law_arcs, m_law_arcs := PySem.W.mg_of X G a_law_arcs,
      f_is_below := f_is_below, fd_is_below := _, F_is_below := F_is_below, b_is_below := b_is_below, m_is_below := PySem.W.mg_of X G a_is_below,
      f_first_wrong_arc := f_first_wrong_arc, fd_first_wrong_arc := _, F_first_wrong_arc := F_first_wrong_arc, b_first_wrong_arc := b_first_wrong_arc, m_first_wrong_arc := PySem.W.mg_of X G a_first_wrong_arc,
      f_Net_init := f_Net_init, fd_Net_init := _, F_Net_init := F_Net_init, b_Net_init := b_Net_init,
      f_stripped := f_stripped, fd_stripped := _, F_stripped := F_stripped, b_stripped := b_stripped, m_stripped := PySem.W.mg_of X G a_stripped,
      f_some_ring := f_some_ring, fd_some_ring := _, F_some_ring := F_some_ring, b_some_ring := b_some_ring, m_some_ring := PySem.W.mg_of X G a_some_ring,
      f_law_knows := f_law_knows, fd_law_knows := _, F_law_knows := F_law_knows, b_law_knows := b_law_knows, m_law_knows := PySem.W.mg_of X G a_law_knows,
      f_law_walked := f_law_walked, fd_law_walked := _, F_law_walked := F_law_walked, b_law_walked := b_law_walked, m_law_walked := PySem.W.mg_of X G a_law_walked,
      f_law_value := f_law_value, fd_law_value := _, F_law_value := F_law_value, b_law_value := b_law_value, m_law_value := PySem.W.mg_of X G a_law_value,
      f_is_ring := f_is_ring, fd_is_ring := _, F_is_ring := F_is_ring, b_is_ring := b_is_ring, m_is_ring := PySem.W.mg_of X G a_is_ring,
      f_law_ringless := f_law_ringless, fd_law_ringless := _, F_law_ringless := F_law_ringless, b_law_ringless := b_law_ringless, m_law_ringless := PySem.W.mg_of X G a_law_ringless,
      f_is_lot := f_is_lot, fd_is_lot := _, F_is_lot := F_is_lot, b_is_lot := b_is_lot, m_is_lot := PySem.W.mg_of X G a_is_lot,
      f_can_order := f_can_order, fd_can_order := _, F_can_order := F_can_order, b_can_order := b_can_order, m_can_order := PySem.W.mg_of X G a_can_order,
      f_law_kinds := f_law_kinds, fd_law_kinds := _, F_law_kinds := F_law_kinds, b_law_kinds := b_law_kinds, m_law_kinds := PySem.W.mg_of X G a_law_kinds,
      f_law_alone := f_law_alone, fd_law_alone := _, F_law_alone := F_law_alone, b_law_alone := b_law_alone, m_law_alone := PySem.W.mg_of X G a_law_alone,
      f_law_same := f_law_same, fd_law_same := _, F_law_same := F_law_same, b_law_same := b_law_same, m_law_same := PySem.W.mg_of X G a_law_same,
      f_law_refused := f_law_refused, fd_law_refused := _, F_law_refused := F_law_refused, b_law_refused := b_law_refused, m_law_refused := PySem.W.mg_of X G a_law_refused,
      f_law_is_ring := f_law_is_ring, fd_law_is_ring := _, F_law_is_ring := F_law_is_ring, b_law_is_ring := b_law_is_ring, m_law_is_ring := PySem.W.mg_of X G a_law_is_ring,
      f_law := _, fd_law := _, F_law := F_law, b_law := b_law, m_law := PySem.W.mg_of X G a_law,
      n_ValueError := PySem.W.mg_none_of X G z_ValueError,
      n_abs := PySem.W.mg_none_of X G z_abs,
      n_all := PySem.W.mg_none_of X G z_all,
      n_any := PySem.W.mg_none_of X G z_any,
      n_bool := PySem.W.mg_none_of X G z_bool,
      n_enumerate := PySem.W.mg_none_of X G z_enumerate,
      n_int := PySem.W.mg_none_of X G z_int,
      n_isinstance := PySem.W.mg_none_of X G z_isinstance,
      n_len := PySem.W.mg_none_of X G z_len,
      n_list := PySem.W.mg_none_of X G z_list,
      n_min := PySem.W.mg_none_of X G z_min,
      n_range := PySem.W.mg_none_of X G z_range,
      n_set := PySem.W.mg_none_of X G z_set,
      n_sorted := PySem.W.mg_none_of X G z_sorted,
      n_str := PySem.W.mg_none_of X G z_str,
      n_tuple := PySem.W.mg_none_of X G z_tuple,
      n_zip := PySem.W.mg_none_of X G z_zip,
      c_MOST_PLACES := ⟨_, PySem.W.mg_of X G g_MOST_PLACES, ⟨_, rfl⟩⟩,
      m_Net := PySem.W.mg_of X G aC_Net, cl_Net := cl_Net,
      mk_Net := ⟨mk_Net, a_Net_init, i_Net_init, kq_Net⟩,
      kt_Net_tuple := ⟨ic_Net, kitOne_cls hmt_Net_tuple⟩,
      kc_Net := fun c b h => (by
        unfold Lk09.kc_Net at h
        split at h
        · next e => cases e; cases h; exact ⟨ic_Net, me_Net⟩
        · cases h),
      fx_size := rfl, inj_size := injF_size,
      fc_size := fun c hc => (by
        rcases List.mem_cons.mp hc with rfl | hc
        · exact ⟨cl_Net, nf_Net_size⟩
        cases hc),
      f1_Net_size := fun c hc => (by
        rcases List.mem_cons.mp hc with rfl | hc
        · exact ⟨cl_Net, nf_Net_size⟩
        cases hc),
      fx_arcs := rfl, inj_arcs := injF_arcs,
      fc_arcs := fun c hc => (by
        rcases List.mem_cons.mp hc with rfl | hc
        · exact ⟨cl_Net, nf_Net_arcs⟩
        cases hc),
      f1_Net_arcs := fun c hc => (by
        rcases List.mem_cons.mp hc with rfl | hc
        · exact ⟨cl_Net, nf_Net_arcs⟩
        cases hc),
      fx_knows := rfl, inj_knows := injF_knows,
      fc_knows := fun c hc => (by
        rcases List.mem_cons.mp hc with rfl | hc
        · exact ⟨cl_Net, nf_Net_knows⟩
        cases hc),
      f1_Net_knows := fun c hc => (by
        rcases List.mem_cons.mp hc with rfl | hc
        · exact ⟨cl_Net, nf_Net_knows⟩
        cases hc),
      of_InvalidNet := of_InvalidNet, od_InvalidNet := _, ox_InvalidNet := ⟨xo_InvalidNet, xs_InvalidNet, xe_InvalidNet, xy_InvalidNet, xp_InvalidNet⟩, oi_InvalidNet := xa_InvalidNet, ot_InvalidNet := xt_InvalidNet, oF_InvalidNet := oF_InvalidNet, ob_InvalidNet := ob_InvalidNet, om_InvalidNet := PySem.W.mg_of X G xC_InvalidNet, oe_InvalidNet := rfl,
      on_InvalidNet := fun n hn => (by
        rcases List.mem_cons.mp hn with rfl | hn
        · exact xf_InvalidNet_part
        rcases List.mem_cons.mp hn with rfl | hn
        · exact xf_InvalidNet_place
        cases hn),
      of_InvalidLot := of_InvalidLot, od_InvalidLot := _, ox_InvalidLot := ⟨xo_InvalidLot, xs_InvalidLot, xe_InvalidLot, xy_InvalidLot, xp_InvalidLot⟩, oi_InvalidLot := xa_InvalidLot, ot_InvalidLot := xt_InvalidLot, oF_InvalidLot := oF_InvalidLot, ob_InvalidLot := ob_InvalidLot, om_InvalidLot := PySem.W.mg_of X G xC_InvalidLot, oe_InvalidLot := rfl,
      on_InvalidLot := fun n hn => (by
        rcases List.mem_cons.mp hn with rfl | hn
        · exact xf_InvalidLot_value
        cases hn),
      oa_SayError := Y_SayError, oy_SayError := PySem.W.mg_of X G yC_SayError,
      oa_InvalidNumber := Y_InvalidNumber, oy_InvalidNumber := PySem.W.mg_of X G yC_InvalidNumber,
      oa_InvalidMatrix := Y_InvalidMatrix, oy_InvalidMatrix := PySem.W.mg_of X G yC_InvalidMatrix,
      oa_InvalidAudience := Y_InvalidAudience, oy_InvalidAudience := PySem.W.mg_of X G yC_InvalidAudience,
      oa_InvalidDeed := Y_InvalidDeed, oy_InvalidDeed := PySem.W.mg_of X G yC_InvalidDeed,
      oa_InvalidNet := X_InvalidNet, oy_InvalidNet := PySem.W.mg_of X G xC_InvalidNet,
      oa_InvalidLot := X_InvalidLot, oy_InvalidLot := PySem.W.mg_of X G xC_InvalidLot,
      oa_InvalidWord := Y_InvalidWord, oy_InvalidWord := PySem.W.mg_of X G yC_InvalidWord,
      oa_InvalidWords := Y_InvalidWords, oy_InvalidWords := PySem.W.mg_of X G yC_InvalidWords,
      oa_InvalidSignals := Y_InvalidSignals, oy_InvalidSignals := PySem.W.mg_of X G yC_InvalidSignals,
      oa_InvalidLosses := Y_InvalidLosses, oy_InvalidLosses := PySem.W.mg_of X G yC_InvalidLosses,
      oa_InvalidText := Y_InvalidText, oy_InvalidText := PySem.W.mg_of X G yC_InvalidText,
      oa_InvalidLine := Y_InvalidLine, oy_InvalidLine := PySem.W.mg_of X G yC_InvalidLine,
      oa_UnknownWord := Y_UnknownWord, oy_UnknownWord := PySem.W.mg_of X G yC_UnknownWord,
      oa_TooMany := Y_TooMany, oy_TooMany := PySem.W.mg_of X G yC_TooMany,
      oa_Undefined := Y_Undefined, oy_Undefined := PySem.W.mg_of X G yC_Undefined,
      oa_NothingToUndo := Y_NothingToUndo, oy_NothingToUndo := PySem.W.mg_of X G yC_NothingToUndo,
      oh_SayError := (fun c hc => match c, hc with | 0, _ => PySem.W.exm_ref ys_SayError yd_SayError yt_SayError yb_InvalidNet_SayError | 1, _ => PySem.W.exm_ref ys_SayError yd_SayError yt_SayError yb_InvalidLot_SayError | _ + 2, h => absurd h (by omega)),
      oi1_InvalidNumber := (fun c hc => match c, hc with | 0, _ => ⟨xC2_InvalidNet, yk_InvalidNet_InvalidNumber⟩ | 1, _ => ⟨xC2_InvalidLot, yk_InvalidLot_InvalidNumber⟩ | _ + 2, h => absurd h (by omega)),
      oi1_InvalidMatrix := (fun c hc => match c, hc with | 0, _ => ⟨xC2_InvalidNet, yk_InvalidNet_InvalidMatrix⟩ | 1, _ => ⟨xC2_InvalidLot, yk_InvalidLot_InvalidMatrix⟩ | _ + 2, h => absurd h (by omega)),
      oi1_InvalidAudience := (fun c hc => match c, hc with | 0, _ => ⟨xC2_InvalidNet, yk_InvalidNet_InvalidAudience⟩ | 1, _ => ⟨xC2_InvalidLot, yk_InvalidLot_InvalidAudience⟩ | _ + 2, h => absurd h (by omega)),
      oi1_InvalidDeed := (fun c hc => match c, hc with | 0, _ => ⟨xC2_InvalidNet, yk_InvalidNet_InvalidDeed⟩ | 1, _ => ⟨xC2_InvalidLot, yk_InvalidLot_InvalidDeed⟩ | _ + 2, h => absurd h (by omega)),
      oi1_InvalidNet := (fun c hc => match c, hc with | 0, _ => ⟨xC2_InvalidNet, yk_InvalidNet_InvalidNet⟩ | 1, _ => ⟨xC2_InvalidLot, yk_InvalidLot_InvalidNet⟩ | _ + 2, h => absurd h (by omega)),
      oi1_InvalidLot := (fun c hc => match c, hc with | 0, _ => ⟨xC2_InvalidNet, yk_InvalidNet_InvalidLot⟩ | 1, _ => ⟨xC2_InvalidLot, yk_InvalidLot_InvalidLot⟩ | _ + 2, h => absurd h (by omega)),
      oi1_InvalidWord := (fun c hc => match c, hc with | 0, _ => ⟨xC2_InvalidNet, yk_InvalidNet_InvalidWord⟩ | 1, _ => ⟨xC2_InvalidLot, yk_InvalidLot_InvalidWord⟩ | _ + 2, h => absurd h (by omega)),
      oi1_InvalidWords := (fun c hc => match c, hc with | 0, _ => ⟨xC2_InvalidNet, yk_InvalidNet_InvalidWords⟩ | 1, _ => ⟨xC2_InvalidLot, yk_InvalidLot_InvalidWords⟩ | _ + 2, h => absurd h (by omega)),
      oi1_InvalidSignals := (fun c hc => match c, hc with | 0, _ => ⟨xC2_InvalidNet, yk_InvalidNet_InvalidSignals⟩ | 1, _ => ⟨xC2_InvalidLot, yk_InvalidLot_InvalidSignals⟩ | _ + 2, h => absurd h (by omega)),
      oi1_InvalidLosses := (fun c hc => match c, hc with | 0, _ => ⟨xC2_InvalidNet, yk_InvalidNet_InvalidLosses⟩ | 1, _ => ⟨xC2_InvalidLot, yk_InvalidLot_InvalidLosses⟩ | _ + 2, h => absurd h (by omega)),
      oi1_InvalidText := (fun c hc => match c, hc with | 0, _ => ⟨xC2_InvalidNet, yk_InvalidNet_InvalidText⟩ | 1, _ => ⟨xC2_InvalidLot, yk_InvalidLot_InvalidText⟩ | _ + 2, h => absurd h (by omega)),
      oi1_InvalidLine := (fun c hc => match c, hc with | 0, _ => ⟨xC2_InvalidNet, yk_InvalidNet_InvalidLine⟩ | 1, _ => ⟨xC2_InvalidLot, yk_InvalidLot_InvalidLine⟩ | _ + 2, h => absurd h (by omega)),
      oi1_UnknownWord := (fun c hc => match c, hc with | 0, _ => ⟨xC2_InvalidNet, yk_InvalidNet_UnknownWord⟩ | 1, _ => ⟨xC2_InvalidLot, yk_InvalidLot_UnknownWord⟩ | _ + 2, h => absurd h (by omega)),
      oi1_TooMany := (fun c hc => match c, hc with | 0, _ => ⟨xC2_InvalidNet, yk_InvalidNet_TooMany⟩ | 1, _ => ⟨xC2_InvalidLot, yk_InvalidLot_TooMany⟩ | _ + 2, h => absurd h (by omega)),
      oi1_Undefined := (fun c hc => match c, hc with | 0, _ => ⟨xC2_InvalidNet, yk_InvalidNet_Undefined⟩ | 1, _ => ⟨xC2_InvalidLot, yk_InvalidLot_Undefined⟩ | _ + 2, h => absurd h (by omega)),
      oi1_NothingToUndo := (fun c hc => match c, hc with | 0, _ => ⟨xC2_InvalidNet, yk_InvalidNet_NothingToUndo⟩ | 1, _ => ⟨xC2_InvalidLot, yk_InvalidLot_NothingToUndo⟩ | _ + 2, h => absurd h (by omega)),
      oi1_SayError := (fun c hc => match c, hc with | 0, _ => ⟨xC2_InvalidNet, yk_InvalidNet_SayError⟩ | 1, _ => ⟨xC2_InvalidLot, yk_InvalidLot_SayError⟩ | _ + 2, h => absurd h (by omega)),
      ob1_ValueError := (fun c hc => match c, hc with | 0, _ => ⟨xC2_InvalidNet, yv_InvalidNet_ValueError⟩ | 1, _ => ⟨xC2_InvalidLot, yv_InvalidLot_ValueError⟩ | _ + 2, h => absurd h (by omega)),
      xg_value := (fun c j hc hj => match c, hc, hj with | 0, _, e => (by cases e) | 1, _, e => (by cases e; exact ⟨rfl, xC3_InvalidLot, xf_InvalidLot_value⟩) | _ + 2, h, _ => absurd h (by omega)) }
  exact (ok_law T).imp (sp_law (G := S) rfl)
theorem walk {l : PySem.W.OpenLaw} {q : Program} {loose : List Str} {XP : (Str → Option Value) → Heap → Prop} {YP : World → Heap → Prop} {d : DefRec} {K : Params → PySem.W.Frag} (hn : l.most = some 63) (hdf : d.params.defaults = [])
    (hY : ∀ (w : World) (h : Heap), YP w h → (K w.params).In h)
    (F : ∀ (w : World) (mg : Str → Option Value) (fa : Addr) (h : Heap), (K w.params).In h → h.Ns mainGlobals mg → mg d.name = some (.ref fa) →
      ∃ fd : FuncData, (∀ (s : Shared) (u : Value), BindsTo s fd ⟨[u], []⟩ [((PySem.Str.ofString "_law_script"), u)]) ∧ ∀ base : Heap, (K w.params).In base → base.Ns mainGlobals mg → FnG l.prog w (K w.params) mg base (L2N.CX l.prog w) 9 fa fd [(PySem.Str.ofString "_law_script")] (spLaw (K w.params))) :
    PySem.W.WalkO q loose XP YP l.row.toRowW d [] (fun f vs => PySem.call f vs) :=
  KS.walk_ofG (n := 63) (k := 9) (x := (PySem.Str.ofString "_law_script")) (CX := fun w => L2N.CX l.prog w) (sp := fun w => spLaw (K w.params)) hn (by decide) hdf ⟨rfl, by decide, by decide⟩ hY F (fun _ _ a ns hl hb _ hS => ⟨a, ns, rfl, hS, hl, hb, fun _ => rfl⟩) fun _ _ _ _ _ h => by
    obtain ⟨_, _, _, _, _, _, _, _, _, _, _, _, z⟩ := h
    exact z.elim
end Lk09
open PySem PySem.W PyProof.Rows in
set_option maxRecDepth 100000 in
set_option maxHeartbeats 0 in
theorem PySem.Challenge.cw_keptandsaid_k09_rings_holds : PySem.Challenge.rw_keptandsaid_k09_rings.Holds := by
  w_on; o_law; k_head; (case hw => w_witness2)
  k_fill
  refine Lk09.walk (l := PySem.Challenge.rw_keptandsaid_k09_rings) rfl rfl (fun w h Y => PySem.W.kIn_of Y) ?F
  case F =>
    intro w mg fa h KX G hmg
    refine' Lk09.all_mk KX G hmg ?aC_Net ?xC_InvalidNet ?xC_InvalidLot ?yC_SayError ?yC_InvalidNumber ?yC_InvalidMatrix ?yC_InvalidAudience ?yC_InvalidDeed ?yC_InvalidWord ?yC_InvalidWords ?yC_InvalidSignals ?yC_InvalidLosses ?yC_InvalidText ?yC_InvalidLine ?yC_UnknownWord ?yC_TooMany ?yC_Undefined ?yC_NothingToUndo ?a_law_pool ?l_law_pool ?c_law_pool ?k_law_pool ?a_law_draw ?l_law_draw ?c_law_draw ?k_law_draw ?a_law_arcs ?l_law_arcs ?c_law_arcs ?k_law_arcs ?a_is_below ?l_is_below ?c_is_below ?k_is_below ?a_first_wrong_arc ?l_first_wrong_arc ?c_first_wrong_arc ?k_first_wrong_arc ?a_Net_init ?i_Net_init ?l_Net_init ?c_Net_init ?k_Net_init ?a_stripped ?l_stripped ?c_stripped ?k_stripped ?a_some_ring ?l_some_ring ?c_some_ring ?k_some_ring ?a_law_knows ?l_law_knows ?c_law_knows ?k_law_knows ?a_law_walked ?l_law_walked ?c_law_walked ?k_law_walked ?a_law_value ?l_law_value ?c_law_value ?k_law_value ?a_is_ring ?l_is_ring ?c_is_ring ?k_is_ring ?a_law_ringless ?l_law_ringless ?c_law_ringless ?k_law_ringless ?a_is_lot ?l_is_lot ?c_is_lot ?k_is_lot ?a_can_order ?l_can_order ?c_can_order ?k_can_order ?a_law_kinds ?l_law_kinds ?c_law_kinds ?k_law_kinds ?a_law_alone ?l_law_alone ?c_law_alone ?k_law_alone ?a_law_same ?l_law_same ?c_law_same ?k_law_same ?a_law_refused ?l_law_refused ?c_law_refused ?k_law_refused ?a_law_is_ring ?l_law_is_ring ?c_law_is_ring ?k_law_is_ring ?a_law ?l_law ?c_law ?k_law ?pg_Net ?hd_Net ?po_Net ?sa_Net ?mk_Net ?kq_Net ?ha_Net ?hn_Net ?ht_Net ?hm_Net ?hmt_Net_tuple ?nf_Net_size ?nf_Net_arcs ?nf_Net_knows ?xa_InvalidNet ?xt_InvalidNet ?xl_InvalidNet ?xc_InvalidNet ?xk_InvalidNet ?xs_InvalidNet ?xe_InvalidNet ?xy_InvalidNet ?xp_InvalidNet ?xo_InvalidNet ?xf_InvalidNet_part ?xf_InvalidNet_place ?eg_InvalidNet ?ek_InvalidNet ?eh_InvalidNet ?ea_InvalidNet ?en_InvalidNet ?et_InvalidNet ?em_InvalidNet ?xa_InvalidLot ?xt_InvalidLot ?xl_InvalidLot ?xc_InvalidLot ?xk_InvalidLot ?xs_InvalidLot ?xe_InvalidLot ?xy_InvalidLot ?xp_InvalidLot ?xo_InvalidLot ?xf_InvalidLot_value ?eg_InvalidLot ?ek_InvalidLot ?eh_InvalidLot ?ea_InvalidLot ?en_InvalidLot ?et_InvalidLot ?em_InvalidLot ?ys_SayError ?yd_SayError ?yt_SayError ?yb_InvalidNet_SayError ?yb_InvalidLot_SayError ?yk_InvalidNet_InvalidNumber ?yk_InvalidLot_InvalidNumber ?yk_InvalidNet_InvalidMatrix ?yk_InvalidLot_InvalidMatrix ?yk_InvalidNet_InvalidAudience ?yk_InvalidLot_InvalidAudience ?yk_InvalidNet_InvalidDeed ?yk_InvalidLot_InvalidDeed ?yk_InvalidNet_InvalidNet ?yk_InvalidLot_InvalidNet ?yk_InvalidNet_InvalidLot ?yk_InvalidLot_InvalidLot ?yk_InvalidNet_InvalidWord ?yk_InvalidLot_InvalidWord ?yk_InvalidNet_InvalidWords ?yk_InvalidLot_InvalidWords ?yk_InvalidNet_InvalidSignals ?yk_InvalidLot_InvalidSignals ?yk_InvalidNet_InvalidLosses ?yk_InvalidLot_InvalidLosses ?yk_InvalidNet_InvalidText ?yk_InvalidLot_InvalidText ?yk_InvalidNet_InvalidLine ?yk_InvalidLot_InvalidLine ?yk_InvalidNet_UnknownWord ?yk_InvalidLot_UnknownWord ?yk_InvalidNet_TooMany ?yk_InvalidLot_TooMany ?yk_InvalidNet_Undefined ?yk_InvalidLot_Undefined ?yk_InvalidNet_NothingToUndo ?yk_InvalidLot_NothingToUndo ?yk_InvalidNet_SayError ?yk_InvalidLot_SayError ?yv_InvalidNet_ValueError ?yv_InvalidLot_ValueError ?z_ValueError ?z_abs ?z_all ?z_any ?z_bool ?z_enumerate ?z_int ?z_isinstance ?z_len ?z_list ?z_min ?z_range ?z_set ?z_sorted ?z_str ?z_tuple ?z_zip ?g_MOST_PLACES
    (case aC_Net => k_is)
    (case xC_InvalidNet => k_is)
    (case xC_InvalidLot => k_is)
    (case yC_SayError => k_is)
    (case yC_InvalidNumber => k_is)
    (case yC_InvalidMatrix => k_is)
    (case yC_InvalidAudience => k_is)
    (case yC_InvalidDeed => k_is)
    (case yC_InvalidWord => k_is)
    (case yC_InvalidWords => k_is)
    (case yC_InvalidSignals => k_is)
    (case yC_InvalidLosses => k_is)
    (case yC_InvalidText => k_is)
    (case yC_InvalidLine => k_is)
    (case yC_UnknownWord => k_is)
    (case yC_TooMany => k_is)
    (case yC_Undefined => k_is)
    (case yC_NothingToUndo => k_is)
    (case a_law_pool => k_is)
    (case l_law_pool => k_is)
    (case c_law_pool => k_is)
    (case k_law_pool => k_is)
    (case a_law_draw => k_is)
    (case l_law_draw => k_is)
    (case c_law_draw => k_is)
    (case k_law_draw => k_is)
    (case a_law_arcs => k_is)
    (case l_law_arcs => k_is)
    (case c_law_arcs => k_is)
    (case k_law_arcs => k_is)
    (case a_is_below => k_is)
    (case l_is_below => k_is)
    (case c_is_below => k_is)
    (case k_is_below => k_is)
    (case a_first_wrong_arc => k_is)
    (case l_first_wrong_arc => k_is)
    (case c_first_wrong_arc => k_is)
    (case k_first_wrong_arc => k_is)
    (case a_Net_init => k_is)
    (case i_Net_init => k_is)
    (case l_Net_init => k_is)
    (case c_Net_init => k_is)
    (case k_Net_init => k_is)
    (case a_stripped => k_is)
    (case l_stripped => k_is)
    (case c_stripped => k_is)
    (case k_stripped => k_is)
    (case a_some_ring => k_is)
    (case l_some_ring => k_is)
    (case c_some_ring => k_is)
    (case k_some_ring => k_is)
    (case a_law_knows => k_is)
    (case l_law_knows => k_is)
    (case c_law_knows => k_is)
    (case k_law_knows => k_is)
    (case a_law_walked => k_is)
    (case l_law_walked => k_is)
    (case c_law_walked => k_is)
    (case k_law_walked => k_is)
    (case a_law_value => k_is)
    (case l_law_value => k_is)
    (case c_law_value => k_is)
    (case k_law_value => k_is)
    (case a_is_ring => k_is)
    (case l_is_ring => k_is)
    (case c_is_ring => k_is)
    (case k_is_ring => k_is)
    (case a_law_ringless => k_is)
    (case l_law_ringless => k_is)
    (case c_law_ringless => k_is)
    (case k_law_ringless => k_is)
    (case a_is_lot => k_is)
    (case l_is_lot => k_is)
    (case c_is_lot => k_is)
    (case k_is_lot => k_is)
    (case a_can_order => k_is)
    (case l_can_order => k_is)
    (case c_can_order => k_is)
    (case k_can_order => k_is)
    (case a_law_kinds => k_is)
    (case l_law_kinds => k_is)
    (case c_law_kinds => k_is)
    (case k_law_kinds => k_is)
    (case a_law_alone => k_is)
    (case l_law_alone => k_is)
    (case c_law_alone => k_is)
    (case k_law_alone => k_is)
    (case a_law_same => k_is)
    (case l_law_same => k_is)
    (case c_law_same => k_is)
    (case k_law_same => k_is)
    (case a_law_refused => k_is)
    (case l_law_refused => k_is)
    (case c_law_refused => k_is)
    (case k_law_refused => k_is)
    (case a_law_is_ring => k_is)
    (case l_law_is_ring => k_is)
    (case c_law_is_ring => k_is)
    (case k_law_is_ring => k_is)
    (case a_law => k_is)
    (case l_law => k_is)
    (case c_law => k_is)
    (case k_law => k_is)
    (case pg_Net => k_is)
    (case hd_Net => k_is)
    (case po_Net => k_is)
    (case sa_Net => k_is)
    (case mk_Net => k_is)
    (case kq_Net => k_is)
    (case ha_Net => k_is)
    (case hn_Net => k_is)
    (case ht_Net => k_is)
    (case hm_Net => k_is)
    (case hmt_Net_tuple => k_is)
    (case nf_Net_size => k_is)
    (case nf_Net_arcs => k_is)
    (case nf_Net_knows => k_is)
    (case xa_InvalidNet => k_is)
    (case xt_InvalidNet => k_is)
    (case xl_InvalidNet => k_is)
    (case xc_InvalidNet => k_is)
    (case xk_InvalidNet => k_is)
    (case xs_InvalidNet => k_is)
    (case xe_InvalidNet => k_is)
    (case xy_InvalidNet => k_is)
    (case xp_InvalidNet => k_is)
    (case xo_InvalidNet => exact ⟨_, _, _, _, [.ref _, .type "ValueError", .type "Exception", .type "BaseException", .type "object"], _, _, _, _, _, _, _, _, _, _, (by k_is), (by decide +kernel)⟩)
    (case xf_InvalidNet_part => k_is)
    (case xf_InvalidNet_place => k_is)
    (case eg_InvalidNet => k_is)
    (case ek_InvalidNet => k_is)
    (case eh_InvalidNet => k_is)
    (case ea_InvalidNet => k_is)
    (case en_InvalidNet => k_is)
    (case et_InvalidNet => k_is)
    (case em_InvalidNet => k_is)
    (case xa_InvalidLot => k_is)
    (case xt_InvalidLot => k_is)
    (case xl_InvalidLot => k_is)
    (case xc_InvalidLot => k_is)
    (case xk_InvalidLot => k_is)
    (case xs_InvalidLot => k_is)
    (case xe_InvalidLot => k_is)
    (case xy_InvalidLot => k_is)
    (case xp_InvalidLot => k_is)
    (case xo_InvalidLot => exact ⟨_, _, _, _, [.ref _, .type "ValueError", .type "Exception", .type "BaseException", .type "object"], _, _, _, _, _, _, _, _, _, _, (by k_is), (by decide +kernel)⟩)
    (case xf_InvalidLot_value => k_is)
    (case eg_InvalidLot => k_is)
    (case ek_InvalidLot => k_is)
    (case eh_InvalidLot => k_is)
    (case ea_InvalidLot => k_is)
    (case en_InvalidLot => k_is)
    (case et_InvalidLot => k_is)
    (case em_InvalidLot => k_is)
    (case ys_SayError => k_is)
    (case yd_SayError => k_is)
    (case yt_SayError => k_is)
    (case yb_InvalidNet_SayError => k_is)
    (case yb_InvalidLot_SayError => k_is)
    (case yk_InvalidNet_InvalidNumber => kit_is)
    (case yk_InvalidLot_InvalidNumber => kit_is)
    (case yk_InvalidNet_InvalidMatrix => kit_is)
    (case yk_InvalidLot_InvalidMatrix => kit_is)
    (case yk_InvalidNet_InvalidAudience => kit_is)
    (case yk_InvalidLot_InvalidAudience => kit_is)
    (case yk_InvalidNet_InvalidDeed => kit_is)
    (case yk_InvalidLot_InvalidDeed => kit_is)
    (case yk_InvalidNet_InvalidNet => kit_is)
    (case yk_InvalidLot_InvalidNet => kit_is)
    (case yk_InvalidNet_InvalidLot => kit_is)
    (case yk_InvalidLot_InvalidLot => kit_is)
    (case yk_InvalidNet_InvalidWord => kit_is)
    (case yk_InvalidLot_InvalidWord => kit_is)
    (case yk_InvalidNet_InvalidWords => kit_is)
    (case yk_InvalidLot_InvalidWords => kit_is)
    (case yk_InvalidNet_InvalidSignals => kit_is)
    (case yk_InvalidLot_InvalidSignals => kit_is)
    (case yk_InvalidNet_InvalidLosses => kit_is)
    (case yk_InvalidLot_InvalidLosses => kit_is)
    (case yk_InvalidNet_InvalidText => kit_is)
    (case yk_InvalidLot_InvalidText => kit_is)
    (case yk_InvalidNet_InvalidLine => kit_is)
    (case yk_InvalidLot_InvalidLine => kit_is)
    (case yk_InvalidNet_UnknownWord => kit_is)
    (case yk_InvalidLot_UnknownWord => kit_is)
    (case yk_InvalidNet_TooMany => kit_is)
    (case yk_InvalidLot_TooMany => kit_is)
    (case yk_InvalidNet_Undefined => kit_is)
    (case yk_InvalidLot_Undefined => kit_is)
    (case yk_InvalidNet_NothingToUndo => kit_is)
    (case yk_InvalidLot_NothingToUndo => kit_is)
    (case yk_InvalidNet_SayError => kit_is)
    (case yk_InvalidLot_SayError => kit_is)
    (case yv_InvalidNet_ValueError => kit_is)
    (case yv_InvalidLot_ValueError => kit_is)
    (case z_ValueError => k_is)
    (case z_abs => k_is)
    (case z_all => k_is)
    (case z_any => k_is)
    (case z_bool => k_is)
    (case z_enumerate => k_is)
    (case z_int => k_is)
    (case z_isinstance => k_is)
    (case z_len => k_is)
    (case z_list => k_is)
    (case z_min => k_is)
    (case z_range => k_is)
    (case z_set => k_is)
    (case z_sorted => k_is)
    (case z_str => k_is)
    (case z_tuple => k_is)
    (case z_zip => k_is)
    (case g_MOST_PLACES => k_is)
