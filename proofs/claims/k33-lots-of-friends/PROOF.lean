import PyProof.Rows.All
import Wide.All
import OpenK.AllK
import Wide.FinOn
import HandS.ForMost
import HandS.Exc
import HandS.ExcInit
import HandS.ExcOwn
import HandS.CallSlots
import HandS.Walk
import HandS.EndTab
import HandS.EndBits
import HandS.WordsExc
import HandS.AnyAll
import HandS.TupAny
import HandS.TupMul
import HandS.TupLe
import HandS.Codes
import HandS.Deep
import HandS.IsInst
import HandS.Conv
import HandS.ExcCtx
import HandS.Zip
import KE.GoesMore
import PyProof.EnumMake
import HandS.More
import HandS.FStr
import HandS.Text
import KE.SortData
import HandS.DictTup
import PyProof.DictMoreH
import HandS.OwnEq
import HandS.Words
import HandS.SortInts
import KE.DataFind
import HandS.SetFor
import HandS.TryMany
import HandS.ExcField
import HandS.HotCalls
import HandS.ExcIs
import KE.KExcIs
import HandS.Ends
import PyProof.ReprRoads
import HandS.MakeKwOnly
import HandS.TupLen
import HandS.GenOver
import HandS.Strs
import PyProof.WalksMore
import PyProof.Rows.SumAny
import PyProof.StrOps2
import PyProof.IsRules
import HandS.Star
import HandS.SetKeys
import PyProof.DictRoadsH
import PyProof.Rows.TupDisplay
import PyProof.Rows.SetFrom
import PyProof.SetRoads
import HandS.Style
import KE.KRevSl
import PyProof.InstEq
import HandS.Hot
import PyProof.TupleIter
import HandS.DictComp
import PyProof.SeqIndex
import PyProof.SliceList
import PyProof.ReprLen
import PyProof.Rows.ReprOcc
import PySem.Challenge.RW_keptandsaid_k33_lots_of_friends
import PyProof.EqAt
import PyProof.EqKinds
import PyProof.TupleCall
import Open.SpecLaws
import KE.OsGo
import KE.RegKIsAll
set_option Elab.async false
set_option linter.all false
set_option maxRecDepth 100000
set_option maxHeartbeats 4000000
namespace KS
open PySem PySem.Spec L2
/-- a value by its content; var i: the list (dict, object) that slot i owns -/
inductive D where
  | non | bl (b : Bool) | int (i : Int) | str (x : Str)
  | tup (ds : List D) | lst (ds : List D) | scr (ns : List Int)
  | obj (c : Nat) (ns : List Nat) (fs : List D)
  | dct (ks vs : List D)
  | var (i : Nat)
abbrev Fr := List (Option D)
/-- an end: a value, an exception (its class's number, its fields), or what is not told -/
inductive Res (σ α : Type) where
  | ok (a : α) (s : σ) | exc (c : Nat) (fs : List D) (s : σ) | bad
inductive Fl where
  | nx | brk | cnt | ret (d : D)
abbrev Ev := Fr → Res Fr D
abbrev Av := Fr → Res Fr (List D)
abbrev Bv := Fr → Res Fr Bool
abbrev Sv := Fr → Res Fr Fl
abbrev Fn := List D → Res (List D) D
def Res.bind {σ α β : Type} (r : Res σ α) (k : α → σ → Res σ β) : Res σ β :=
  match r with
  | .ok a s => k a s
  | .exc c fs s => .exc c fs s
  | .bad => .bad
/-- what is known of the text as it stands: classes by number, fields by number, tables of code objects -/
structure SE where
  P : Program
  w : World
  K : PySem.W.Frag
  mg : Str → Option Value
  base : Heap
  tabs : List Addr
  cls : Nat → Addr
  fld : Nat → Str
  ecls : Nat → Addr
  efld : Nat → List Str
def kD : Key → D
  | .inl i => .int i
  | .inr x => .str x
/-- a dict at a: its keys by content, its values -/
def DctAt (H : Hp) (a : Addr) (ks : List D) (us : List V) : Prop :=
  (∃ kvs : List (List Key × V), H a = some (.dT kvs) ∧ ks = D.bl true :: kvs.map (fun p => D.tup (p.1.map kD)) ∧ us = kvs.map (·.2)) ∨
  (∃ kvs : List (Key × V), H a = some (.dK kvs) ∧ ks = D.bl false :: kvs.map (fun p => kD p.1) ∧ us = kvs.map (·.2))
theorem DctAt.at {H H' : Hp} {a : Addr} {ks : List D} {us : List V} (h : DctAt H a ks us) (k : ∀ o, H a = some o → H' a = some o) : DctAt H' a ks us := by
  rcases h with ⟨kvs, e, r⟩ | ⟨kvs, e, r⟩
  · exact .inl ⟨kvs, k _ e, r⟩
  · exact .inr ⟨kvs, k _ e, r⟩
mutual
/-- the value v bears the content d in the heap Hv (that nothing changes) -/
def Rep (G : SE) (Hv : Hp) : D → V → Prop
  | .non, v => v = .non
  | .bl b, v => v = .bl b
  | .int i, v => v = .int i
  | .str x, v => v = .str x
  | .tup ds, v => ∃ a vs, v = .ref a ∧ Hv a = some (.tup vs) ∧ RepL G Hv ds vs
  | .lst ds, v => ∃ a vs, v = .ref a ∧ Hv a = some (.lst vs) ∧ RepL G Hv ds vs
  | .scr ns, v => ∃ a, v = .ref a ∧ SqL G.K Hv a (ns.map V.int)
  | .obj c ns fs, v => ∃ a dx vs, v = .ref a ∧ Hv a = some (.ins (G.cls c) dx ((ns.map G.fld).zip vs)) ∧ ns.length = vs.length ∧ RepL G Hv fs vs
  | .dct ks ds, v => ∃ a us, v = .ref a ∧ DctAt Hv a ks us ∧ RepL G Hv ds us
  | .var _, _ => False
def RepL (G : SE) (Hv : Hp) : List D → List V → Prop
  | [], vs => vs = []
  | d :: ds, vs => ∃ v r, vs = v :: r ∧ Rep G Hv d v ∧ RepL G Hv ds r
end
def Sub (H H' : Hp) : Prop := ∀ b o, H b = some o → H' b = some o
theorem Sub.refl (H : Hp) : Sub H H := fun _ _ h => h
theorem Sub.trans {H H1 H2 : Hp} (a : Sub H H1) (b : Sub H1 H2) : Sub H H2 := fun c o h => b c o (a c o h)
theorem Sub.sqt {K : PySem.W.Frag} {H H' : Hp} (s : Sub H H') {a : Addr} {xs : List V} (h : SqT K H a xs) : SqT K H' a xs := by
  rcases h with (h | ⟨o, h⟩) | h
  · exact .inl (.inl (s _ _ h))
  · exact .inl (.inr ⟨o, s _ _ h⟩)
  · exact .inr h
theorem Sub.sql {K : PySem.W.Frag} {H H' : Hp} (s : Sub H H') {a : Addr} {xs : List V} (h : SqL K H a xs) : SqL K H' a xs := by
  rcases h with (h | ⟨o, h⟩) | h
  · exact .inl (.inl (s _ _ h))
  · exact .inl (.inr ⟨o, s _ _ h⟩)
  · exact .inr h
theorem Sub.put {H H' : Hp} (s : Sub H H') {a : Addr} {o : HO} (hn : H a = none) : Sub H (upd H' a o) := fun b u h => by
  rw [upd_ne (ne_of_none h hn)]
  exact s b u h
mutual
theorem Rep.mono {G : SE} {H H' : Hp} (s : Sub H H') : ∀ (d : D) (v : V), Rep G H d v → Rep G H' d v
  | .non, _, h => h
  | .bl _, _, h => h
  | .int _, _, h => h
  | .str _, _, h => h
  | .tup ds, v, h => by
    simp only [Rep] at h ⊢
    obtain ⟨a, vs, e, q, r⟩ := h
    exact ⟨a, vs, e, s _ _ q, RepL.mono s ds vs r⟩
  | .lst ds, v, h => by
    simp only [Rep] at h ⊢
    obtain ⟨a, vs, e, q, r⟩ := h
    exact ⟨a, vs, e, s _ _ q, RepL.mono s ds vs r⟩
  | .scr ns, v, h => by
    simp only [Rep] at h ⊢
    obtain ⟨a, e, q⟩ := h
    exact ⟨a, e, s.sql q⟩
  | .obj c ns fs, v, h => by
    simp only [Rep] at h ⊢
    obtain ⟨a, dx, vs, e, q, l, r⟩ := h
    exact ⟨a, dx, vs, e, s _ _ q, l, RepL.mono s fs vs r⟩
  | .dct ks ds, v, h => by
    simp only [Rep] at h ⊢
    obtain ⟨a, us, e, q, r⟩ := h
    exact ⟨a, us, e, q.at fun o => s a o, RepL.mono s ds us r⟩
  | .var _, _, h => by simp only [Rep] at h
theorem RepL.mono {G : SE} {H H' : Hp} (s : Sub H H') : ∀ (ds : List D) (vs : List V), RepL G H ds vs → RepL G H' ds vs
  | [], _, h => by simp only [RepL] at h ⊢; exact h
  | d :: ds, vs, h => by
    simp only [RepL] at h ⊢
    obtain ⟨v, r, e, h1, h2⟩ := h
    exact ⟨v, r, e, Rep.mono s d v h1, RepL.mono s ds r h2⟩
end
section
variable {G : SE} {H : Hp}
theorem RepL.nil : RepL G H [] [] := by simp only [RepL]
theorem RepL.cons {d : D} {v : V} {ds : List D} {vs : List V} (h : Rep G H d v) (t : RepL G H ds vs) : RepL G H (d :: ds) (v :: vs) := by
  simp only [RepL]
  exact ⟨v, vs, rfl, h, t⟩
theorem RepL.nil_inv {vs : List V} (h : RepL G H [] vs) : vs = [] := by simpa only [RepL] using h
theorem RepL.cons_inv {d : D} {ds : List D} {vs : List V} (h : RepL G H (d :: ds) vs) : ∃ v r, vs = v :: r ∧ Rep G H d v ∧ RepL G H ds r := by simpa only [RepL] using h
theorem RepL.length : ∀ {ds : List D} {vs : List V}, RepL G H ds vs → vs.length = ds.length
  | [], vs, h => by rw [h.nil_inv]; rfl
  | d :: ds, vs, h => by
    obtain ⟨v, r, e, _, t⟩ := h.cons_inv
    rw [e, List.length_cons, List.length_cons, RepL.length t]
theorem RepL.get : ∀ {ds : List D} {vs : List V}, RepL G H ds vs → ∀ {i : Nat} {d : D}, ds[i]? = some d → ∃ v, vs[i]? = some v ∧ Rep G H d v
  | [], _, _, i, d, e => by simp at e
  | d :: ds, vs, h, 0, d', e => by
    obtain ⟨v, r, ev, h1, t⟩ := h.cons_inv
    have e' : d = d' := by simpa using e
    subst e'
    exact ⟨v, by rw [ev]; rfl, h1⟩
  | d :: ds, vs, h, i + 1, d', e => by
    obtain ⟨v, r, ev, h1, t⟩ := h.cons_inv
    obtain ⟨u, e1, e2⟩ := RepL.get t (i := i) (d := d') (by simpa using e)
    exact ⟨u, by rw [ev]; simpa using e1, e2⟩
theorem RepL.getV : ∀ {ds : List D} {vs : List V}, RepL G H ds vs → ∀ {i : Nat} {v : V}, vs[i]? = some v → ∃ d, ds[i]? = some d ∧ Rep G H d v
  | [], vs, h, i, v, e => by rw [h.nil_inv] at e; simp at e
  | d :: ds, vs, h, 0, v', e => by
    obtain ⟨v, r, ev, h1, t⟩ := h.cons_inv
    rw [ev] at e
    have e' : v = v' := by simpa using e
    subst e'
    exact ⟨d, rfl, h1⟩
  | d :: ds, vs, h, i + 1, v', e => by
    obtain ⟨v, r, ev, h1, t⟩ := h.cons_inv
    rw [ev] at e
    obtain ⟨u, e1, e2⟩ := RepL.getV t (i := i) (v := v') (by simpa using e)
    exact ⟨u, by simpa using e1, e2⟩
theorem RepL.append : ∀ {ds : List D} {vs : List V} {es : List D} {us : List V}, RepL G H ds vs → RepL G H es us → RepL G H (ds ++ es) (vs ++ us)
  | [], vs, es, us, h, q => by rw [h.nil_inv]; exact q
  | d :: ds, vs, es, us, h, q => by
    obtain ⟨v, r, e, h1, t⟩ := h.cons_inv
    subst e
    exact .cons h1 (RepL.append t q)
theorem RepL.take : ∀ {ds : List D} {vs : List V} (n : Nat), RepL G H ds vs → RepL G H (ds.take n) (vs.take n)
  | [], vs, n, h => by rw [h.nil_inv]; simp only [List.take_nil]; exact .nil
  | d :: ds, vs, 0, h => by simp only [List.take_zero]; exact .nil
  | d :: ds, vs, n + 1, h => by
    obtain ⟨v, r, e, h1, t⟩ := h.cons_inv
    subst e
    exact .cons h1 (RepL.take n t)
theorem RepL.drop : ∀ {ds : List D} {vs : List V} (n : Nat), RepL G H ds vs → RepL G H (ds.drop n) (vs.drop n)
  | [], vs, n, h => by rw [h.nil_inv]; simp only [List.drop_nil]; exact .nil
  | d :: ds, vs, 0, h => h
  | d :: ds, vs, n + 1, h => by
    obtain ⟨v, r, e, h1, t⟩ := h.cons_inv
    subst e
    exact RepL.drop n t
theorem RepL.set : ∀ {ds : List D} {vs : List V} {d : D} {v : V} (n : Nat), RepL G H ds vs → Rep G H d v → RepL G H (ds.set n d) (vs.set n v)
  | [], vs, d, v, n, h, _ => by rw [h.nil_inv]; exact .nil
  | d :: ds, vs, d', v', 0, h, q => by
    obtain ⟨v, r, e, h1, t⟩ := h.cons_inv
    subst e
    exact .cons q t
  | d :: ds, vs, d', v', n + 1, h, q => by
    obtain ⟨v, r, e, h1, t⟩ := h.cons_inv
    subst e
    exact .cons h1 (RepL.set n t q)
theorem RepL.reverse {ds : List D} {vs : List V} (h : RepL G H ds vs) : RepL G H ds.reverse vs.reverse := by
  induction ds generalizing vs with
  | nil => rw [h.nil_inv]; exact .nil
  | cons d ds ih =>
    obtain ⟨v, r, e, h1, t⟩ := h.cons_inv
    subst e
    rw [List.reverse_cons, List.reverse_cons]
    exact (ih t).append (.cons h1 .nil)
theorem RepL.eraseIdx : ∀ {ds : List D} {vs : List V} (n : Nat), RepL G H ds vs → RepL G H (ds.eraseIdx n) (vs.eraseIdx n)
  | [], vs, n, h => by rw [h.nil_inv]; exact .nil
  | d :: ds, vs, 0, h => by
    obtain ⟨v, r, e, h1, t⟩ := h.cons_inv
    subst e
    exact t
  | d :: ds, vs, n + 1, h => by
    obtain ⟨v, r, e, h1, t⟩ := h.cons_inv
    subst e
    exact .cons h1 (RepL.eraseIdx n t)
theorem RepL.dropLast {ds : List D} {vs : List V} (h : RepL G H ds vs) : RepL G H ds.dropLast vs.dropLast := by
  rw [List.dropLast_eq_take, List.dropLast_eq_take, h.length]
  exact h.take _
theorem Rep.tup {ds : List D} {vs : List V} {a : Addr} (q : H a = some (.tup vs)) (r : RepL G H ds vs) : Rep G H (.tup ds) (.ref a) := by
  simp only [Rep]
  exact ⟨a, vs, rfl, q, r⟩
theorem Rep.lst {ds : List D} {vs : List V} {a : Addr} (q : H a = some (.lst vs)) (r : RepL G H ds vs) : Rep G H (.lst ds) (.ref a) := by
  simp only [Rep]
  exact ⟨a, vs, rfl, q, r⟩
theorem Rep.obj {c : Nat} {ns : List Nat} {fs : List D} {vs : List V} {a dx : Addr} (q : H a = some (.ins (G.cls c) dx ((ns.map G.fld).zip vs))) (l : ns.length = vs.length) (r : RepL G H fs vs) : Rep G H (.obj c ns fs) (.ref a) := by
  simp only [Rep]
  exact ⟨a, dx, vs, rfl, q, l, r⟩
theorem Rep.non_iff {v : V} : Rep G H .non v ↔ v = .non := by simp only [Rep]
theorem Rep.bl_iff {b : Bool} {v : V} : Rep G H (.bl b) v ↔ v = .bl b := by simp only [Rep]
theorem Rep.int_iff {i : Int} {v : V} : Rep G H (.int i) v ↔ v = .int i := by simp only [Rep]
theorem Rep.str_iff {x : Str} {v : V} : Rep G H (.str x) v ↔ v = .str x := by simp only [Rep]
theorem Rep.tup_at {ds : List D} {v : V} (h : Rep G H (.tup ds) v) : ∃ a vs, v = .ref a ∧ H a = some (.tup vs) ∧ RepL G H ds vs := by simpa only [Rep] using h
theorem Rep.tup_inv {ds : List D} {v : V} (h : Rep G H (.tup ds) v) : ∃ a vs, v = .ref a ∧ SqT G.K H a vs ∧ RepL G H ds vs := by
  obtain ⟨a, vs, e, q, r⟩ := h.tup_at
  exact ⟨a, vs, e, .inl (.inl q), r⟩
theorem Rep.lst_inv {ds : List D} {v : V} (h : Rep G H (.lst ds) v) : ∃ a vs, v = .ref a ∧ H a = some (.lst vs) ∧ RepL G H ds vs := by simpa only [Rep] using h
theorem Rep.scr_inv {ns : List Int} {v : V} (h : Rep G H (.scr ns) v) : ∃ a, v = .ref a ∧ SqL G.K H a (ns.map V.int) := by simpa only [Rep] using h
theorem Rep.obj_inv {c : Nat} {ns : List Nat} {fs : List D} {v : V} (h : Rep G H (.obj c ns fs) v) : ∃ a dx vs, v = .ref a ∧ H a = some (.ins (G.cls c) dx ((ns.map G.fld).zip vs)) ∧ ns.length = vs.length ∧ RepL G H fs vs := by simpa only [Rep] using h
theorem Rep.no_var {i : Nat} {v : V} (h : Rep G H (.var i) v) : False := by simp only [Rep] at h
theorem Rep.dct_inv {ks ds : List D} {v : V} (h : Rep G H (.dct ks ds) v) : ∃ a us, v = .ref a ∧ DctAt H a ks us ∧ RepL G H ds us := by simpa only [Rep] using h
theorem Rep.dct {ks ds : List D} {us : List V} {a : Addr} (q : DctAt H a ks us) (r : RepL G H ds us) : Rep G H (.dct ks ds) (.ref a) := by
  simp only [Rep]
  exact ⟨a, us, rfl, q, r⟩
end
end KS
namespace KS
open PySem PySem.Spec L2
/-- what a def's running body is told by: its owned slots, the slots that were handed in to be changed, the heap at the entry -/
structure Bd where
  G : SE
  M : List Nat
  io : List (Nat × Addr)
  H0 : Hp
  Hv0 : Hp
  ex : Option (Nat × Addr) := none
/-- the object at a, owned, bears d -/
def Cell (G : SE) (H Hv : Hp) (a : Addr) : D → Prop
  | .lst ds => ∃ vs, H a = some (.lst vs) ∧ RepL G Hv ds vs
  | .obj c ns fs => ∃ dx vs, H a = some (.ins (G.cls c) dx ((ns.map G.fld).zip vs)) ∧ ns.length = vs.length ∧ RepL G Hv fs vs
  | .dct ks ds => ∃ us, DctAt H a ks us ∧ RepL G Hv ds us
  | _ => False
def isCell : D → Bool
  | .lst _ => true
  | .obj _ _ _ => true
  | .dct _ _ => true
  | _ => false
theorem Cell.isCell {G : SE} {H Hv : Hp} {a : Addr} {d : D} (h : Cell G H Hv a d) : isCell d = true := by
  cases d <;> first | rfl | exact h.elim
def Own (B : Bd) (fr : Fr) (σ : St) (a : Addr) : Prop := ∃ i d, i ∈ B.M ∧ (fr[i]? = some (some d) ∧ isCell d = true) ∧ σ[i]? = some (some (.ref a))
def Keep (B : Bd) (fr : Fr) (σ : St) (H H' : Hp) : Prop := ∀ b o, H b = some o → ¬ Own B fr σ b → b ∉ B.G.tabs → H' b = some o
/-- a table of a code object -/
def TabH (H : Hp) (P : Addr) : Prop := GxR.TabG H P
/-- new at the entry, or a tuple (that nothing owns) -/
def NewOk (H : Hp) (b : Addr) (o : HO) : Prop := H b = none ∨ ∃ vs, o = .tup vs
/-- a frozen slot's value: by content, or (at i itself) the exception that is handled -/
def BoxR (B : Bd) (Hv : Hp) (i : Nat) (e : D) (v : V) : Prop := Rep B.G Hv e v ∨ (e = .var i ∧ ∃ a, B.ex = some (i, a) ∧ v = .ref a)
structure Rel (B : Bd) (fr : Fr) (σ : St) (H Hv : Hp) : Prop where
  sub : Sub Hv H
  ext0 : Sub B.Hv0 Hv
  new : ∀ b o, Hv b = some o → B.Hv0 b = some o ∨ NewOk B.H0 b o
  keep : ∀ b o, B.H0 b = some o → (∀ p ∈ B.io, p.2 ≠ b) → b ∉ B.G.tabs → H b = some o
  len : fr.length = σ.length
  val : ∀ i d, fr[i]? = some (some d) → i ∉ B.M → ∃ v, σ[i]? = some (some v) ∧ Rep B.G Hv d v
  box : ∀ i d, fr[i]? = some (some d) → isCell d = false → i ∈ B.M → ∃ e v, d = .tup [e] ∧ σ[i]? = some (some v) ∧ BoxR B Hv i e v
  own : ∀ i d, (fr[i]? = some (some d) ∧ isCell d = true) → i ∈ B.M → ∃ a, σ[i]? = some (some (.ref a)) ∧ Hv a = none ∧ ((∃ p ∈ B.io, p.2 = a) ∨ B.H0 a = none) ∧ Cell B.G H Hv a d
  sep : ∀ i j a di dj, i ∈ B.M → j ∈ B.M → i ≠ j → (fr[i]? = some (some di) ∧ isCell di = true) → (fr[j]? = some (some dj) ∧ isCell dj = true) → σ[i]? = some (some (.ref a)) → σ[j]? ≠ some (some (.ref a))
  io : ∀ p ∈ B.io, p.1 ∈ B.M ∧ (∃ d, fr[p.1]? = some (some d) ∧ isCell d = true) ∧ σ[p.1]? = some (some (.ref p.2))
  tab : ∀ P ∈ B.G.tabs, TabH H P ∧ Hv P = none
/-- a value at an expression's end: by content, or the object of an owned slot -/
def RepW (B : Bd) (σ : St) (Hv : Hp) (d : D) (v : V) : Prop :=
  match d with
  | .var i => i ∈ B.M ∧ σ[i]? = some (some v)
  | d => Rep B.G Hv d v
def look (fr : Fr) (d : D) : Option D :=
  match d with
  | .var i => match fr[i]? with
    | some (some d) => if isCell d = true then some d else none
    | _ => none
  | d => some d
def Shr (B : Bd) (fr fr' : Fr) : Prop := ∀ i d, i ∈ B.M → (fr'[i]? = some (some d) ∧ isCell d = true) → ∃ d0, fr[i]? = some (some d0) ∧ isCell d0 = true
structure Nxt (B : Bd) (fr : Fr) (σ : St) (H Hv : Hp) (fr' : Fr) (H' Hv' : Hp) : Prop where
  rel : Rel B fr' σ H' Hv'
  ext : Sub Hv Hv'
  keep : Keep B fr σ H H'
  shp : Shr B fr fr'
  alive : ∀ b o, H b = some o → ∃ o', H' b = some o'
  newv : ∀ b o, Hv' b = some o → Hv b = some o ∨ NewOk H b o ∨ Own B fr σ b
theorem own_shp {B : Bd} {fr fr' : Fr} {σ : St} {a : Addr} (h : Shr B fr fr') (o : Own B fr' σ a) : Own B fr σ a := by
  obtain ⟨i, d, hi, hf, hs⟩ := o
  obtain ⟨d', hd'⟩ := h i d hi hf
  exact ⟨i, d', hi, hd', hs⟩
theorem Shr.refl (B : Bd) (fr : Fr) : Shr B fr fr := fun i d _ h => ⟨d, h⟩
theorem Shr.trans {B : Bd} {fr fr1 fr2 : Fr} (a : Shr B fr fr1) (b : Shr B fr1 fr2) : Shr B fr fr2 := fun i d hi h => by
  obtain ⟨d1, h1⟩ := b i d hi h
  exact a i d1 hi h1
section
variable {B : Bd} {fr fr1 fr2 : Fr} {σ : St} {H H1 H2 Hv Hv1 Hv2 : Hp}
theorem Nxt.refl (R : Rel B fr σ H Hv) : Nxt B fr σ H Hv fr H Hv := ⟨R, .refl _, fun _ _ h _ _ => h, .refl _ _, fun _ o h => ⟨o, h⟩, fun _ _ h => .inl h⟩
theorem Nxt.trans (a : Nxt B fr σ H Hv fr1 H1 Hv1) (b : Nxt B fr1 σ H1 Hv1 fr2 H2 Hv2) : Nxt B fr σ H Hv fr2 H2 Hv2 :=
  ⟨b.rel, a.ext.trans b.ext, fun c o h no nt => b.keep c o (a.keep c o h no nt) (fun q => no (own_shp a.shp q)) nt, a.shp.trans b.shp, fun c o h => (a.alive c o h).elim fun o1 h1 => b.alive c o1 h1, fun c o h => by
    rcases b.newv c o h with z | z | z
    · exact a.newv c o z
    · refine .inr (.inl ?_)
      refine z.imp (fun z => ?_) id
      cases e : H c with
      | none => rfl
      | some u =>
        obtain ⟨u', h'⟩ := a.alive c u e
        rw [z] at h'; cases h'
    · exact .inr (.inr (own_shp a.shp z))⟩
theorem RepW.mono {d : D} {v : V} (s : Sub Hv Hv1) (h : RepW B σ Hv d v) : RepW B σ Hv1 d v := by
  cases d with
  | var i => exact h
  | _ => exact Rep.mono s _ _ h
theorem RepW.of {d : D} {v : V} (h : Rep B.G Hv d v) : RepW B σ Hv d v := by
  cases d with
  | var i => exact h.no_var.elim
  | _ => exact h
theorem RepW.rep {d : D} {v : V} (h : RepW B σ Hv d v) (hd : ∀ i, d ≠ .var i) : Rep B.G Hv d v := by
  cases d with
  | var i => exact absurd rfl (hd i)
  | _ => exact h
/-- the sizes of the tracked address: what stands at a tracked address stands in the heap -/
theorem Rel.own_some (R : Rel B fr σ H Hv) {a : Addr} (o : Own B fr σ a) : (∃ u, H a = some u) ∧ Hv a = none ∧ a ∉ B.G.tabs := by
  obtain ⟨i, d, hi, hf, hs⟩ := o
  obtain ⟨a', hs', hv, _, hc⟩ := R.own i d hf hi
  rw [hs] at hs'
  cases hs'
  have e : ∃ u, H a = some u ∧ ∀ ps, u ≠ .tbl ps := by
    cases d with
    | lst ds => obtain ⟨vs, e, _⟩ := hc; exact ⟨_, e, fun ps z => by cases z⟩
    | obj c ns fs => obtain ⟨dx, vs, e, _⟩ := hc; exact ⟨_, e, fun ps z => by cases z⟩
    | dct ks vs =>
      obtain ⟨us, ⟨kvs, e, _⟩ | ⟨kvs, e, _⟩, _⟩ := hc
      · exact ⟨_, e, fun ps z => by cases z⟩
      · exact ⟨_, e, fun ps z => by cases z⟩
    | _ => exact hc.elim
  obtain ⟨u, e, ne⟩ := e
  refine ⟨⟨u, e⟩, hv, fun ht => ?_⟩
  obtain ⟨⟨ps, et, _⟩, _⟩ := R.tab a ht
  rw [e] at et
  exact ne ps (Option.some.inj et)
theorem Cell.mono {G : SE} {a : Addr} {d : D} (s : Sub Hv Hv1) (e : H1 a = H a) (h : Cell G H Hv a d) : Cell G H1 Hv1 a d := by
  cases d with
  | lst ds => obtain ⟨vs, q, r⟩ := h; exact ⟨vs, by rw [e]; exact q, RepL.mono s _ _ r⟩
  | obj c ns fs => obtain ⟨dx, vs, q, l, r⟩ := h; exact ⟨dx, vs, by rw [e]; exact q, l, RepL.mono s _ _ r⟩
  | dct ks vs =>
    obtain ⟨us, q, r⟩ := h
    exact ⟨us, q.at fun o z => by rw [e]; exact z, RepL.mono s _ _ r⟩
  | _ => exact h.elim
/-- a new object laid, owned by nothing as yet -/
theorem Rel.lay (R : Rel B fr σ H Hv) {p : Addr} {o : HO} (hp : H p = none) : Rel B fr σ (upd H p o) Hv where
  sub := fun b u h => by
    have := R.sub b u h
    rw [upd_ne (ne_of_none this hp)]
    exact this
  ext0 := R.ext0
  new := R.new
  keep := fun b u h hi ht => by
    have := R.keep b u h hi ht
    rw [upd_ne (ne_of_none this hp)]
    exact this
  len := R.len
  val := R.val
  box := R.box
  own := fun i d hf hm => by
    obtain ⟨a, hs, hv, hn, hc⟩ := R.own i d hf hm
    obtain ⟨⟨u, hu⟩, _⟩ := R.own_some ⟨i, d, hm, hf, hs⟩
    exact ⟨a, hs, hv, hn, hc.mono (.refl _) (upd_ne (ne_of_none hu hp))⟩
  sep := R.sep
  io := R.io
  tab := fun P hP => by
    obtain ⟨⟨ps, e, t⟩, v⟩ := R.tab P hP
    exact ⟨⟨ps, by rw [upd_ne (ne_of_none e hp)]; exact e, t⟩, v⟩
theorem Rel.h0_none (R : Rel B fr σ H Hv) {p : Addr} (hp : H p = none) : B.H0 p = none := by
  cases e : B.H0 p with
  | none => rfl
  | some o =>
    by_cases hi : ∀ q ∈ B.io, q.2 ≠ p
    · by_cases ht : p ∈ B.G.tabs
      · obtain ⟨⟨ps, e', _⟩, _⟩ := R.tab p ht
        rw [hp] at e'
        cases e'
      · have := R.keep p o e hi ht
        rw [hp] at this
        cases this
    · have : ∃ q ∈ B.io, q.2 = p := by
        refine Classical.byContradiction fun n => hi fun q hq z => n ⟨q, hq, z⟩
      obtain ⟨q, hq, rfl⟩ := this
      obtain ⟨hm, ⟨d, hd⟩, hs⟩ := R.io q hq
      obtain ⟨⟨u, hu⟩, _⟩ := R.own_some ⟨q.1, d, hm, hd, hs⟩
      rw [hp] at hu
      cases hu
theorem Rel.hv_none (R : Rel B fr σ H Hv) {p : Addr} (hp : H p = none) : Hv p = none := by
  cases e : Hv p with
  | none => rfl
  | some o =>
    have := R.sub p o e
    rw [hp] at this
    cases this
/-- an object that is owned by nothing becomes a value -/
theorem Rel.freeze (R : Rel B fr σ H Hv) {p : Addr} {o : HO} (hp : H p = some o) (h0 : NewOk B.H0 p o) (ht : ∀ ps, o ≠ .tbl ps) (no : ¬ Own B fr σ p) : Rel B fr σ H (upd Hv p o) where
  sub := fun b u h => by
    by_cases e : b = p
    · subst e
      rw [upd_same] at h
      cases h
      exact hp
    · rw [upd_ne e] at h
      exact R.sub b u h
  ext0 := fun b u h => by
    by_cases e : b = p
    · subst e
      have h1 := R.sub b u (R.ext0 b u h)
      rw [hp] at h1
      cases h1
      exact upd_same
    · rw [upd_ne e]
      exact R.ext0 b u h
  new := fun b u h => by
    by_cases e : b = p
    · subst e
      rw [upd_same] at h
      cases h
      exact .inr h0
    · rw [upd_ne e] at h
      exact R.new b u h
  keep := R.keep
  len := R.len
  val := fun i d hf hm => by
    obtain ⟨v, hs, hr⟩ := R.val i d hf hm
    refine ⟨v, hs, Rep.mono (fun b u h => ?_) _ _ hr⟩
    by_cases e : b = p
    · subst e
      have h1 := R.sub b u h
      rw [hp] at h1
      cases h1
      exact upd_same
    · rw [upd_ne e]
      exact h
  box := fun i d hf hc hm => by
    obtain ⟨e, v, h1, hs, hr⟩ := R.box i d hf hc hm
    refine ⟨e, v, h1, hs, hr.imp (Rep.mono (fun b u h => ?_) _ _) id⟩
    by_cases e : b = p
    · subst e
      have h1 := R.sub b u h
      rw [hp] at h1
      cases h1
      exact upd_same
    · rw [upd_ne e]
      exact h
  own := fun i d hf hm => by
    obtain ⟨a, hs, hv, hn, hc⟩ := R.own i d hf hm
    have ne : a ≠ p := fun e => no (by rw [← e]; exact ⟨i, d, hm, hf, hs⟩)
    refine ⟨a, hs, by rw [upd_ne ne]; exact hv, hn, hc.mono (fun b u h => ?_) rfl⟩
    by_cases e : b = p
    · subst e
      have h1 := R.sub b u h
      rw [hp] at h1
      cases h1
      exact upd_same
    · rw [upd_ne e]
      exact h
  sep := R.sep
  io := R.io
  tab := fun P hP => by
    obtain ⟨⟨ps, e, t⟩, v⟩ := R.tab P hP
    have ne : P ≠ p := fun q => by
      rw [q, hp] at e
      exact ht ps (Option.some.inj e)
    exact ⟨⟨ps, e, t⟩, by rw [upd_ne ne]; exact v⟩
theorem sub_freeze (R : Rel B fr σ H Hv) {p : Addr} {o : HO} (hp : H p = some o) : Sub Hv (upd Hv p o) := fun b u h => by
  by_cases e : b = p
  · subst e
    have h1 := R.sub b u h
    rw [hp] at h1
    cases h1
    exact upd_same
  · rw [upd_ne e]
    exact h
/-- a new value laid -/
theorem Rel.layV (R : Rel B fr σ H Hv) {p : Addr} {o : HO} (hp : H p = none) (ht : ∀ ps, o ≠ .tbl ps) : Rel B fr σ (upd H p o) (upd Hv p o) := by
  refine (R.lay hp).freeze upd_same (.inl (R.h0_none hp)) ht fun q => ?_
  obtain ⟨⟨u, hu⟩, _⟩ := R.own_some (a := p) (by obtain ⟨i, d, a, b, c⟩ := q; exact ⟨i, d, a, b, c⟩)
  rw [hp] at hu
  cases hu
theorem Nxt.layV (R : Rel B fr σ H Hv) {p : Addr} {o : HO} (hp : H p = none) (ht : ∀ ps, o ≠ .tbl ps) : Nxt B fr σ H Hv fr (upd H p o) (upd Hv p o) :=
  ⟨R.layV hp ht, (Sub.refl Hv).put (R.hv_none hp), fun b u h _ _ => by rw [upd_ne (ne_of_none h hp)]; exact h, .refl _ _, fun b u h => ⟨u, by rw [upd_ne (ne_of_none h hp)]; exact h⟩, fun b u h => by
    by_cases e : b = p
    · exact .inr (.inl (.inl (e ▸ hp)))
    · rw [upd_ne e] at h; exact .inl h⟩
/-- what stands behind an owned slot, or a value -/
theorem look_var {i : Nat} {d : D} (h : look fr (.var i) = some d) : fr[i]? = some (some d) ∧ isCell d = true := by
  unfold look at h
  dsimp only at h
  split at h
  · next d' e =>
    split at h
    · next c => cases h; exact ⟨e, c⟩
    · cases h
  · cases h
/-- a list that may be read now -/
theorem Rel.list_of (R : Rel B fr σ H Hv) {d : D} {v : V} {ds : List D} (h : RepW B σ Hv d v) (hl : look fr d = some (.lst ds)) : ∃ a vs, v = .ref a ∧ H a = some (.lst vs) ∧ RepL B.G Hv ds vs := by
  cases d with
  | var i =>
    obtain ⟨hm, hs⟩ := h
    obtain ⟨a, hs', hv, _, vs, e, r⟩ := R.own i _ (look_var hl) hm
    rw [hs] at hs'
    cases hs'
    exact ⟨a, vs, rfl, e, r⟩
  | lst ds' =>
    have e : D.lst ds' = .lst ds := Option.some.inj hl
    cases e
    obtain ⟨a, vs, e, q, r⟩ := Rep.lst_inv h
    exact ⟨a, vs, e, R.sub _ _ q, r⟩
  | _ => cases hl
theorem Rel.tup_of (R : Rel B fr σ H Hv) {d : D} {v : V} {ds : List D} (h : RepW B σ Hv d v) (hl : look fr d = some (.tup ds)) : ∃ a vs, v = .ref a ∧ SqT B.G.K H a vs ∧ Hv a = some (.tup vs) ∧ RepL B.G Hv ds vs := by
  cases d with
  | var i =>
    obtain ⟨hm, hs⟩ := h
    obtain ⟨a, hs', hv, _, hc⟩ := R.own i _ (look_var hl) hm
    exact hc.elim
  | tup ds' =>
    have e : D.tup ds' = .tup ds := Option.some.inj hl
    cases e
    obtain ⟨a, vs, e, q, r⟩ := Rep.tup_at h
    exact ⟨a, vs, e, .inl (.inl (R.sub _ _ q)), q, r⟩
  | _ => cases hl
theorem look_scalar {d e : D} (R : Rel B fr σ H Hv) {v : V} (h : RepW B σ Hv d v) (hl : look fr d = some e) (hs : isCell e = false) : Rep B.G Hv e v := by
  cases d with
  | var i =>
    obtain ⟨hm, _⟩ := h
    obtain ⟨a, _, _, _, hc⟩ := R.own i _ (look_var hl) hm
    cases e <;> first
      | exact hc.elim
      | cases hs
  | _ =>
    cases hl
    exact h
theorem Rel.int_of (R : Rel B fr σ H Hv) {d : D} {v : V} {i : Int} (h : RepW B σ Hv d v) (hl : look fr d = some (.int i)) : v = .int i := Rep.int_iff.mp (look_scalar R h hl rfl)
theorem Rel.bl_of (R : Rel B fr σ H Hv) {d : D} {v : V} {i : Bool} (h : RepW B σ Hv d v) (hl : look fr d = some (.bl i)) : v = .bl i := Rep.bl_iff.mp (look_scalar R h hl rfl)
theorem Rel.str_of (R : Rel B fr σ H Hv) {d : D} {v : V} {i : Str} (h : RepW B σ Hv d v) (hl : look fr d = some (.str i)) : v = .str i := Rep.str_iff.mp (look_scalar R h hl rfl)
theorem Rel.non_of (R : Rel B fr σ H Hv) {d : D} {v : V} (h : RepW B σ Hv d v) (hl : look fr d = some .non) : v = .non := Rep.non_iff.mp (look_scalar R h hl rfl)
end
/-- an exception's dict at dd bears the fields fs of the class c -/
def ExcAt (G : SE) (H Hv : Hp) (c : Nat) (fs : List D) (dd : Addr) : Prop :=
  ∃ l, H dd = some (.xd l) ∧ fs.length = (G.efld c).length ∧ ∀ (k : Nat) (n : Str) (d : D), (G.efld c)[k]? = some n → fs[k]? = some d → ∃ v, l.lookup n = some v ∧ Rep G Hv d v
def PostE (B : Bd) (W : WX) (fr : Fr) (σ : St) (H Hv : Hp) (r : Res Fr D) (Q : VK) : Prop :=
  match r with
  | .ok d fr' => ∀ v H' Hv', Nxt B fr σ H Hv fr' H' Hv' → RepW B σ Hv' d v → Q v H'
  | .exc c fs fr' => ∀ dd H' Hv', Nxt B fr σ H Hv fr' H' Hv' → ExcAt B.G H' Hv' c fs dd → W (.ref (B.G.ecls c)) (some dd) σ H'
  | .bad => False
def dTE (B : Bd) (W : WX) (f : Ev) : TE := fun σ H Q => ∃ fr Hv, Rel B fr σ H Hv ∧ PostE B W fr σ H Hv (f fr) Q
/-- the end is a new list, owned by nothing as yet -/
def PostF (B : Bd) (W : WX) (fr : Fr) (σ : St) (H Hv : Hp) (r : Res Fr D) (Q : VK) : Prop :=
  match r with
  | .ok d fr' => ∀ p H' Hv', Nxt B fr σ H Hv fr' H' Hv' → H p = none → Hv' p = none → Cell B.G H' Hv' p d → Q (.ref p) H'
  | .exc c fs fr' => ∀ dd H' Hv', Nxt B fr σ H Hv fr' H' Hv' → ExcAt B.G H' Hv' c fs dd → W (.ref (B.G.ecls c)) (some dd) σ H'
  | .bad => False
def dTF (B : Bd) (W : WX) (f : Ev) : TE := fun σ H Q => ∃ fr Hv, Rel B fr σ H Hv ∧ PostF B W fr σ H Hv (f fr) Q
def RepWs (B : Bd) (σ : St) (Hv : Hp) : List D → List V → Prop
  | [], vs => vs = []
  | d :: ds, vs => ∃ v r, vs = v :: r ∧ RepW B σ Hv d v ∧ RepWs B σ Hv ds r
def PostA (B : Bd) (W : WX) (fr : Fr) (σ : St) (H Hv : Hp) (r : Res Fr (List D)) (Q : List V → Hp → Prop) : Prop :=
  match r with
  | .ok ds fr' => ∀ vs H' Hv', Nxt B fr σ H Hv fr' H' Hv' → RepWs B σ Hv' ds vs → Q vs H'
  | .exc c fs fr' => ∀ dd H' Hv', Nxt B fr σ H Hv fr' H' Hv' → ExcAt B.G H' Hv' c fs dd → W (.ref (B.G.ecls c)) (some dd) σ H'
  | .bad => False
def dTA (B : Bd) (W : WX) (f : Av) : TA := fun σ H Q => ∃ fr Hv, Rel B fr σ H Hv ∧ PostA B W fr σ H Hv (f fr) Q
def PostB (B : Bd) (W : WX) (fr : Fr) (σ : St) (H Hv : Hp) (r : Res Fr Bool) (Q : Bool → Hp → Prop) : Prop :=
  match r with
  | .ok b fr' => ∀ H' Hv', Nxt B fr σ H Hv fr' H' Hv' → Q b H'
  | .exc c fs fr' => ∀ dd H' Hv', Nxt B fr σ H Hv fr' H' Hv' → ExcAt B.G H' Hv' c fs dd → W (.ref (B.G.ecls c)) (some dd) σ H'
  | .bad => False
def dTT (B : Bd) (W : WX) (f : Bv) : TT := fun σ H Q => ∃ fr Hv, Rel B fr σ H Hv ∧ PostB B W fr σ H Hv (f fr) Q
def DE (X : Cx) (B : Bd) (W : WX) (e : Expr) (f : Ev) : Prop := PE X e (dTE B W f)
def DF (X : Cx) (B : Bd) (W : WX) (e : Expr) (f : Ev) : Prop := PE X e (dTF B W f)
def DA (X : Cx) (B : Bd) (W : WX) (es : List Expr) (f : Av) : Prop := PA X es (dTA B W f)
def DT (X : Cx) (B : Bd) (W : WX) (e : Expr) (f : Bv) : Prop := PT X e (dTT B W f)
def DW (X : Cx) (B : Bd) (W : WX) (e : Expr) (f : Bv) : Prop := PW X e (dTT B W f)
theorem pe_imp {X : Cx} {e : Expr} {t t' : TE} (h : PE X e t) (i : ∀ σ H Q, t' σ H Q → t σ H Q) : PE X e t' := ⟨fun pins s σ H Q I hw => h.run pins s σ H Q I (i σ H Q hw)⟩
theorem pt_imp {X : Cx} {e : Expr} {t t' : TT} (h : PT X e t) (i : ∀ σ H Q, t' σ H Q → t σ H Q) : PT X e t' := ⟨fun pins s σ H Q I hw => h.run pins s σ H Q I (i σ H Q hw)⟩
theorem pw_imp {X : Cx} {e : Expr} {t t' : TT} (h : PW X e t) (i : ∀ σ H Q, t' σ H Q → t σ H Q) : PW X e t' := ⟨fun wh pins s σ H Q I hw => h.run wh pins s σ H Q I (i σ H Q hw)⟩
theorem pa_imp {X : Cx} {es : List Expr} {t t' : TA} (h : PA X es t) (i : ∀ σ H Q, t' σ H Q → t σ H Q) : PA X es t' := ⟨fun pos pins s σ H Q I hw => h.run pos pins s σ H Q I (i σ H Q hw)⟩
theorem ps_imp {X : Cx} {st : Stmt} {t t' : TS} (h : PS X st t) (i : ∀ D σ H, t' D σ H → t D σ H) : PS X st t' := ⟨fun pins s σ H D I hw => h.run pins s σ H D I (i D σ H hw)⟩
theorem pss_imp {X : Cx} {st : List Stmt} {t t' : TS} (h : PSs X st t) (i : ∀ D σ H, t' D σ H → t D σ H) : PSs X st t' := ⟨fun pins s σ H D I hw => h.run pins s σ H D I (i D σ H hw)⟩
section
variable {B : Bd} {W : WX} {fr fr1 : Fr} {σ : St} {H H1 Hv Hv1 : Hp}
/-- a first step, then the rest -/
theorem PostE.step {r : Res Fr D} {Q : VK} (n : Nxt B fr σ H Hv fr1 H1 Hv1) (h : PostE B W fr σ H Hv r Q) : PostE B W fr1 σ H1 Hv1 r Q := by
  cases r with
  | ok d fr' => exact fun v H' Hv' m => h v H' Hv' (n.trans m)
  | exc c fs fr' => exact fun dd H' Hv' m => h dd H' Hv' (n.trans m)
  | bad => exact h
theorem PostB.step {r : Res Fr Bool} {Q : Bool → Hp → Prop} (n : Nxt B fr σ H Hv fr1 H1 Hv1) (h : PostB B W fr σ H Hv r Q) : PostB B W fr1 σ H1 Hv1 r Q := by
  cases r with
  | ok d fr' => exact fun H' Hv' m => h H' Hv' (n.trans m)
  | exc c fs fr' => exact fun dd H' Hv' m => h dd H' Hv' (n.trans m)
  | bad => exact h
theorem PostA.step {r : Res Fr (List D)} {Q : List V → Hp → Prop} (n : Nxt B fr σ H Hv fr1 H1 Hv1) (h : PostA B W fr σ H Hv r Q) : PostA B W fr1 σ H1 Hv1 r Q := by
  cases r with
  | ok d fr' => exact fun v H' Hv' m => h v H' Hv' (n.trans m)
  | exc c fs fr' => exact fun dd H' Hv' m => h dd H' Hv' (n.trans m)
  | bad => exact h
/-- what is new behind a step was new ahead of it -/
theorem Nxt.none (n : Nxt B fr σ H Hv fr1 H1 Hv1) (R : Rel B fr σ H Hv) {p : Addr} (hp : H1 p = none) : H p = none := by
  cases e : H p with
  | none => rfl
  | some o =>
    obtain ⟨o', h'⟩ := n.alive p o e
    rw [hp] at h'
    cases h'
theorem PostF.step {r : Res Fr D} {Q : VK} (n : Nxt B fr σ H Hv fr1 H1 Hv1) (R : Rel B fr σ H Hv) (h : PostF B W fr σ H Hv r Q) : PostF B W fr1 σ H1 Hv1 r Q := by
  cases r with
  | ok d fr' => exact fun p H' Hv' m hp => h p H' Hv' (n.trans m) (n.none R hp)
  | exc c fs fr' => exact fun dd H' Hv' m => h dd H' Hv' (n.trans m)
  | bad => exact h
end
end KS
namespace KS
open PySem PySem.Spec L2
def eVar (i : Nat) : Ev := fun fr => match fr[i]? with
  | some (some d) => .ok d fr
  | _ => .bad
def ePl (i : Nat) : Ev := fun fr => match fr[i]? with
  | some (some d) => if isCell d = true then .ok (.var i) fr else (match d with
    | .tup [e] => .ok e fr
    | _ => .bad)
  | _ => .bad
/-- the object of the slot is a value from now on -/
def eFz (i : Nat) : Ev := fun fr => match fr[i]? with
  | some (some d) => if isCell d = true then .ok d (fr.set i (some (.tup [d]))) else (match d with
    | .tup [e] => .ok e fr
    | _ => .bad)
  | _ => .bad
section
variable {B : Bd} {fr : Fr} {σ : L2.St} {H Hv : Hp}
theorem get_set {fr : Fr} {i j : Nat} {o : Option D} {x : Option D} (h : (fr.set i o)[j]? = some x) : (j = i ∧ x = o) ∨ (j ≠ i ∧ fr[j]? = some x) := by
  by_cases e : j = i
  · subst e
    rw [List.getElem?_set] at h
    simp only [if_true] at h
    split at h
    · cases h; exact .inl ⟨rfl, rfl⟩
    · cases h
  · rw [List.getElem?_set_ne (Ne.symm e)] at h
    exact .inr ⟨e, h⟩
/-- a slot is let go -/
theorem Rel.drop (R : Rel B fr σ H Hv) {i : Nat} (hio : ∀ p ∈ B.io, p.1 ≠ i) : Rel B (fr.set i none) σ H Hv where
  sub := R.sub
  ext0 := R.ext0
  new := R.new
  keep := R.keep
  len := by rw [List.length_set]; exact R.len
  val := fun j d h hm => by
    rcases get_set h with ⟨_, e⟩ | ⟨_, e⟩
    · cases e
    · exact R.val j d e hm
  box := fun j d h hc hm => by
    rcases get_set h with ⟨_, e⟩ | ⟨_, e⟩
    · cases e
    · exact R.box j d e hc hm
  own := fun j d h hm => by
    rcases get_set h.1 with ⟨_, e⟩ | ⟨_, e⟩
    · cases e
    · exact R.own j d ⟨e, h.2⟩ hm
  sep := fun j k a dj dk hj hk hjk e1 e2 => by
    rcases get_set e1.1 with ⟨_, e⟩ | ⟨_, e⟩
    · cases e
    rcases get_set e2.1 with ⟨_, f⟩ | ⟨_, f⟩
    · cases f
    exact R.sep j k a dj dk hj hk hjk ⟨e, e1.2⟩ ⟨f, e2.2⟩
  io := fun p hp => by
    obtain ⟨h1, ⟨d, h2, h3⟩, h4⟩ := R.io p hp
    exact ⟨h1, ⟨d, by rw [List.getElem?_set_ne (Ne.symm (hio p hp))]; exact h2, h3⟩, h4⟩
  tab := R.tab
theorem BoxR.w {B : Bd} {Hv : Hp} {σ : St} {i : Nat} {e : D} {v : V} (h : BoxR B Hv i e v) (hi : i ∈ B.M) (hs : σ[i]? = some (some v)) : RepW B σ Hv e v := by
  rcases h with h | ⟨rfl, _⟩
  · exact .of h
  · exact ⟨hi, hs⟩
theorem Rel.boxed (R : Rel B (fr.set i none) σ H Hv) {d : D} {v : V} (hi : i ∈ B.M) (hs : σ[i]? = some (some v)) (hr : Rep B.G Hv d v) : Rel B (fr.set i (some (.tup [d]))) σ H Hv where
  sub := R.sub
  ext0 := R.ext0
  new := R.new
  keep := R.keep
  len := by rw [List.length_set, ← R.len, List.length_set]
  val := fun j e h hm => by
    rcases get_set h with ⟨z, _⟩ | ⟨n, z⟩
    · subst z; exact absurd hi hm
    · exact R.val j e (by rw [List.getElem?_set_ne (Ne.symm n)]; exact z) hm
  box := fun j e h hc hm => by
    rcases get_set h with ⟨z, q⟩ | ⟨n, z⟩
    · subst z
      cases q
      exact ⟨d, v, rfl, hs, .inl hr⟩
    · exact R.box j e (by rw [List.getElem?_set_ne (Ne.symm n)]; exact z) hc hm
  own := fun j e h hm => by
    rcases get_set h.1 with ⟨z, q⟩ | ⟨n, z⟩
    · cases q; cases h.2
    · exact R.own j e ⟨by rw [List.getElem?_set_ne (Ne.symm n)]; exact z, h.2⟩ hm
  sep := fun j k a dj dk hj hk hjk e1 e2 => by
    rcases get_set e1.1 with ⟨_, e⟩ | ⟨n1, e⟩
    · cases e; cases e1.2
    rcases get_set e2.1 with ⟨_, f⟩ | ⟨n2, f⟩
    · cases f; cases e2.2
    exact R.sep j k a dj dk hj hk hjk ⟨by rw [List.getElem?_set_ne (Ne.symm n1)]; exact e, e1.2⟩ ⟨by rw [List.getElem?_set_ne (Ne.symm n2)]; exact f, e2.2⟩
  io := fun p hp => by
    obtain ⟨h1, ⟨e, h2, h3⟩, h4⟩ := R.io p hp
    have n : p.1 ≠ i := fun z => by
      rcases get_set h2 with ⟨_, e⟩ | ⟨n, _⟩
      · cases e
      · exact n z
    rcases get_set h2 with ⟨_, e⟩ | ⟨_, e⟩
    · cases e
    exact ⟨h1, ⟨_, by rw [List.getElem?_set_ne (Ne.symm n)]; exact e, h3⟩, h4⟩
  tab := R.tab
theorem Cell.ob {G : SE} {a : Addr} {d : D} (h : Cell G H Hv a d) : ∃ o, H a = some o ∧ (∀ ps, o ≠ .tbl ps) ∧ (∀ H2 : Hp, H2 a = some o → Cell G H2 Hv a d) ∧ (∀ Hv2 : Hp, Sub Hv Hv2 → Hv2 a = some o → Rep G Hv2 d (.ref a)) := by
  cases d with
  | lst ds =>
    obtain ⟨vs, e, r⟩ := h
    exact ⟨_, e, (fun ps z => by cases z), fun H2 q => ⟨vs, q, r⟩, fun Hv2 s q => Rep.lst q (RepL.mono s _ _ r)⟩
  | obj c ns fs =>
    obtain ⟨dx, vs, e, l, r⟩ := h
    exact ⟨_, e, (fun ps z => by cases z), fun H2 q => ⟨dx, vs, q, l, r⟩, fun Hv2 s q => Rep.obj q l (RepL.mono s _ _ r)⟩
  | dct ks ds =>
    obtain ⟨us, q, r⟩ := h
    rcases q with ⟨kvs, e, q⟩ | ⟨kvs, e, q⟩
    · exact ⟨_, e, (fun ps z => by cases z), fun H2 z => ⟨us, .inl ⟨kvs, z, q⟩, r⟩, fun Hv2 s z => Rep.dct (.inl ⟨kvs, z, q⟩) (RepL.mono s _ _ r)⟩
    · exact ⟨_, e, (fun ps z => by cases z), fun H2 z => ⟨us, .inr ⟨kvs, z, q⟩, r⟩, fun Hv2 s z => Rep.dct (.inr ⟨kvs, z, q⟩) (RepL.mono s _ _ r)⟩
  | _ => exact h.elim
theorem Cell.not_tup {G : SE} {a : Addr} {d : D} {ws : List V} (h : Cell G H Hv a d) (e : H a = some (.tup ws)) : False := by
  cases d with
  | lst ds => obtain ⟨vs, q, _⟩ := h; rw [e] at q; cases q
  | obj c ns fs => obtain ⟨dx, vs, q, _⟩ := h; rw [e] at q; cases q
  | dct ks ds =>
    obtain ⟨us, ⟨kvs, q, _⟩ | ⟨kvs, q, _⟩, _⟩ := h
    · rw [e] at q; cases q
    · rw [e] at q; cases q
  | _ => exact h.elim
theorem Rel.own_h0 (R : Rel B fr σ H Hv) {i : Nat} {a : Addr} {d : D} (hi : i ∈ B.M) (e : fr[i]? = some (some d) ∧ isCell d = true) (hs : σ[i]? = some (some (.ref a))) (hio : ∀ p ∈ B.io, p.1 ≠ i) : B.H0 a = none := by
  obtain ⟨a', hs', hva, hn, hc⟩ := R.own i d e hi
  rw [hs] at hs'
  cases hs'
  rcases hn with ⟨p, hp, z⟩ | hn
  · obtain ⟨h1, ⟨d', hd'⟩, h3⟩ := R.io p hp
    rw [z] at h3
    exact absurd hs (R.sep p.1 i a d' d h1 hi (hio p hp) hd' e h3)
  · exact hn
theorem Rel.fz (R : Rel B fr σ H Hv) {i : Nat} {d : D} (hi : i ∈ B.M) (e : fr[i]? = some (some d) ∧ isCell d = true) (hio : ∀ p ∈ B.io, p.1 ≠ i) :
    ∃ a Hv', σ[i]? = some (some (.ref a)) ∧ Nxt B fr σ H Hv (fr.set i (some (.tup [d]))) H Hv' ∧ Rep B.G Hv' d (.ref a) := by
  obtain ⟨a, hs, hva, _, hc⟩ := R.own i d e hi
  obtain ⟨o, ho, nt, _, rep⟩ := hc.ob
  have h0 := R.own_h0 hi e hs hio
  have no : ¬ Own B (fr.set i none) σ a := by
    rintro ⟨j, dj, hj, ⟨ej, cj⟩, sj⟩
    rcases get_set ej with ⟨_, z⟩ | ⟨n, z⟩
    · cases z
    · exact R.sep j i a dj d hj hi n ⟨z, cj⟩ e sj hs
  have s := sub_freeze R ho
  have R1 := (R.drop hio).freeze ho (.inl h0) nt no
  have rr := rep (upd Hv a o) s upd_same
  refine ⟨a, upd Hv a o, hs, ⟨R1.boxed hi hs rr, s, fun b u h _ _ => h, fun j dj hj ej => ?_, fun b u h => ⟨u, h⟩, fun b u h => ?_⟩, rr⟩
  · rcases get_set ej.1 with ⟨_, z⟩ | ⟨_, z⟩
    · cases z; cases ej.2
    · exact ⟨dj, z, ej.2⟩
  · by_cases eb : b = a
    · exact .inr (.inr ⟨i, d, hi, e, eb ▸ hs⟩)
    · rw [upd_ne eb] at h; exact .inl h
end
def eC (d : D) : Ev := fun fr => .ok d fr
section
variable {X : Cx} {B : Bd} {W : WX}
theorem d_var {i : Nat} {x : Str} {pos : Pos} (hi : i ∉ B.M) (hN : X.N[i]? = some x := by rfl) (hv : Vis X.env.scope x := by first | exact Or.inl rfl | exact Or.inr (Or.inl rfl) | exact Or.inr (Or.inr rfl)) (hd : (x == ("__debug__" : Str)) = false := by decide)
    (hcd : (x == ("__classdict__" : Str)) = false := by decide) : DE X B W (.Name x pos) (eVar i) := by
  refine pe_imp (pe_var hN hv hd hcd) fun σ H Q h => ?_
  obtain ⟨fr, Hv, R, h⟩ := h
  unfold eVar at h
  split at h
  · next d e =>
    obtain ⟨v, hs, hr⟩ := R.val i d e hi
    exact ⟨v, hs, h v H Hv (.refl R) (.of hr)⟩
  · exact h.elim
theorem d_pl {i : Nat} {x : Str} {pos : Pos} (hi : i ∈ B.M) (hN : X.N[i]? = some x := by rfl) (hv : Vis X.env.scope x := by first | exact Or.inl rfl | exact Or.inr (Or.inl rfl) | exact Or.inr (Or.inr rfl)) (hd : (x == ("__debug__" : Str)) = false := by decide)
    (hcd : (x == ("__classdict__" : Str)) = false := by decide) : DE X B W (.Name x pos) (ePl i) := by
  refine pe_imp (pe_var hN hv hd hcd) fun σ H Q h => ?_
  obtain ⟨fr, Hv, R, h⟩ := h
  unfold ePl at h
  split at h
  · next d e =>
    split at h
    · next c =>
      obtain ⟨a, hs, _⟩ := R.own i d ⟨e, c⟩ hi
      exact ⟨_, hs, h _ H Hv (.refl R) ⟨hi, hs⟩⟩
    · next c =>
      obtain ⟨e', v, rfl, hs, hr⟩ := R.box i d e (by simpa using c) hi
      exact ⟨v, hs, h v H Hv (.refl R) (hr.w hi hs)⟩
  · exact h.elim
theorem d_fz {i : Nat} {x : Str} {pos : Pos} (hi : i ∈ B.M) (hio : ∀ p ∈ B.io, p.1 ≠ i) (hN : X.N[i]? = some x := by rfl) (hv : Vis X.env.scope x := by first | exact Or.inl rfl | exact Or.inr (Or.inl rfl) | exact Or.inr (Or.inr rfl)) (hd : (x == ("__debug__" : Str)) = false := by decide)
    (hcd : (x == ("__classdict__" : Str)) = false := by decide) : DE X B W (.Name x pos) (eFz i) := by
  refine pe_imp (pe_var hN hv hd hcd) fun σ H Q h => ?_
  obtain ⟨fr, Hv, R, h⟩ := h
  unfold eFz at h
  split at h
  · next d e =>
    split at h
    · next c =>
      obtain ⟨a, Hv', hs, n, r⟩ := R.fz hi ⟨e, c⟩ hio
      exact ⟨_, hs, h _ H Hv' n (.of r)⟩
    · next c =>
      obtain ⟨e', v, rfl, hs, hr⟩ := R.box i d e (by simpa using c) hi
      exact ⟨v, hs, h v H Hv (.refl R) (hr.w hi hs)⟩
  · exact h.elim
theorem de_const {e : Expr} {v : V} {d : D} (hp : PE X e (tC v)) (hr : Rep B.G (fun _ => none) d v) : DE X B W e (eC d) := by
  refine pe_imp hp fun σ H Q h => ?_
  obtain ⟨fr, Hv, R, h⟩ := h
  exact h v H Hv (.refl R) (.of (Rep.mono (fun _ _ z => by cases z) _ _ hr))
theorem d_int {i j pos} : DE X B W (.Constant (.int i) j pos) (eC (.int i)) := de_const pe_int (Rep.int_iff.mpr rfl)
theorem d_bl {b j pos} : DE X B W (.Constant (.bool b) j pos) (eC (.bl b)) := de_const pe_bl (Rep.bl_iff.mpr rfl)
theorem d_non {j pos} : DE X B W (.Constant .none j pos) (eC .non) := de_const pe_non (Rep.non_iff.mpr rfl)
theorem d_str {x j pos} : DE X B W (.Constant (.str x) j pos) (eC (.str x)) := de_const pe_str (Rep.str_iff.mpr rfl)
/-- a module's constant -/
theorem d_glob {x : Str} {v : V} {u : Value} {d : D} {pos : Pos} (hr : Rep B.G (fun _ => none) d v) (hm : X.mg x = some u) (r : RelV v u) (hg : Gl X x := by rfl) (hd : (x == ("__debug__" : Str)) = false := by decide) : DE X B W (.Name x pos) (eC d) :=
  de_const (pe_glob hg hm r hd) hr
end
def ofO (o : Option D) (fr : Fr) : Res Fr D := match o with
  | some d => .ok d fr
  | none => .bad
def eOp2 (F : D → D → Option D) (f g : Ev) : Ev := fun fr => (f fr).bind fun x fr1 => (g fr1).bind fun y fr2 => match look fr2 x, look fr2 y with
  | some a, some b => ofO (F a b) fr2
  | _, _ => .bad
def eOp1 (F : D → Option D) (f : Ev) : Ev := fun fr => (f fr).bind fun x fr1 => match look fr1 x with
  | some a => ofO (F a) fr1
  | _ => .bad
/-- what an operation on two values gives: a value that stays -/
def OpS (B : Bd) (r : R2) (F : D → D → Option D) : Prop := ∀ fr σ H Hv x y dx dy a b z (Q : VK), Rel B fr σ H Hv → RepW B σ Hv dx x → RepW B σ Hv dy y → look fr dx = some a → look fr dy = some b → F a b = some z →
  (∀ v H' Hv', Nxt B fr σ H Hv fr H' Hv' → Rep B.G Hv' z v → Q v H') → r x y H Q
def OpF (B : Bd) (r : R2) (F : D → D → Option D) : Prop := ∀ fr σ H Hv x y dx dy a b z (Q : VK), Rel B fr σ H Hv → RepW B σ Hv dx x → RepW B σ Hv dy y → look fr dx = some a → look fr dy = some b → F a b = some z →
  (∀ p H' Hv', Nxt B fr σ H Hv fr H' Hv' → H p = none → Hv' p = none → Cell B.G H' Hv' p z → Q (.ref p) H') → r x y H Q
def UnS (B : Bd) (r : V → Hp → VK → Prop) (F : D → Option D) : Prop := ∀ fr σ H Hv x dx a z (Q : VK), Rel B fr σ H Hv → RepW B σ Hv dx x → look fr dx = some a → F a = some z →
  (∀ v H' Hv', Nxt B fr σ H Hv fr H' Hv' → Rep B.G Hv' z v → Q v H') → r x H Q
section
variable {X : Cx} {B : Bd} {W : WX} {f g : Ev} {σ : L2.St} {H : Hp} {Q : VK} {F : D → D → Option D} {r : R2}
theorem ent2 (hr : OpS B r F) (h : dTE B W (eOp2 F f g) σ H Q) : tOp r (dTE B W f) (dTE B W g) σ H Q := by
  obtain ⟨fr, Hv, R, h⟩ := h
  refine ⟨fr, Hv, R, ?_⟩
  unfold eOp2 at h
  cases hf : f fr with
  | bad => rw [hf] at h; exact h.elim
  | exc c fs fr1 => rw [hf] at h; exact h
  | ok x fr1 =>
    rw [hf] at h
    dsimp only [Res.bind] at h
    intro vx H1 Hv1 n1 r1
    refine ⟨fr1, Hv1, n1.rel, ?_⟩
    cases hg : g fr1 with
    | bad => rw [hg] at h; exact h.elim
    | exc c fs fr2 =>
      rw [hg] at h
      exact fun dd H' Hv' n => h dd H' Hv' (n1.trans n)
    | ok y fr2 =>
      rw [hg] at h
      dsimp only at h
      intro vy H2 Hv2 n2 r2
      cases hx : look fr2 x with
      | none => rw [hx] at h; exact h.elim
      | some a =>
        cases hy : look fr2 y with
        | none => rw [hx, hy] at h; exact h.elim
        | some b =>
          rw [hx, hy] at h
          dsimp only at h
          cases hz : F a b with
          | none => rw [hz] at h; exact h.elim
          | some z =>
            rw [hz] at h
            exact hr fr2 σ H2 Hv2 vx vy x y a b z Q n2.rel (r1.mono n2.ext) r2 hx hy hz fun v H' Hv' n q => h v H' Hv' ((n1.trans n2).trans n) (.of q)
theorem ent2F (hr : OpF B r F) (h : dTF B W (eOp2 F f g) σ H Q) : tOp r (dTE B W f) (dTE B W g) σ H Q := by
  obtain ⟨fr, Hv, R, h⟩ := h
  refine ⟨fr, Hv, R, ?_⟩
  unfold eOp2 at h
  cases hf : f fr with
  | bad => rw [hf] at h; exact h.elim
  | exc c fs fr1 => rw [hf] at h; exact h
  | ok x fr1 =>
    rw [hf] at h
    dsimp only [Res.bind] at h
    intro vx H1 Hv1 n1 r1
    refine ⟨fr1, Hv1, n1.rel, ?_⟩
    cases hg : g fr1 with
    | bad => rw [hg] at h; exact h.elim
    | exc c fs fr2 =>
      rw [hg] at h
      exact fun dd H' Hv' n => h dd H' Hv' (n1.trans n)
    | ok y fr2 =>
      rw [hg] at h
      dsimp only at h
      intro vy H2 Hv2 n2 r2
      cases hx : look fr2 x with
      | none => rw [hx] at h; exact h.elim
      | some a =>
        cases hy : look fr2 y with
        | none => rw [hx, hy] at h; exact h.elim
        | some b =>
          rw [hx, hy] at h
          dsimp only at h
          cases hz : F a b with
          | none => rw [hz] at h; exact h.elim
          | some z =>
            rw [hz] at h
            exact hr fr2 σ H2 Hv2 vx vy x y a b z Q n2.rel (r1.mono n2.ext) r2 hx hy hz fun p H' Hv' n hp q => h p H' Hv' ((n1.trans n2).trans n) ((n1.trans n2).none R hp) q
theorem ent1 {r : V → Hp → VK → Prop} {F : D → Option D} (hr : UnS B r F) (h : dTE B W (eOp1 F f) σ H Q) : tUn r (dTE B W f) σ H Q := by
  obtain ⟨fr, Hv, R, h⟩ := h
  refine ⟨fr, Hv, R, ?_⟩
  unfold eOp1 at h
  cases hf : f fr with
  | bad => rw [hf] at h; exact h.elim
  | exc c fs fr1 => rw [hf] at h; exact h
  | ok x fr1 =>
    rw [hf] at h
    dsimp only [Res.bind] at h
    intro vx H1 Hv1 n1 r1
    cases hx : look fr1 x with
    | none => rw [hx] at h; exact h.elim
    | some a =>
      rw [hx] at h
      dsimp only at h
      cases hz : F a with
      | none => rw [hz] at h; exact h.elim
      | some z =>
        rw [hz] at h
        exact hr fr1 σ H1 Hv1 vx x a z Q n1.rel r1 hx hz fun v H' Hv' n q => h v H' Hv' (n1.trans n) (.of q)
/-- a new list as a value -/
theorem df_de {f : Ev} {σ : L2.St} {H : Hp} {Q : VK} (h : dTE B W f σ H Q) : dTF B W f σ H Q := by
  obtain ⟨fr, Hv, R, h⟩ := h
  refine ⟨fr, Hv, R, ?_⟩
  cases hf : f fr with
  | bad => rw [hf] at h; exact h.elim
  | exc c fs fr1 => rw [hf] at h; exact h
  | ok d fr1 =>
    rw [hf] at h
    intro p H' Hv' n hp hvp hc
    have no : ¬ Own B fr1 σ p := fun o => by
      have o' : Own B fr σ p := own_shp n.shp o
      obtain ⟨⟨u, hu⟩, _⟩ := R.own_some o'
      rw [hp] at hu
      cases hu
    have h0 := R.h0_none hp
    have nv : ∀ {o : HO} (b : Addr) (u : HO), upd Hv' p o b = some u → Hv b = some u ∨ NewOk H b u ∨ Own B fr σ b := fun {o} b u h => by
      by_cases e : b = p
      · exact .inr (.inl (.inl (e ▸ hp)))
      · rw [upd_ne e] at h; exact n.newv b u h
    cases d with
    | lst ds =>
      obtain ⟨vs, e1, r⟩ := hc
      have nt : ∀ ps, HO.lst vs ≠ .tbl ps := fun ps z => by cases z
      have s := sub_freeze n.rel e1
      exact h (.ref p) H' (upd Hv' p (.lst vs)) ⟨n.rel.freeze e1 (.inl h0) nt no, n.ext.trans s, n.keep, n.shp, n.alive, nv⟩ (.of (Rep.lst upd_same (RepL.mono s _ _ r)))
    | obj c ns fs =>
      obtain ⟨dx, vs, e1, l, r⟩ := hc
      have nt : ∀ ps, HO.ins (B.G.cls c) dx ((ns.map B.G.fld).zip vs) ≠ .tbl ps := fun ps z => by cases z
      have s := sub_freeze n.rel e1
      exact h (.ref p) H' (upd Hv' p (.ins (B.G.cls c) dx ((ns.map B.G.fld).zip vs))) ⟨n.rel.freeze e1 (.inl h0) nt no, n.ext.trans s, n.keep, n.shp, n.alive, nv⟩ (.of (Rep.obj upd_same l (RepL.mono s _ _ r)))
    | dct ks ds =>
      obtain ⟨us, q, r⟩ := hc
      obtain ⟨o, e1, nt⟩ : ∃ o, H' p = some o ∧ ∀ ps, o ≠ .tbl ps := by
        rcases q with ⟨kvs, e, _⟩ | ⟨kvs, e, _⟩
        · exact ⟨_, e, fun ps z => by cases z⟩
        · exact ⟨_, e, fun ps z => by cases z⟩
      have s := sub_freeze n.rel e1
      exact h (.ref p) H' (upd Hv' p o) ⟨n.rel.freeze e1 (.inl h0) nt no, n.ext.trans s, n.keep, n.shp, n.alive, nv⟩ (.of (Rep.dct (q.at fun u z => by rw [e1] at z; cases z; exact upd_same) (RepL.mono s _ _ r)))
    | _ => exact hc.elim
theorem DF.de {e : Expr} {f : Ev} (h : DF X B W e f) : DE X B W e f := pe_imp h fun _ _ _ h => df_de h
end
end KS
namespace KS
open PySem PySem.Spec L2
def addF : D → D → Option D
  | .int i, .int j => some (.int (i + j))
  | .str x, .str y => if x.length + y.length ≤ sizeLine then some (.str (x ++ y)) else none
  | .tup a, .tup b => if a.length + b.length ≤ sizeLine then some (.tup (a ++ b)) else none
  | .lst a, .lst b => if a.length + b.length ≤ sizeLine then some (.lst (a ++ b)) else none
  | _, _ => none
def catF : D → D → Option D
  | .lst a, .lst b => if a.length + b.length ≤ sizeLine then some (.lst (a ++ b)) else none
  | _, _ => none
def subF : D → D → Option D
  | .int i, .int j => some (.int (i - j))
  | _, _ => none
def mulF : D → D → Option D
  | .int i, .int j => if (-(2 ^ 64) < i ∧ i < 2 ^ 64) ∨ (-(2 ^ 64) < j ∧ j < 2 ^ 64) then some (.int (i * j)) else none
  | _, _ => none
def fdivF : D → D → Option D
  | .int i, .int j => if 0 < j ∧ j < 1073741824 then some (.int (i / j)) else none
  | _, _ => none
def modF : D → D → Option D
  | .int i, .int j => if 0 < j then some (.int (i % j)) else none
  | _, _ => none
def powF : D → D → Option D
  | .int i, .int j => if 0 ≤ j ∧ j ≤ 1000000 ∧ i.natAbs < 2 ^ 64 then some (.int (i ^ j.toNat)) else none
  | _, _ => none
def negF : D → Option D
  | .int i => some (.int (-i))
  | _ => none
section
variable {B : Bd} {fr : Fr} {σ : L2.St} {H Hv : Hp}
/-- a value laid and at once a value -/
theorem lay_tup (R : Rel B fr σ H Hv) {p : Addr} {xs : List V} {ds : List D} (hp : H p = none) (r : RepL B.G Hv ds xs) {Q : VK}
    (k : ∀ v H' Hv', Nxt B fr σ H Hv fr H' Hv' → Rep B.G Hv' (.tup ds) v → Q v H') : Q (.ref p) (upd H p (.tup xs)) :=
  have nt : ∀ ps, HO.tup xs ≠ .tbl ps := fun ps z => by cases z
  k _ _ _ (Nxt.layV R hp nt) (Rep.tup upd_same (RepL.mono ((Sub.refl Hv).put (R.hv_none hp)) _ _ r))
theorem lay_lst (R : Rel B fr σ H Hv) {p : Addr} {xs : List V} {ds : List D} (hp : H p = none) (r : RepL B.G Hv ds xs) {Q : VK}
    (k : ∀ v H' Hv', Nxt B fr σ H Hv fr H' Hv' → Rep B.G Hv' (.lst ds) v → Q v H') : Q (.ref p) (upd H p (.lst xs)) :=
  have nt : ∀ ps, HO.lst xs ≠ .tbl ps := fun ps z => by cases z
  k _ _ _ (Nxt.layV R hp nt) (Rep.lst upd_same (RepL.mono ((Sub.refl Hv).put (R.hv_none hp)) _ _ r))
/-- a new list, owned by nothing as yet -/
theorem lay_own (R : Rel B fr σ H Hv) {p : Addr} {xs : List V} {ds : List D} (hp : H p = none) (r : RepL B.G Hv ds xs) {Q : VK}
    (k : ∀ p H' Hv', Nxt B fr σ H Hv fr H' Hv' → H p = none → Hv' p = none → Cell B.G H' Hv' p (.lst ds) → Q (.ref p) H') : Q (.ref p) (upd H p (.lst xs)) :=
  k _ _ Hv ⟨R.lay hp, .refl _, fun b u h _ _ => by rw [upd_ne (ne_of_none h hp)]; exact h, .refl _ _, fun b u h => ⟨u, by rw [upd_ne (ne_of_none h hp)]; exact h⟩, fun b u h => .inl h⟩ hp (R.hv_none hp) ⟨xs, upd_same, r⟩
end
section
variable {X : Cx} {B : Bd} {W : WX} {a b : Expr} {f g : Ev} {pos : Pos}
theorem ops_ints {r : R2} {F : D → D → Option D} (hF : ∀ x y z, F x y = some z → ∃ i j, x = .int i ∧ y = .int j) (hr : ∀ i j z H Q, F (.int i) (.int j) = some z → (∀ v, Rep B.G (fun _ => none) z v → Q v H) → r (.int i) (.int j) H Q) : OpS B r F := by
  intro fr σ H Hv x y dx dy a b z Q R rx ry hx hy hz k
  obtain ⟨i, j, rfl, rfl⟩ := hF _ _ _ hz
  rw [R.int_of rx hx, R.int_of ry hy]
  exact hr i j z H Q hz fun v hv => k v H Hv (.refl R) (Rep.mono (fun _ _ z => by cases z) _ _ hv)
theorem repI {G : SE} {H : Hp} {i : Int} : Rep G H (.int i) (.int i) := Rep.int_iff.mpr rfl
theorem repB {G : SE} {H : Hp} {i : Bool} : Rep G H (.bl i) (.bl i) := Rep.bl_iff.mpr rfl
theorem repS {G : SE} {H : Hp} {i : Str} : Rep G H (.str i) (.str i) := Rep.str_iff.mpr rfl
theorem repN {G : SE} {H : Hp} : Rep G H .non .non := Rep.non_iff.mpr rfl
theorem ints_of {F : D → D → Option D} (h : ∀ x y, (∀ i j, ¬ (x = .int i ∧ y = .int j)) → F x y = none) : ∀ x y z, F x y = some z → ∃ i j, x = .int i ∧ y = .int j := fun x y z e => by
  refine Classical.byContradiction fun n => ?_
  rw [h x y fun i j q => n ⟨i, j, q⟩] at e
  cases e
theorem ops_sub : OpS B (rI0 fun i j => .int (i - j)) subF := ops_ints (ints_of fun x y h => by cases x <;> cases y <;> first | rfl | exact absurd ⟨rfl, rfl⟩ (h _ _)) fun i j z H Q e k => by
  cases e
  exact ⟨i, j, rfl, rfl, k _ repI⟩
theorem ops_mul : OpS B (rI CMul fun i j => .int (i * j)) mulF := ops_ints (ints_of fun x y h => by cases x <;> cases y <;> first | rfl | exact absurd ⟨rfl, rfl⟩ (h _ _)) fun i j z H Q e k => by
  unfold mulF at e
  dsimp only at e
  split at e
  · next c => cases e; exact ⟨i, j, rfl, rfl, c, k _ repI⟩
  · cases e
theorem ops_fdiv : OpS B (rI CDiv fun i j => .int (i / j)) fdivF := ops_ints (ints_of fun x y h => by cases x <;> cases y <;> first | rfl | exact absurd ⟨rfl, rfl⟩ (h _ _)) fun i j z H Q e k => by
  unfold fdivF at e
  dsimp only at e
  split at e
  · next c => cases e; exact ⟨i, j, rfl, rfl, c, k _ repI⟩
  · cases e
theorem ops_mod : OpS B (rI (fun _ j => 0 < j) fun i j => .int (i % j)) modF := ops_ints (ints_of fun x y h => by cases x <;> cases y <;> first | rfl | exact absurd ⟨rfl, rfl⟩ (h _ _)) fun i j z H Q e k => by
  unfold modF at e
  dsimp only at e
  split at e
  · next c => cases e; exact ⟨i, j, rfl, rfl, c, k _ repI⟩
  · cases e
theorem ops_pow : OpS B (rI CPow fun i j => .int (i ^ j.toNat)) powF := ops_ints (ints_of fun x y h => by cases x <;> cases y <;> first | rfl | exact absurd ⟨rfl, rfl⟩ (h _ _)) fun i j z H Q e k => by
  unfold powF at e
  dsimp only at e
  split at e
  · next c => cases e; exact ⟨i, j, rfl, rfl, c, k _ repI⟩
  · cases e
theorem d_sub (ha : DE X B W a f) (hb : DE X B W b g) : DE X B W (.BinOp a .Sub b pos) (eOp2 subF f g) := pe_imp (pe_op op_sub ha hb) fun _ _ _ h => ent2 ops_sub h
theorem d_mul (ha : DE X B W a f) (hb : DE X B W b g) : DE X B W (.BinOp a .Mult b pos) (eOp2 mulF f g) := pe_imp (pe_op op_mul ha hb) fun _ _ _ h => ent2 ops_mul h
theorem d_fdiv (ha : DE X B W a f) (hb : DE X B W b g) : DE X B W (.BinOp a .FloorDiv b pos) (eOp2 fdivF f g) := pe_imp (pe_op op_fdiv ha hb) fun _ _ _ h => ent2 ops_fdiv h
theorem d_mod (ha : DE X B W a f) (hb : DE X B W b g) : DE X B W (.BinOp a .Mod b pos) (eOp2 modF f g) := pe_imp (pe_op op_mod ha hb) fun _ _ _ h => ent2 ops_mod h
theorem d_pow (ha : DE X B W a f) (hb : DE X B W b g) : DE X B W (.BinOp a .Pow b pos) (eOp2 powF f g) := pe_imp (pe_op op_pow ha hb) fun _ _ _ h => ent2 ops_pow h
theorem ops_add (hK : X.K = B.G.K) : OpS B (fun x y H Q => (∃ i j, x = .int i ∧ y = .int j ∧ Q (.int (i + j)) H) ∨ ((∃ i j, x = .str i ∧ y = .str j ∧ i.length + j.length ≤ sizeLine ∧ Q (.str (i ++ j)) H) ∨ (rCatA X.K x y H Q ∨ rCat x y H Q))) addF := by
  intro fr σ H Hv x y dx dy a b z Q R rx ry hx hy hz k
  unfold addF at hz
  split at hz
  · cases hz
    rw [R.int_of rx hx, R.int_of ry hy]
    exact .inl ⟨_, _, rfl, rfl, k _ H Hv (.refl R) repI⟩
  · split at hz
    · next c =>
      cases hz
      rw [R.str_of rx hx, R.str_of ry hy]
      exact .inr (.inl ⟨_, _, rfl, rfl, c, k _ H Hv (.refl R) repS⟩)
    · cases hz
  · split at hz
    · next c =>
      cases hz
      obtain ⟨p, vs, rfl, q1, q1v, r1⟩ := R.tup_of rx hx
      obtain ⟨q, us, rfl, q2, q2v, r2⟩ := R.tup_of ry hy
      refine .inr (.inr (.inl ⟨p, q, vs, us, rfl, rfl, by rw [hK]; exact q1, by rw [hK]; exact q2, by rw [r1.length, r2.length]; exact c, fun e => ?_, fun e1 e2 => ?_, fun e1 e2 t ht => ?_⟩))
      · subst e
        have e1 := List.eq_nil_of_length_eq_zero r1.length.symm
        subst e1
        exact k _ H Hv (.refl R) (by simpa using Rep.tup q2v r2)
      · subst e2
        have e2' := List.eq_nil_of_length_eq_zero r2.length.symm
        subst e2'
        exact k _ H Hv (.refl R) (by simpa using Rep.tup q1v r1)
      · exact lay_tup R ht (r1.append r2) k
    · cases hz
  · split at hz
    · next c =>
      cases hz
      obtain ⟨p, vs, rfl, q1, r1⟩ := R.list_of rx hx
      obtain ⟨q, us, rfl, q2, r2⟩ := R.list_of ry hy
      exact .inr (.inr (.inr ⟨p, q, vs, us, rfl, rfl, q1, q2, by rw [r1.length, r2.length]; exact c, fun t ht => lay_lst R ht (r1.append r2) k⟩))
    · cases hz
  · cases hz
theorem d_add (ha : DE X B W a f) (hb : DE X B W b g) (hK : X.K = B.G.K := by rfl) : DE X B W (.BinOp a .Add b pos) (eOp2 addF f g) :=
  pe_imp (pe_op (op_add.or (op_add_str.or (op_catA.or op_cat))) ha hb) fun _ _ _ h => ent2 (ops_add hK) h
theorem opf_cat : OpF B rCat catF := by
  intro fr σ H Hv x y dx dy a b z Q R rx ry hx hy hz k
  unfold catF at hz
  split at hz
  · split at hz
    · next c =>
      cases hz
      obtain ⟨p, vs, rfl, q1, r1⟩ := R.list_of rx hx
      obtain ⟨q, us, rfl, q2, r2⟩ := R.list_of ry hy
      exact ⟨p, q, vs, us, rfl, rfl, q1, q2, by rw [r1.length, r2.length]; exact c, fun t ht => lay_own R ht (r1.append r2) k⟩
    · cases hz
  · cases hz
theorem d_catF (ha : DE X B W a f) (hb : DE X B W b g) : DF X B W (.BinOp a .Add b pos) (eOp2 catF f g) := pe_imp (pe_op op_cat ha hb) fun _ _ _ h => ent2F opf_cat h
theorem uns_neg : UnS B (rU fun i => .int (-i)) negF := by
  intro fr σ H Hv x dx a z Q R rx hx hz k
  unfold negF at hz
  split at hz
  · cases hz
    rw [R.int_of rx hx]
    exact ⟨_, rfl, k _ H Hv (.refl R) repI⟩
  · cases hz
theorem d_neg (ha : DE X B W a f) : DE X B W (.UnaryOp .USub a pos) (eOp1 negF f) := pe_imp (pe_un un_neg ha) fun _ _ _ h => ent1 uns_neg h
end
mutual
def pyOf : D → Option PyData
  | .non => some .none
  | .bl b => some (.bool b)
  | .int i => some (.int i)
  | .str x => some (.str x)
  | .tup ds => (pyOfL ds).map .tuple
  | .lst ds => (pyOfL ds).map .list
  | _ => none
def pyOfL : List D → Option (List PyData)
  | [] => some []
  | d :: ds => match pyOf d, pyOfL ds with
    | some p, some ps => some (p :: ps)
    | _, _ => none
end
mutual
theorem dp_of {G : SE} {H Hv : Hp} (s : Sub Hv H) : ∀ (d : D) (v : V) (p : PyData), Rep G Hv d v → pyOf d = some p → Dp G.K H v p
  | .non, v, p, h, e => by
    rw [Rep.non_iff.mp h]
    simp only [pyOf] at e
    cases e
    exact .non
  | .bl b, v, p, h, e => by
    rw [Rep.bl_iff.mp h]
    simp only [pyOf] at e
    cases e
    exact .bl _
  | .int i, v, p, h, e => by
    rw [Rep.int_iff.mp h]
    simp only [pyOf] at e
    cases e
    exact .int _
  | .str x, v, p, h, e => by
    rw [Rep.str_iff.mp h]
    simp only [pyOf] at e
    cases e
    exact .str _
  | .tup ds, v, p, h, e => by
    obtain ⟨a, vs, rfl, q, r⟩ := Rep.tup_inv h
    simp only [pyOf, Option.map_eq_some_iff] at e
    obtain ⟨ps, e1, rfl⟩ := e
    exact .tup (s.sqt q) (dpL_of s ds vs ps r e1)
  | .lst ds, v, p, h, e => by
    obtain ⟨a, vs, rfl, q, r⟩ := Rep.lst_inv h
    simp only [pyOf, Option.map_eq_some_iff] at e
    obtain ⟨ps, e1, rfl⟩ := e
    exact .lst (SqL.of (s _ _ q)) (dpL_of s ds vs ps r e1)
  | .scr _, _, _, _, e => by simp only [pyOf] at e; cases e
  | .obj _ _ _, _, _, _, e => by simp only [pyOf] at e; cases e
  | .dct _ _, _, _, _, e => by simp only [pyOf] at e; cases e
  | .var _, _, _, _, e => by simp only [pyOf] at e; cases e
theorem dpL_of {G : SE} {H Hv : Hp} (s : Sub Hv H) : ∀ (ds : List D) (vs : List V) (ps : List PyData), RepL G Hv ds vs → pyOfL ds = some ps → DpAll G.K H vs ps
  | [], vs, ps, h, e => by
    rw [h.nil_inv]
    simp only [pyOfL] at e
    cases e
    exact .nil
  | d :: ds, vs, ps, h, e => by
    obtain ⟨v, r, rfl, h1, h2⟩ := h.cons_inv
    simp only [pyOfL] at e
    split at e
    · next p qs e1 e2 =>
      cases e
      exact .cons (dp_of s d v p h1 e1) (dpL_of s ds r qs h2 e2)
    · cases e
end
theorem dp_look {B : Bd} {fr : Fr} {σ : L2.St} {H Hv : Hp} (R : Rel B fr σ H Hv) {d e : D} {v : V} {p : PyData} (h : RepW B σ Hv d v) (hl : look fr d = some e) (hp : pyOf e = some p) : Dp B.G.K H v p := by
  cases d with
  | var i =>
    cases e with
    | lst ds =>
      obtain ⟨a, vs, rfl, q, r⟩ := R.list_of h hl
      simp only [pyOf, Option.map_eq_some_iff] at hp
      obtain ⟨ps, e1, rfl⟩ := hp
      exact .lst (SqL.of q) (dpL_of R.sub ds vs ps r e1)
    | obj _ _ _ => simp only [pyOf] at hp; cases hp
    | dct _ _ => simp only [pyOf] at hp; cases hp
    | _ => exact dp_of R.sub _ _ _ (look_scalar R h hl rfl) hp
  | _ =>
    cases hl
    exact dp_of R.sub _ _ _ h hp
/-- the scalars that == tells apart as data does -/
def scalE : D → D → Option Bool
  | .non, .non => some true | .non, .int _ => some false | .int _, .non => some false | .non, .bl _ => some false | .bl _, .non => some false | .non, .str _ => some false | .str _, .non => some false
  | .int i, .int j => some (decide (i = j)) | .bl i, .bl j => some (decide (i = j)) | .str i, .str j => some (decide (i = j))
  | .int _, .str _ => some false | .str _, .int _ => some false | .bl _, .str _ => some false | .str _, .bl _ => some false
  | _, _ => none
def eqB (a b : D) : Option Bool := match scalE a b with
  | some k => some k
  | none => match pyOf a, pyOf b with
    | some p, some q => if SeqAt.shaped p && SeqAt.shaped q then some (PyData.eqv p q) else none
    | _, _ => none
def eqF (a b : D) : Option D := (eqB a b).map D.bl
def neF (a b : D) : Option D := (eqB a b).map fun k => D.bl (!k)
def inB (a b : D) : Option Bool := match pyOf a, pyOf b with
  | some p, some (.list qs) => if SeqAt.shaped p && SeqAt.shaped (.list qs) then some (qs.any fun z => PyData.eqv z p) else none
  | _, _ => none
section
variable {X : Cx} {B : Bd} {W : WX} {a b c : Expr} {f g h : Ev} {pos : Pos}
theorem scal_of {a b : D} {k : Bool} {x y : V} {G : SE} {H : Hp} (e : scalE a b = some k) (hx : Rep G H a x) (hy : Rep G H b y) : scal x y = true ∧ decide (x = y) = k := by
  unfold scalE at e
  split at e <;> first
    | (cases e
       simp only [Rep] at hx hy
       subst hx hy
       exact ⟨rfl, by simp⟩)
    | cases e
theorem scalE_cell {a b : D} {k : Bool} (e : scalE a b = some k) : isCell a = false ∧ isCell b = false := by
  unfold scalE at e
  split at e <;> first
    | exact ⟨rfl, rfl⟩
    | cases e
theorem ops_eqg {r : Bool → V} (hK : X.K = B.G.K) (rr : Bool → D) (hr : ∀ k H, Rep B.G H (rr k) (r k)) : OpS B (fun x y H Q => (scal x y = true ∧ Q (r (decide (x = y))) H) ∨ ∃ d e, Dp X.K H x d ∧ Dp X.K H y e ∧ SeqAt.shaped d = true ∧ SeqAt.shaped e = true ∧ Q (r (PyData.eqv d e)) H) (fun a b => (eqB a b).map rr) := by
  intro fr σ H Hv x y dx dy a b z Q R rx ry hx hy hz k
  simp only [Option.map_eq_some_iff] at hz
  obtain ⟨m, hz, rfl⟩ := hz
  unfold eqB at hz
  split at hz
  · next kk e =>
    cases hz
    obtain ⟨c1, c2⟩ := scalE_cell e
    obtain ⟨h1, h2⟩ := scal_of e (look_scalar R rx hx c1) (look_scalar R ry hy c2)
    refine .inl ⟨h1, ?_⟩
    rw [h2]
    exact k _ H Hv (.refl R) (hr _ _)
  · split at hz
    · next p q ep eq =>
      split at hz
      · next c =>
        cases hz
        have c' := Bool.and_eq_true_iff.mp c
        refine .inr ⟨p, q, ?_, ?_, c'.1, c'.2, k _ H Hv (.refl R) (hr _ _)⟩
        · rw [hK]; exact dp_look R rx hx ep
        · rw [hK]; exact dp_look R ry hy eq
      · cases hz
    · cases hz
theorem ops_eq (hK : X.K = B.G.K) : OpS B (fun x y H Q => rEq x y H Q ∨ rEqD X.K x y H Q) eqF := ops_eqg (r := V.bl) hK D.bl fun _ _ => repB
theorem ops_ne (hK : X.K = B.G.K) : OpS B (fun x y H Q => rNe x y H Q ∨ rNeD X.K x y H Q) neF := ops_eqg (r := fun k => V.bl (!k)) hK (fun k => D.bl (!k)) fun _ _ => repB
/-- order of ints -/
def ltF : D → D → Option D
  | .int i, .int j => some (.bl (decide (i < j)))
  | _, _ => none
def leF : D → D → Option D
  | .int i, .int j => some (.bl (decide (i ≤ j)))
  | _, _ => none
def gtF : D → D → Option D
  | .int i, .int j => some (.bl (decide (j < i)))
  | _, _ => none
def geF : D → D → Option D
  | .int i, .int j => some (.bl (decide (j ≤ i)))
  | _, _ => none
def isNon : D → Bool
  | .non => true
  | _ => false
def isNF : D → D → Option D
  | a, .non => some (.bl (isNon a))
  | _, _ => none
def notNF : D → D → Option D
  | a, .non => some (.bl (!isNon a))
  | _, _ => none
def inF (a b : D) : Option D := (inB a b).map D.bl
def notInF (a b : D) : Option D := (inB a b).map fun k => D.bl (!k)
theorem ops_lt : OpS B (rI0 fun i j => .bl (decide (i < j))) ltF := ops_ints (ints_of fun x y h => by cases x <;> cases y <;> first | rfl | exact absurd ⟨rfl, rfl⟩ (h _ _)) fun i j z H Q e k => by
  cases e
  exact ⟨i, j, rfl, rfl, k _ repB⟩
theorem ops_le : OpS B (rI0 fun i j => .bl (decide (i ≤ j))) leF := ops_ints (ints_of fun x y h => by cases x <;> cases y <;> first | rfl | exact absurd ⟨rfl, rfl⟩ (h _ _)) fun i j z H Q e k => by
  cases e
  exact ⟨i, j, rfl, rfl, k _ repB⟩
theorem ops_gt : OpS B (rI0 fun i j => .bl (decide (j < i))) gtF := ops_ints (ints_of fun x y h => by cases x <;> cases y <;> first | rfl | exact absurd ⟨rfl, rfl⟩ (h _ _)) fun i j z H Q e k => by
  cases e
  exact ⟨i, j, rfl, rfl, k _ repB⟩
theorem ops_ge : OpS B (rI0 fun i j => .bl (decide (j ≤ i))) geF := ops_ints (ints_of fun x y h => by cases x <;> cases y <;> first | rfl | exact absurd ⟨rfl, rfl⟩ (h _ _)) fun i j z H Q e k => by
  cases e
  exact ⟨i, j, rfl, rfl, k _ repB⟩
theorem non_look {fr : Fr} {σ : L2.St} {H Hv : Hp} (R : Rel B fr σ H Hv) {d e : D} {v : V} (h : RepW B σ Hv d v) (hl : look fr d = some e) : decide (v = .non) = isNon e := by
  cases e with
  | non => rw [R.non_of h hl]; rfl
  | bl i => rw [R.bl_of h hl]; rfl
  | int i => rw [R.int_of h hl]; rfl
  | str i => rw [R.str_of h hl]; rfl
  | tup ds =>
    obtain ⟨a, vs, rfl, _⟩ := R.tup_of h hl
    rfl
  | lst ds =>
    obtain ⟨a, vs, rfl, _⟩ := R.list_of h hl
    rfl
  | scr ns =>
    obtain ⟨a, rfl, _⟩ := Rep.scr_inv (look_scalar R h hl rfl)
    rfl
  | var i => exact (Rep.no_var (look_scalar R h hl rfl)).elim
  | obj c ns fs =>
    cases d with
    | var i =>
      obtain ⟨hm, hs⟩ := h
      obtain ⟨a, hs', _⟩ := R.own i _ (look_var hl) hm
      rw [hs] at hs'
      cases hs'
      rfl
    | obj c' ns' fs' =>
      obtain ⟨a, dx, vs, rfl, _⟩ := Rep.obj_inv h
      rfl
    | _ => cases hl
  | dct ks ds =>
    cases d with
    | var i =>
      obtain ⟨hm, hs⟩ := h
      obtain ⟨a, hs', _⟩ := R.own i _ (look_var hl) hm
      rw [hs] at hs'
      cases hs'
      rfl
    | dct ks' ds' =>
      obtain ⟨a, us, rfl, _⟩ := Rep.dct_inv h
      rfl
    | _ => cases hl
theorem ops_isN : OpS B (fun x y H Q => y = .non ∧ Q (.bl (decide (x = .non))) H) isNF := by
  intro fr σ H Hv x y dx dy a b z Q R rx ry hx hy hz k
  cases b <;> first | cases hz | skip
  refine ⟨R.non_of ry hy, ?_⟩
  rw [non_look R rx hx]
  exact k _ H Hv (.refl R) repB
theorem ops_notN : OpS B (fun x y H Q => y = .non ∧ Q (.bl (!decide (x = .non))) H) notNF := by
  intro fr σ H Hv x y dx dy a b z Q R rx ry hx hy hz k
  cases b <;> first | cases hz | skip
  refine ⟨R.non_of ry hy, ?_⟩
  rw [non_look R rx hx]
  exact k _ H Hv (.refl R) repB
theorem ops_ing (hK : X.K = B.G.K) (r : Bool → V) (rr : Bool → D) (hr : ∀ k H, Rep B.G H (rr k) (r k)) : OpS B (fun x y H Q => ∃ d ds, Dp X.K H x d ∧ Dp X.K H y (.list ds) ∧ SeqAt.shaped d = true ∧ SeqAt.shaped (.list ds) = true ∧ Q (r (ds.any fun z => PyData.eqv z d)) H) (fun a b => (inB a b).map rr) := by
  intro fr σ H Hv x y dx dy a b z Q R rx ry hx hy hz k
  simp only [Option.map_eq_some_iff] at hz
  obtain ⟨m, hz, rfl⟩ := hz
  unfold inB at hz
  split at hz
  · next p qs ep eq =>
    split at hz
    · next c =>
      cases hz
      have c' := Bool.and_eq_true_iff.mp c
      refine ⟨p, qs, ?_, ?_, c'.1, c'.2, k _ H Hv (.refl R) (hr _ _)⟩
      · rw [hK]; exact dp_look R rx hx ep
      · rw [hK]; exact dp_look R ry hy eq
    · cases hz
  · cases hz
end
end KS
namespace KS
open PySem PySem.Spec L2
def bE (e : Ev) : Bv := fun fr => (e fr).bind fun d fr1 => match d with
  | .bl b => .ok b fr1
  | _ => .bad
def bAnd (f g : Bv) : Bv := fun fr => (f fr).bind fun b fr1 => if b then g fr1 else .ok false fr1
def bOr (f g : Bv) : Bv := fun fr => (f fr).bind fun b fr1 => if b then .ok true fr1 else g fr1
def bNot (f : Bv) : Bv := fun fr => (f fr).bind fun b fr1 => .ok (!b) fr1
def eAnd (f g : Ev) : Ev := fun fr => (f fr).bind fun d fr1 => match d with
  | .bl true => g fr1
  | .bl false => .ok (.bl false) fr1
  | _ => .bad
def eNot (f : Ev) : Ev := fun fr => (f fr).bind fun d fr1 => match d with
  | .bl b => .ok (.bl (!b)) fr1
  | _ => .bad
def truB : D → Option Bool
  | .non => some false
  | .bl b => some b
  | .int i => some (i != 0)
  | .str x => if x.length ≤ sizeLine then some ((x.length : Int) != 0) else none
  | .tup ds => some (!ds.isEmpty)
  | .lst ds => some (!ds.isEmpty)
  | _ => none
def bTru (f : Ev) : Bv := fun fr => (f fr).bind fun d fr1 => match look fr1 d with
  | some a => match truB a with
    | some b => .ok b fr1
    | none => .bad
  | none => .bad
/-- a op1 b op2 c -/
def eChain (F F' : D → D → Option D) (f g h : Ev) : Ev := fun fr => (f fr).bind fun x fr1 => (g fr1).bind fun y fr2 => match look fr2 x, look fr2 y with
  | some a, some b => match F a b with
    | some (.bl true) => (h fr2).bind fun z fr3 => match look fr3 y, look fr3 z with
      | some b', some c => ofO (F' b' c) fr3
      | _, _ => .bad
    | some (.bl false) => .ok (.bl false) fr2
    | _ => .bad
  | _, _ => .bad
section
variable {X : Cx} {B : Bd} {W : WX} {a b c : Expr} {f g h : Ev} {t u : Bv} {pos : Pos} {rest : List Expr}
theorem d_cmp {op : CmpOp} {r : R2} {F : D → D → Option D} (hr : OpS B r F) (ho : OpR X (compareOp op) r) (ha : DE X B W a f) (hb : DE X B W b g) (hm : behindInMarks op b = false) : DE X B W (.Compare a [op] [b] pos) (eOp2 F f g) :=
  pe_imp (pe_cmpR ho ha hb hm) fun _ _ _ h => ent2 hr h
/-- a bool's reading, from a value's -/
theorem postB_E {fr : Fr} {σ : L2.St} {H Hv : Hp} {r : Res Fr D} {Q : Bool → Hp → Prop} (h : PostB B W fr σ H Hv (r.bind fun d fr1 => match d with | .bl b => .ok b fr1 | _ => .bad) Q) :
    PostE B W fr σ H Hv r (fun x H' => ∃ k, x = .bl k ∧ Q k H') := by
  cases r with
  | bad => exact h.elim
  | exc c fs fr1 => exact h
  | ok d fr1 =>
    dsimp only [Res.bind] at h
    cases d with
    | bl k => exact fun v H' Hv' n hv => ⟨k, Rep.bl_iff.mp (hv.rep fun i z => by cases z), h H' Hv' n⟩
    | _ => exact h.elim
theorem dt_cmp {op : CmpOp} {r : R2} {F : D → D → Option D} (hr : OpS B r F) (ho : OpR X (compareOp op) r) (ha : DE X B W a f) (hb : DE X B W b g) (hm : behindInMarks op b = false) : DT X B W (.Compare a [op] [b] pos) (bE (eOp2 F f g)) :=
  pt_imp (pt_cmpR ho ha hb hm) fun σ H Q ⟨fr, Hv, R, h⟩ => ent2 hr ⟨fr, Hv, R, postB_E h⟩
/-- an expression whose value is a bool, as a test -/
theorem dt_val (ha : DE X B W a f) (he : ∀ whole, isTrue a X.env whole = (do let v ← whole; standAt a.pos; holding [v] (truthy v)) := by intro _; rfl) : DT X B W a (bE f) :=
  pt_imp (pt_val ha he) fun σ H Q ⟨fr, Hv, R, h⟩ => ⟨fr, Hv, R, postB_E h⟩
theorem tru_look (hK : X.K = B.G.K) {fr : Fr} {σ : L2.St} {H Hv : Hp} (R : Rel B fr σ H Hv) {d e : D} {v : V} {k : Bool} (h : RepW B σ Hv d v) (hl : look fr d = some e) (ht : truB e = some k) : TruV X.K v H k := by
  cases e with
  | non => rw [R.non_of h hl]; cases ht; rfl
  | bl i => rw [R.bl_of h hl]; cases ht; rfl
  | int i => rw [R.int_of h hl]; cases ht; rfl
  | str x =>
    rw [R.str_of h hl]
    unfold truB at ht
    dsimp only at ht
    split at ht
    · next c => cases ht; exact ⟨c, rfl⟩
    · cases ht
  | tup ds =>
    obtain ⟨a, vs, rfl, q, _, r⟩ := R.tup_of h hl
    cases ht
    refine .inr (.inl ⟨vs, by rw [hK]; exact q, ?_⟩)
    cases ds with
    | nil => rw [r.nil_inv]; rfl
    | cons d ds => obtain ⟨v, t, rfl, _⟩ := r.cons_inv; rfl
  | lst ds =>
    obtain ⟨a, vs, rfl, q, r⟩ := R.list_of h hl
    cases ht
    refine .inl ⟨vs, SqL.of q, ?_⟩
    cases ds with
    | nil => rw [r.nil_inv]; rfl
    | cons d ds => obtain ⟨v, t, rfl, _⟩ := r.cons_inv; rfl
  | _ => cases ht
/-- any value, as a test -/
theorem dt_tru (ha : DE X B W a f) (hK : X.K = B.G.K := by rfl) (he : ∀ whole, isTrue a X.env whole = (do let v ← whole; standAt a.pos; holding [v] (truthy v)) := by intro _; rfl) : DT X B W a (bTru f) := by
  refine pt_imp (pt_truth ha he) fun σ H Q h => ?_
  obtain ⟨fr, Hv, R, h⟩ := h
  refine ⟨fr, Hv, R, ?_⟩
  unfold bTru at h
  cases hf : f fr with
  | bad => rw [hf] at h; exact h.elim
  | exc c fs fr1 => rw [hf] at h; exact h
  | ok d fr1 =>
    rw [hf] at h
    dsimp only [Res.bind] at h
    intro v H1 Hv1 n r
    cases hl : look fr1 d with
    | none => rw [hl] at h; exact h.elim
    | some e =>
      rw [hl] at h
      dsimp only at h
      cases ht : truB e with
      | none => rw [ht] at h; exact h.elim
      | some k =>
        rw [ht] at h
        exact ⟨k, tru_look hK n.rel r hl ht, h H1 Hv1 n⟩
theorem dw_and1 (ha : DT X B W a t) : DW X B W (.BoolOp .And [a] pos) t := pw_and1 ha
theorem dw_or1 (ha : DT X B W a t) : DW X B W (.BoolOp .Or [a] pos) t := pw_or1 ha
theorem bnd2 {σ : L2.St} {H : Hp} {f : Bv} {k : Bool → Bv} {Q : Bool → Hp → Prop} (h : dTT B W (fun fr => (f fr).bind fun b fr1 => k b fr1) σ H Q) : dTT B W f σ H fun b H1 => dTT B W (k b) σ H1 Q := by
  obtain ⟨fr, Hv, R, h⟩ := h
  refine ⟨fr, Hv, R, ?_⟩
  dsimp only at h
  cases hf : f fr with
  | bad => rw [hf] at h; exact h.elim
  | exc c fs fr1 => rw [hf] at h; exact h
  | ok b fr1 =>
    rw [hf] at h
    exact fun H1 Hv1 n => ⟨fr1, Hv1, n.rel, h.step n⟩
theorem dtt_ok {σ : L2.St} {H : Hp} {b : Bool} {Q : Bool → Hp → Prop} (h : dTT B W (fun fr => .ok b fr) σ H Q) : Q b H := by
  obtain ⟨fr, Hv, R, h⟩ := h
  exact h H Hv (.refl R)
theorem dw_and (ha : DT X B W a t) (hb : DW X B W (.BoolOp .And (b :: rest) pos) u) : DW X B W (.BoolOp .And (a :: b :: rest) pos) (bAnd t u) := by
  refine pw_imp (pw_and ha hb) fun σ H Q h => ?_
  obtain ⟨fr, Hv, R, h⟩ := bnd2 (k := fun b => fun fr1 => if b then u fr1 else .ok false fr1) h
  refine ⟨fr, Hv, R, ?_⟩
  cases hf : t fr with
  | bad => rw [hf] at h; exact h.elim
  | exc c fs fr1 => rw [hf] at h; exact h
  | ok k fr1 =>
    rw [hf] at h
    intro H1 Hv1 n
    have q := h H1 Hv1 n
    cases k with
    | true =>
      rw [if_pos rfl]
      exact q
    | false =>
      rw [if_neg Bool.false_ne_true]
      exact dtt_ok q
theorem dw_or (ha : DT X B W a t) (hb : DW X B W (.BoolOp .Or (b :: rest) pos) u) : DW X B W (.BoolOp .Or (a :: b :: rest) pos) (bOr t u) := by
  refine pw_imp (pw_or ha hb) fun σ H Q h => ?_
  obtain ⟨fr, Hv, R, h⟩ := bnd2 (k := fun b => fun fr1 => if b then .ok true fr1 else u fr1) h
  refine ⟨fr, Hv, R, ?_⟩
  cases hf : t fr with
  | bad => rw [hf] at h; exact h.elim
  | exc c fs fr1 => rw [hf] at h; exact h
  | ok k fr1 =>
    rw [hf] at h
    intro H1 Hv1 n
    have q := h H1 Hv1 n
    cases k with
    | true =>
      rw [if_pos rfl]
      exact dtt_ok q
    | false =>
      rw [if_neg Bool.false_ne_true]
      exact q
theorem DW.dt (h : DW X B W a t) : DT X B W a t := PW.pt h
theorem dt_not (ha : DT X B W a t) : DT X B W (.UnaryOp .Not a pos) (bNot t) := by
  refine pt_imp (pt_not ha) fun σ H Q h => ?_
  obtain ⟨fr, Hv, R, h⟩ := bnd2 (k := fun b => fun fr1 => .ok (!b) fr1) h
  refine ⟨fr, Hv, R, ?_⟩
  cases hf : t fr with
  | bad => rw [hf] at h; exact h.elim
  | exc c fs fr1 => rw [hf] at h; exact h
  | ok k fr1 =>
    rw [hf] at h
    exact fun H1 Hv1 n => dtt_ok (h H1 Hv1 n)
theorem d_one {op} (ha : DE X B W a f) : DE X B W (.BoolOp op [a] pos) f := pe_one ha
theorem d_and (ha : DE X B W a f) (hb : DE X B W (.BoolOp .And (b :: rest) pos) g) : DE X B W (.BoolOp .And (a :: b :: rest) pos) (eAnd f g) := by
  refine pe_imp (pe_and ha hb) fun σ H Q h => ?_
  obtain ⟨fr, Hv, R, h⟩ := h
  refine ⟨fr, Hv, R, ?_⟩
  unfold eAnd at h
  cases hf : f fr with
  | bad => rw [hf] at h; exact h.elim
  | exc c fs fr1 => rw [hf] at h; exact h
  | ok d fr1 =>
    rw [hf] at h
    dsimp only [Res.bind] at h
    intro v H1 Hv1 n r
    cases d with
    | bl k =>
      refine ⟨k, Rep.bl_iff.mp (r.rep fun i z => by cases z), ?_⟩
      cases k with
      | true =>
        rw [if_pos rfl]
        exact ⟨fr1, Hv1, n.rel, PostE.step n h⟩
      | false =>
        rw [if_neg Bool.false_ne_true]
        exact h _ H1 Hv1 n (.of repB)
    | _ => exact h.elim
theorem d_not (ha : DE X B W a f) : DE X B W (.UnaryOp .Not a pos) (eNot f) := by
  refine pe_imp (pe_not ha) fun σ H Q h => ?_
  obtain ⟨fr, Hv, R, h⟩ := h
  refine ⟨fr, Hv, R, ?_⟩
  unfold eNot at h
  cases hf : f fr with
  | bad => rw [hf] at h; exact h.elim
  | exc c fs fr1 => rw [hf] at h; exact h
  | ok d fr1 =>
    rw [hf] at h
    dsimp only [Res.bind] at h
    intro v H1 Hv1 n r
    cases d with
    | bl k => exact ⟨k, Rep.bl_iff.mp (r.rep fun i z => by cases z), h _ H1 Hv1 n (.of repB)⟩
    | _ => exact h.elim
theorem entC {r r' : R2} {F F' : D → D → Option D} {σ : L2.St} {H : Hp} {Q : VK} (hr : OpS B r F) (hr' : OpS B r' F') (hh : dTE B W (eChain F F' f g h) σ H Q) : tChain r r' (dTE B W f) (dTE B W g) (dTE B W h) σ H Q := by
  obtain ⟨fr, Hv, R, hh⟩ := hh
  refine ⟨fr, Hv, R, ?_⟩
  unfold eChain at hh
  cases hf : f fr with
  | bad => rw [hf] at hh; exact hh.elim
  | exc c fs fr1 => rw [hf] at hh; exact hh
  | ok x fr1 =>
    rw [hf] at hh
    dsimp only [Res.bind] at hh
    intro vx H1 Hv1 n1 r1
    refine ⟨fr1, Hv1, n1.rel, ?_⟩
    cases hg : g fr1 with
    | bad => rw [hg] at hh; exact hh.elim
    | exc c fs fr2 =>
      rw [hg] at hh
      exact fun dd H' Hv' n => hh dd H' Hv' (n1.trans n)
    | ok y fr2 =>
      rw [hg] at hh
      dsimp only at hh
      intro vy H2 Hv2 n2 r2
      cases hx : look fr2 x with
      | none => rw [hx] at hh; exact hh.elim
      | some a =>
        cases hy : look fr2 y with
        | none => rw [hx, hy] at hh; exact hh.elim
        | some b =>
          rw [hx, hy] at hh
          dsimp only at hh
          cases hz : F a b with
          | none => rw [hz] at hh; exact hh.elim
          | some z =>
            rw [hz] at hh
            refine hr fr2 σ H2 Hv2 vx vy x y a b z _ n2.rel (r1.mono n2.ext) r2 hx hy hz fun v H3 Hv3 n3 q => ?_
            cases z with
            | bl k =>
              refine ⟨k, Rep.bl_iff.mp q, ?_⟩
              have n := (n1.trans n2).trans n3
              cases k with
              | false =>
                rw [if_neg Bool.false_ne_true]
                exact hh _ H3 Hv3 n (.of repB)
              | true =>
                rw [if_pos rfl]
                dsimp only at hh
                refine ⟨fr2, Hv3, n3.rel, ?_⟩
                cases hhh : h fr2 with
                | bad => rw [hhh] at hh; exact hh.elim
                | exc c fs fr3 =>
                  rw [hhh] at hh
                  exact fun dd H' Hv' m => hh dd H' Hv' (n.trans m)
                | ok w fr3 =>
                  rw [hhh] at hh
                  dsimp only at hh
                  intro vw H4 Hv4 n4 r4
                  cases hy3 : look fr3 y with
                  | none => rw [hy3] at hh; exact hh.elim
                  | some b' =>
                    cases hw3 : look fr3 w with
                    | none => rw [hy3, hw3] at hh; exact hh.elim
                    | some c' =>
                      rw [hy3, hw3] at hh
                      dsimp only at hh
                      cases hz2 : F' b' c' with
                      | none => rw [hz2] at hh; exact hh.elim
                      | some z2 =>
                        rw [hz2] at hh
                        exact hr' fr3 σ H4 Hv4 vy vw y w b' c' z2 Q n4.rel ((r2.mono n3.ext).mono n4.ext) r4 hy3 hw3 hz2 fun v5 H5 Hv5 n5 q5 => hh v5 H5 Hv5 ((n.trans n4).trans n5) (.of q5)
            | _ => exact hh.elim
theorem d_chain {op op' : CmpOp} {r r' : R2} {F F' : D → D → Option D} (hr : OpS B r F) (hr' : OpS B r' F') (ho : OpR X (compareOp op) r) (ho' : OpR X (compareOp op') r') (ha : DE X B W a f) (hb : DE X B W b g) (hc : DE X B W c h)
    (hm : lastMarks [op, op'] [b, c] = false := by with_unfolding_all rfl) : DE X B W (.Compare a [op, op'] [b, c] pos) (eChain F F' f g h) := pe_imp (pe_chain ho ho' ha hb hc hm) fun _ _ _ h => entC hr hr' h
end
def aNil : Av := fun fr => .ok [] fr
def aCons (f : Ev) (g : Av) : Av := fun fr => (f fr).bind fun d fr1 => (g fr1).bind fun ds fr2 => .ok (d :: ds) fr2
def pers : D → Bool
  | .var _ => false
  | _ => true
def eTup (g : Av) : Ev := fun fr => (g fr).bind fun ds fr1 => if ds.length ≤ sizeLine ∧ ds.all pers = true then .ok (.tup ds) fr1 else .bad
def eLst (g : Av) : Ev := fun fr => (g fr).bind fun ds fr1 => if ds.length ≤ sizeLine ∧ ds.all pers = true then .ok (.lst ds) fr1 else .bad
section
variable {X : Cx} {B : Bd} {W : WX} {e : Expr} {es : List Expr} {f : Ev} {g : Av} {pos : Pos}
theorem repWs_repL {σ : L2.St} {Hv : Hp} : ∀ {ds : List D} {vs : List V}, RepWs B σ Hv ds vs → ds.all pers = true → RepL B.G Hv ds vs
  | [], vs, h, _ => by
    have h' : vs = [] := h
    rw [h']
    exact .nil
  | d :: ds, _, ⟨v, r, e, h1, h2⟩, p => by
    subst e
    rw [List.all_cons, Bool.and_eq_true] at p
    exact .cons (h1.rep fun i z => by rw [z] at p; cases p.1) (repWs_repL h2 p.2)
theorem repWs_length {σ : L2.St} {Hv : Hp} : ∀ {ds : List D} {vs : List V}, RepWs B σ Hv ds vs → vs.length = ds.length
  | [], vs, h => by
    have h' : vs = [] := h
    rw [h']
    rfl
  | d :: ds, _, ⟨v, r, e, _, h2⟩ => by rw [e, List.length_cons, List.length_cons, repWs_length h2]
theorem a_nil : DA X B W [] aNil := pa_imp pa_nil fun σ H Q ⟨fr, Hv, R, h⟩ => h [] H Hv (.refl R) rfl
theorem a_cons (ha : DE X B W e f) (hr : DA X B W es g) (hs : starEach (e :: es) X.env = (false, eval e X.env) :: starEach es X.env := by rfl) : DA X B W (e :: es) (aCons f g) := by
  refine pa_imp (pa_cons ha hr hs) fun σ H Q h => ?_
  obtain ⟨fr, Hv, R, h⟩ := h
  refine ⟨fr, Hv, R, ?_⟩
  unfold aCons at h
  cases hf : f fr with
  | bad => rw [hf] at h; exact h.elim
  | exc c fs fr1 => rw [hf] at h; exact h
  | ok d fr1 =>
    rw [hf] at h
    dsimp only [Res.bind] at h
    intro v H1 Hv1 n1 r1
    refine ⟨fr1, Hv1, n1.rel, ?_⟩
    cases hg : g fr1 with
    | bad => rw [hg] at h; exact h.elim
    | exc c fs fr2 =>
      rw [hg] at h
      exact fun dd H' Hv' n => h dd H' Hv' (n1.trans n)
    | ok ds fr2 =>
      rw [hg] at h
      exact fun vs H2 Hv2 n2 r2 => h (v :: vs) H2 Hv2 (n1.trans n2) ⟨v, vs, rfl, r1.mono n2.ext, r2⟩
theorem d_tup {x1} (ha : DA X B W es g) : DE X B W (.Tuple es x1 pos) (eTup g) := by
  refine pe_imp (pe_tup ha) fun σ H Q h => ?_
  obtain ⟨fr, Hv, R, h⟩ := h
  refine ⟨fr, Hv, R, ?_⟩
  unfold eTup at h
  cases hg : g fr with
  | bad => rw [hg] at h; exact h.elim
  | exc c fs fr1 => rw [hg] at h; exact h
  | ok ds fr1 =>
    rw [hg] at h
    dsimp only [Res.bind] at h
    split at h
    · next c =>
      intro vs H1 Hv1 n r
      exact ⟨by rw [repWs_length r]; exact c.1, fun p hp => lay_tup n.rel hp (repWs_repL r c.2) fun v H' Hv' m q => h v H' Hv' (n.trans m) (.of q)⟩
    · exact h.elim
theorem d_lst (ha : DA X B W es g) : DF X B W (.List es pos) (eLst g) := by
  refine pe_imp (pe_lst ha) fun σ H Q h => ?_
  obtain ⟨fr, Hv, R, h⟩ := h
  refine ⟨fr, Hv, R, ?_⟩
  unfold eLst at h
  cases hg : g fr with
  | bad => rw [hg] at h; exact h.elim
  | exc c fs fr1 => rw [hg] at h; exact h
  | ok ds fr1 =>
    rw [hg] at h
    dsimp only [Res.bind] at h
    split at h
    · next c =>
      intro vs H1 Hv1 n r
      exact ⟨by rw [repWs_length r]; exact c.1, fun p hp => lay_own n.rel hp (repWs_repL r c.2) fun q H' Hv' m hq => h q H' Hv' (n.trans m) (n.none R hq)⟩
    · exact h.elim
end
end KS
namespace KS
open PySem PySem.Spec L2
def ixF : D → D → Option D
  | .lst ds, .int i => atI ds i
  | .tup ds, .int i => atI ds i
  | .scr ns, .int i => (atI ns i).map D.int
  | .str x, .int i => if x.length ≤ sizeLine then (atI x.cps.toList i).map fun c => .str ⟨#[c]⟩ else none
  | _, _ => none
def cutD {α : Type} (xs : List α) (lo hi : Option Int) : List α := (xs.drop (HT.sIx xs.length 0 lo)).take (HT.sIx xs.length xs.length hi - HT.sIx xs.length 0 lo)
abbrev Ov := Fr → Res Fr (Option Int)
theorem atI_repL {G : SE} {H : Hp} {ds : List D} {vs : List V} {i : Int} {d : D} (r : RepL G H ds vs) (h : atI ds i = some d) : ∃ v, atI vs i = some v ∧ Rep G H d v := by
  unfold atI at h ⊢
  rw [r.length]
  cases e : ixN ds.length i with
  | none => rw [e] at h; cases h
  | some j =>
    rw [e] at h
    exact r.get h
theorem atI_map {α β : Type} (f : α → β) {xs : List α} {i : Int} : atI (xs.map f) i = (atI xs i).map f := by
  unfold atI
  rw [List.length_map]
  cases ixN xs.length i with
  | none => rfl
  | some j => simp
section
variable {X : Cx} {B : Bd} {W : WX} {a b : Expr} {lo hi : Option Expr} {f g : Ev} {l u : Ov} {pos p2 : Pos}
theorem ops_ix (hK : X.K = B.G.K) : OpS B (fun x y H Q => rIxL X.K x y H Q ∨ (rIxT X.K x y H Q ∨ rIxS x y H Q)) ixF := by
  intro fr σ H Hv x y dx dy a b z Q R rx ry hx hy hz k
  unfold ixF at hz
  split at hz
  · obtain ⟨p, vs, rfl, q, r⟩ := R.list_of rx hx
    rw [R.int_of ry hy]
    obtain ⟨v, e1, e2⟩ := atI_repL r hz
    exact .inl ⟨p, vs, _, v, rfl, rfl, SqL.of q, e1, k v H Hv (.refl R) e2⟩
  · obtain ⟨p, vs, rfl, q, _, r⟩ := R.tup_of rx hx
    rw [R.int_of ry hy]
    obtain ⟨v, e1, e2⟩ := atI_repL r hz
    exact .inr (.inl ⟨p, vs, _, v, rfl, rfl, by rw [hK]; exact q, e1, k v H Hv (.refl R) e2⟩)
  · obtain ⟨p, rfl, q⟩ := Rep.scr_inv (look_scalar R rx hx rfl)
    rw [R.int_of ry hy]
    simp only [Option.map_eq_some_iff] at hz
    obtain ⟨n, e1, rfl⟩ := hz
    exact .inl ⟨p, _, _, .int n, rfl, rfl, by rw [hK]; exact R.sub.sql q, by rw [atI_map, e1]; rfl, k _ H Hv (.refl R) repI⟩
  · split at hz
    · next c =>
      rw [R.str_of rx hx, R.int_of ry hy]
      simp only [Option.map_eq_some_iff] at hz
      obtain ⟨n, e1, rfl⟩ := hz
      exact .inr (.inr ⟨_, _, n, rfl, rfl, c, e1, k _ H Hv (.refl R) repS⟩)
    · cases hz
  · cases hz
theorem d_ix (ha : DE X B W a f) (hb : DE X B W b g) (hs : PlainIx b := by exact fun _ _ => rfl) (hK : X.K = B.G.K := by rfl) : DE X B W (.Subscript a b pos) (eOp2 ixF f g) :=
  pe_imp (pe_ix ix_seq ha hb hs) fun _ _ _ h => ent2 (ops_ix hK) h
end
def idx (n : Nat) : List Nat → List D → Option D
  | m :: ns, d :: ds => if m = n then some d else idx n ns ds
  | _, _ => none
def eAttr (cs : List Nat) (n : Nat) (f : Ev) : Ev := eOp1 (fun d => match d with
  | .obj c ns fs => if c ∈ cs then idx n ns fs else none
  | _ => none) f
theorem idx_lookup {G : SE} {H : Hp} {n : Nat} (inj : ∀ m, G.fld m = G.fld n → m = n) : ∀ {ns : List Nat} {fs : List D} {vs : List V} {d : D}, RepL G H fs vs → idx n ns fs = some d → ∃ v, ((ns.map G.fld).zip vs).lookup (G.fld n) = some v ∧ Rep G H d v
  | [], _, _, _, _, h => by simp [idx] at h
  | m :: ns, [], _, _, _, h => by simp [idx] at h
  | m :: ns, d' :: fs, vs, d, r, h => by
    obtain ⟨v, t, rfl, h1, h2⟩ := r.cons_inv
    rw [idx] at h
    by_cases e : m = n
    · rw [if_pos e] at h
      cases h
      refine ⟨v, ?_, h1⟩
      rw [List.map_cons, List.zip_cons_cons, e]
      simp [List.lookup]
    · rw [if_neg e] at h
      obtain ⟨v', e1, e2⟩ := idx_lookup inj h2 h
      refine ⟨v', ?_, e2⟩
      rw [List.map_cons, List.zip_cons_cons]
      have ne : (G.fld n == G.fld m) = false := by
        rw [beq_eq_false_iff_ne]
        exact fun z => e (inj m z.symm)
      simp only [List.lookup, ne]
      exact e1
section
variable {X : Cx} {B : Bd} {W : WX} {a : Expr} {f : Ev} {pos : Pos}
theorem obj_of {fr : Fr} {σ : L2.St} {H Hv : Hp} (R : Rel B fr σ H Hv) {d : D} {v : V} {c : Nat} {ns : List Nat} {fs : List D} (h : RepW B σ Hv d v) (hl : look fr d = some (.obj c ns fs)) :
    ∃ p dx vs, v = .ref p ∧ H p = some (.ins (B.G.cls c) dx ((ns.map B.G.fld).zip vs)) ∧ ns.length = vs.length ∧ RepL B.G Hv fs vs := by
  cases d with
  | var i =>
    obtain ⟨hm, hs⟩ := h
    obtain ⟨p, hs', hv, _, dx, vs, e, l, r⟩ := R.own i _ (look_var hl) hm
    rw [hs] at hs'
    cases hs'
    exact ⟨p, dx, vs, rfl, e, l, r⟩
  | obj c' ns' fs' =>
    have e : D.obj c' ns' fs' = .obj c ns fs := Option.some.inj hl
    cases e
    obtain ⟨p, dx, vs, rfl, q, l, r⟩ := Rep.obj_inv h
    exact ⟨p, dx, vs, rfl, R.sub _ _ q, l, r⟩
  | _ => cases hl
theorem d_attr {n : Nat} {x : Str} {cs : List Nat} (ha : DE X B W a f) (hx : x = B.G.fld n) (inj : ∀ m, B.G.fld m = B.G.fld n → m = n) (hc : ∀ c ∈ cs, Cls X.K (B.G.cls c) ∧ NoAttr X.K (B.G.cls c) x)
    (hb : attributeBase a x X.env (eval a X.env) = eval a X.env := by rfl) : DE X B W (.Attribute a x pos) (eAttr cs n f) := by
  refine pe_imp (pe_fld ha hb) fun σ H Q h => ?_
  have e := ent1 (r := fun x1 H1 Q => ∃ p C dx fs v, x1 = .ref p ∧ H1 p = some (.ins C dx fs) ∧ Cls X.K C ∧ NoAttr X.K C x ∧ fs.lookup x = some v ∧ Q v H1) ?_ h
  · exact e
  · intro fr σ H Hv y dy b z Q R ry hy hz k
    cases b with
    | obj c ns fs =>
      dsimp only at hz
      split at hz
      · next hcc =>
        obtain ⟨p, dx, vs, rfl, q, l, r⟩ := obj_of R ry hy
        obtain ⟨v, e1, e2⟩ := idx_lookup inj r hz
        obtain ⟨c1, c2⟩ := hc c hcc
        exact ⟨p, _, dx, _, v, rfl, q, c1, c2, by rw [hx]; exact e1, k v H Hv (.refl R) e2⟩
      · cases hz
    | _ => cases hz
end
def CaS1 (B : Bd) (r : List V → Hp → VK → Prop) (F : D → Option D) : Prop := UnS B (fun x => r [x]) F
def CaF1 (B : Bd) (r : List V → Hp → VK → Prop) (F : D → Option D) : Prop := ∀ fr σ H Hv x dx a z (Q : VK), Rel B fr σ H Hv → RepW B σ Hv dx x → look fr dx = some a → F a = some z →
  (∀ p H' Hv', Nxt B fr σ H Hv fr H' Hv' → H p = none → Hv' p = none → Cell B.G H' Hv' p z → Q (.ref p) H') → r [x] H Q
def CaS2 (B : Bd) (r : List V → Hp → VK → Prop) (F : D → D → Option D) : Prop := OpS B (fun x y => r [x, y]) F
section
variable {X : Cx} {B : Bd} {W : WX} {a b : Expr} {f g : Ev} {pos p : Pos} {x : Str} {idn T : String} {r : List V → Hp → VK → Prop} {F : D → Option D} {F2 : D → D → Option D}
theorem entF1 {σ : L2.St} {H : Hp} {Q : VK} (hr : CaF1 B r F) (h : dTF B W (eOp1 F f) σ H Q) : tUn (fun x => r [x]) (dTE B W f) σ H Q := by
  obtain ⟨fr, Hv, R, h⟩ := h
  refine ⟨fr, Hv, R, ?_⟩
  unfold eOp1 at h
  cases hf : f fr with
  | bad => rw [hf] at h; exact h.elim
  | exc c fs fr1 => rw [hf] at h; exact h
  | ok x fr1 =>
    rw [hf] at h
    dsimp only [Res.bind] at h
    intro vx H1 Hv1 n1 r1
    cases hx : look fr1 x with
    | none => rw [hx] at h; exact h.elim
    | some a =>
      rw [hx] at h
      dsimp only at h
      cases hz : F a with
      | none => rw [hz] at h; exact h.elim
      | some z =>
        rw [hz] at h
        exact hr fr1 σ H1 Hv1 vx x a z Q n1.rel r1 hx hz fun p H' Hv' n hp q => h p H' Hv' (n1.trans n) (n1.none R hp) q
theorem d_b1 (hs : CaS1 B r F) (hc : CallR X (.builtin idn) r) (hm : X.mg x = none) (ha : DE X B W a f) (hv : bootBuiltins x = some (.builtin idn) := by decide +kernel) (hg : Gl X x := by rfl) (hn : x ≠ "__name__" := by decide) (hdb : (x == ("__debug__" : Str)) = false := by decide)
    (he : starEach [a] X.env = (false, eval a X.env) :: starEach [] X.env := by rfl) (hpl : (backTo pos (starEach [] X.env)).any (·.1) = false := by rfl) : DE X B W (.Call (.Name x p) [a] [] pos) (eOp1 F f) :=
  pe_imp (pe_callB hc hg hm hv (pa_cons ha pa_nil he) hn hdb he hpl) fun _ _ _ h => ent1 hs h
theorem d_t1 (hs : CaS1 B r F) (hc : CallR X (.type T) r) (hm : X.mg x = none) (ha : DE X B W a f) (hv : bootBuiltins x = some (.type T) := by decide +kernel) (hg : Gl X x := by rfl) (hn : x ≠ "__name__" := by decide) (hdb : (x == ("__debug__" : Str)) = false := by decide)
    (he : starEach [a] X.env = (false, eval a X.env) :: starEach [] X.env := by rfl) (hpl : (backTo pos (starEach [] X.env)).any (·.1) = false := by rfl) : DE X B W (.Call (.Name x p) [a] [] pos) (eOp1 F f) :=
  pe_imp (pe_callTy hc hg hm hv (pa_cons ha pa_nil he) hn hdb he hpl) fun _ _ _ h => ent1 hs h
theorem d_b1F (hs : CaF1 B r F) (hc : CallR X (.builtin idn) r) (hm : X.mg x = none) (ha : DE X B W a f) (hv : bootBuiltins x = some (.builtin idn) := by decide +kernel) (hg : Gl X x := by rfl) (hn : x ≠ "__name__" := by decide) (hdb : (x == ("__debug__" : Str)) = false := by decide)
    (he : starEach [a] X.env = (false, eval a X.env) :: starEach [] X.env := by rfl) (hpl : (backTo pos (starEach [] X.env)).any (·.1) = false := by rfl) : DF X B W (.Call (.Name x p) [a] [] pos) (eOp1 F f) :=
  pe_imp (pe_callB hc hg hm hv (pa_cons ha pa_nil he) hn hdb he hpl) fun _ _ _ h => entF1 hs h
theorem d_t1F (hs : CaF1 B r F) (hc : CallR X (.type T) r) (hm : X.mg x = none) (ha : DE X B W a f) (hv : bootBuiltins x = some (.type T) := by decide +kernel) (hg : Gl X x := by rfl) (hn : x ≠ "__name__" := by decide) (hdb : (x == ("__debug__" : Str)) = false := by decide)
    (he : starEach [a] X.env = (false, eval a X.env) :: starEach [] X.env := by rfl) (hpl : (backTo pos (starEach [] X.env)).any (·.1) = false := by rfl) : DF X B W (.Call (.Name x p) [a] [] pos) (eOp1 F f) :=
  pe_imp (pe_callTy hc hg hm hv (pa_cons ha pa_nil he) hn hdb he hpl) fun _ _ _ h => entF1 hs h
theorem d_b2 (hs : CaS2 B r F2) (hc : CallR X (.builtin idn) r) (hm : X.mg x = none) (ha : DE X B W a f) (hb : DE X B W b g) (hv : bootBuiltins x = some (.builtin idn) := by decide +kernel) (hg : Gl X x := by rfl) (hn : x ≠ "__name__" := by decide) (hdb : (x == ("__debug__" : Str)) = false := by decide)
    (he2 : starEach [b] X.env = (false, eval b X.env) :: starEach [] X.env := by rfl) (he : starEach [a, b] X.env = (false, eval a X.env) :: starEach [b] X.env := by rfl) (hpl : (backTo pos (starEach [b] X.env)).any (·.1) = false := by rfl) : DE X B W (.Call (.Name x p) [a, b] [] pos) (eOp2 F2 f g) :=
  pe_imp (pe_callB hc hg hm hv (pa_cons ha (pa_cons hb pa_nil he2) he) hn hdb he hpl) fun _ _ _ h => ent2 hs h
def lenF : D → Option D
  | .str x => if x.length ≤ sizeLine then some (.int x.length) else none
  | .tup ds => some (.int ds.length)
  | .lst ds => some (.int ds.length)
  | .scr ns => some (.int ns.length)
  | _ => none
theorem cas_len (hK : X.K = B.G.K) : CaS1 B (fun xs H Q => ∃ x n, xs = [x] ∧ LenV X.K x H n ∧ Q (.int n) H) lenF := by
  intro fr σ H Hv x dx a z Q R rx hx hz k
  unfold lenF at hz
  split at hz
  · split at hz
    · next c =>
      cases hz
      rw [R.str_of rx hx]
      exact ⟨_, _, rfl, ⟨c, rfl⟩, k _ H Hv (.refl R) repI⟩
    · cases hz
  · cases hz
    obtain ⟨p, vs, rfl, q, _, r⟩ := R.tup_of rx hx
    refine ⟨_, _, rfl, .inr ⟨vs, by rw [hK]; exact q, rfl⟩, k _ H Hv (.refl R) (by rw [r.length]; exact repI)⟩
  · cases hz
    obtain ⟨p, vs, rfl, q, r⟩ := R.list_of rx hx
    refine ⟨_, _, rfl, .inl ⟨vs, SqL.of q, rfl⟩, k _ H Hv (.refl R) (by rw [r.length]; exact repI)⟩
  · cases hz
    obtain ⟨p, rfl, q⟩ := Rep.scr_inv (look_scalar R rx hx rfl)
    refine ⟨_, _, rfl, .inl ⟨_, by rw [hK]; exact R.sub.sql q, rfl⟩, k _ H Hv (.refl R) (by rw [List.length_map]; exact repI)⟩
  · cases hz
def intF : D → Option D
  | .int i => some (.int i)
  | .bl b => some (.int (if b then 1 else 0))
  | .str x => if x.length ≤ 640 then (PySem.intText? x).map D.int else none
  | _ => none
theorem cas_int : CaS1 B (fun xs H Q => ((∃ i, xs = [.int i] ∧ Q (.int i) H) ∨ ∃ k, xs = [.bl k] ∧ Q (.int (if k then 1 else 0)) H) ∨ ∃ a n, xs = [.str a] ∧ PySem.intText? a = some n ∧ a.length ≤ 640 ∧ Q (.int n) H) intF := by
  intro fr σ H Hv x dx a z Q R rx hx hz k
  unfold intF at hz
  split at hz
  · cases hz
    rw [R.int_of rx hx]
    exact .inl (.inl ⟨_, rfl, k _ H Hv (.refl R) repI⟩)
  · cases hz
    rw [R.bl_of rx hx]
    exact .inl (.inr ⟨_, rfl, k _ H Hv (.refl R) repI⟩)
  · split at hz
    · next c =>
      simp only [Option.map_eq_some_iff] at hz
      obtain ⟨n, e, rfl⟩ := hz
      rw [R.str_of rx hx]
      exact .inr ⟨_, n, rfl, e, c, k _ H Hv (.refl R) repI⟩
    · cases hz
  · cases hz
theorem call_intA : CallR X (.type "int") (fun xs H Q => ((∃ i, xs = [.int i] ∧ Q (.int i) H) ∨ ∃ k, xs = [.bl k] ∧ Q (.int (if k then 1 else 0)) H) ∨ ∃ a n, xs = [.str a] ∧ PySem.intText? a = some n ∧ a.length ≤ 640 ∧ Q (.int n) H) := by
  intro pins s σ H xs us Q I r h
  rcases h with h | h
  · exact call_int1 pins s σ H xs us Q I r h
  · exact call_int_str pins s σ H xs us Q I r h
def absF : D → Option D
  | .int i => some (.int (if i < 0 then -i else i))
  | _ => none
theorem cas_abs : CaS1 B (fun xs H Q => ∃ i, xs = [.int i] ∧ Q (.int (if i < 0 then -i else i)) H) absF := by
  intro fr σ H Hv x dx a z Q R rx hx hz k
  unfold absF at hz
  split at hz
  · cases hz
    rw [R.int_of rx hx]
    exact ⟨_, rfl, k _ H Hv (.refl R) repI⟩
  · cases hz
def min2F : D → D → Option D
  | .int i, .int j => some (.int (if j < i then j else i))
  | _, _ => none
theorem cas_min2 : CaS2 B (fun xs H Q => ∃ i j, xs = [.int i, .int j] ∧ Q (.int (if j < i then j else i)) H) min2F := ops_ints (ints_of fun x y h => by cases x <;> cases y <;> first | rfl | exact absurd ⟨rfl, rfl⟩ (h _ _)) fun i j z H Q e k => by
  cases e
  exact ⟨i, j, rfl, k _ repI⟩
def tupF : D → Option D
  | .lst ds => some (.tup ds)
  | .tup ds => some (.tup ds)
  | _ => none
theorem cas_tup (hK : X.K = B.G.K) : CaS1 B (fun xs H Q => ∃ p ys, xs = [.ref p] ∧ ((SqL X.K H p ys ∧ ∀ l, H l = none → Q (.ref l) (upd H l (.tup ys))) ∨ (SqT X.K H p ys ∧ Q (.ref p) H))) tupF := by
  intro fr σ H Hv x dx a z Q R rx hx hz k
  unfold tupF at hz
  split at hz
  · cases hz
    obtain ⟨p, vs, rfl, q, r⟩ := R.list_of rx hx
    exact ⟨p, vs, rfl, .inl ⟨SqL.of q, fun t ht => lay_tup R ht r k⟩⟩
  · cases hz
    obtain ⟨p, vs, rfl, q, qv, r⟩ := R.tup_of rx hx
    exact ⟨p, vs, rfl, .inr ⟨by rw [hK]; exact q, k _ H Hv (.refl R) (Rep.tup qv r)⟩⟩
  · cases hz
def lstF : D → Option D
  | .lst ds => some (.lst ds)
  | .tup ds => some (.lst ds)
  | _ => none
theorem caf_lst (hK : X.K = B.G.K) : CaF1 B (fun xs H Q => ∃ p ys, xs = [.ref p] ∧ (SqL X.K H p ys ∨ SqT X.K H p ys) ∧ ∀ l, H l = none → Q (.ref l) (upd H l (.lst ys))) lstF := by
  intro fr σ H Hv x dx a z Q R rx hx hz k
  unfold lstF at hz
  split at hz
  · cases hz
    obtain ⟨p, vs, rfl, q, r⟩ := R.list_of rx hx
    exact ⟨p, vs, rfl, .inl (SqL.of q), fun t ht => lay_own R ht r k⟩
  · cases hz
    obtain ⟨p, vs, rfl, q, qv, r⟩ := R.tup_of rx hx
    exact ⟨p, vs, rfl, .inr (by rw [hK]; exact q), fun t ht => lay_own R ht r k⟩
  · cases hz
def blsOf : List D → Option (List Bool)
  | [] => some []
  | .bl b :: ds => (blsOf ds).map (b :: ·)
  | _ => none
theorem bls_rep {G : SE} {H : Hp} : ∀ {ds : List D} {vs : List V} {bs : List Bool}, RepL G H ds vs → blsOf ds = some bs → vs = bs.map V.bl
  | [], vs, bs, r, e => by
    rw [r.nil_inv]
    cases e
    rfl
  | d :: ds, vs, bs, r, e => by
    obtain ⟨v, t, rfl, h1, h2⟩ := r.cons_inv
    cases d with
    | bl b =>
      simp only [blsOf, Option.map_eq_some_iff] at e
      obtain ⟨cs, e1, rfl⟩ := e
      rw [Rep.bl_iff.mp h1, bls_rep h2 e1]
      rfl
    | _ => simp [blsOf] at e
def allF : D → Option D
  | .lst ds => (blsOf ds).map fun bs => .bl (bs.all id)
  | _ => none
theorem cas_all (hK : X.K = B.G.K) : CaS1 B (rAll X.K) allF := by
  intro fr σ H Hv x dx a z Q R rx hx hz k
  unfold allF at hz
  split at hz
  · simp only [Option.map_eq_some_iff] at hz
    obtain ⟨bs, e, rfl⟩ := hz
    obtain ⟨p, vs, rfl, q, r⟩ := R.list_of rx hx
    have ev := bls_rep r e
    subst ev
    exact ⟨p, bs, rfl, SqL.of q, k _ H Hv (.refl R) repB⟩
  · cases hz
def intsOf : List D → Option (List Int)
  | [] => some []
  | .int b :: ds => (intsOf ds).map (b :: ·)
  | _ => none
theorem ints_rep {G : SE} {H : Hp} : ∀ {ds : List D} {vs : List V} {bs : List Int}, RepL G H ds vs → intsOf ds = some bs → vs = bs.map V.int
  | [], vs, bs, r, e => by
    rw [r.nil_inv]
    cases e
    rfl
  | d :: ds, vs, bs, r, e => by
    obtain ⟨v, t, rfl, h1, h2⟩ := r.cons_inv
    cases d with
    | int b =>
      simp only [intsOf, Option.map_eq_some_iff] at e
      obtain ⟨cs, e1, rfl⟩ := e
      rw [Rep.int_iff.mp h1, ints_rep h2 e1]
      rfl
    | _ => simp [intsOf] at e
end
end KS
namespace KS
theorem okXN {CX : L2.CXT} {P : PySem.Program} {w : PySem.World} {K : PySem.W.Frag} {mg : PySem.Str → Option PySem.Value} {base : PySem.Heap} {x qual : PySem.Str} {st : PySem.Stmt} {f : PySem.Addr} {fd : PySem.FuncData} {N ps : List PySem.Str} {k : Nat} {sp : L2.Sp} (F : L2.Fun K x qual st f fd) (S : L2.FnScope N ps (L2.defScope st)) (len : ∀ vs H Q E, sp vs H Q E → vs.length = ps.length)
    (hbody : ∀ (cdv : PySem.Value) (A : PySem.Around) (outer : List PySem.Env) (s : PySem.Shared) (H : L2.Hp) (vs : List L2.V) (Q : L2.VK) (E : L2.XK), L2.Room k (A.deeper (PyProof.Rows.envOfC qual (L2.defScope st) s.heap.objs.size f cdv)) → sp vs H Q E →
      ∃ t, L2.PSs (L2.cxOf CX P w K mg base N qual (L2.defScope st) f cdv A outer s H E) (L2.defBody st) t ∧ t { nx := fun _ H' => Q .non H', rt := Q } (L2.start N vs) H) : L2.FnOk P w K mg base CX (k + 1) f fd ps sp := by
  obtain ⟨oc, od, kV, doc, pm, an, cdv, ct, osl, rfl, lk, hcd⟩ := F.ex
  exact L2.fn_of lk hcd S len fun A outer s H vs Q E hr hsp => hbody cdv A outer s H vs Q E hr hsp
open PySem PySem.Spec L2
def ioA (ms : List Bool) (vs : List V) (a : Addr) : Prop := ∃ i : Nat, ms[i]? = some true ∧ vs[i]? = some (V.ref a)
structure Start (G : SE) (ms : List Bool) (ds : List D) (vs : List V) (H Hv : Hp) : Prop where
  sub : Sub Hv H
  tab : ∀ P ∈ G.tabs, TabH H P ∧ Hv P = none
  lend : ds.length = ms.length
  lenv : vs.length = ms.length
  val : ∀ (i : Nat) (d : D), ms[i]? = some false → ds[i]? = some d → ∃ v, vs[i]? = some v ∧ Rep G Hv d v
  own : ∀ (i : Nat) (d : D), ms[i]? = some true → ds[i]? = some d → ∃ a, vs[i]? = some (.ref a) ∧ Hv a = none ∧ Cell G H Hv a d
  sep : ∀ (i j : Nat) (a : Addr), i ≠ j → ms[i]? = some true → ms[j]? = some true → vs[i]? = some (.ref a) → vs[j]? ≠ some (.ref a)
structure FinC (G : SE) (ms : List Bool) (outs : List D) (vs : List V) (H Hv H' Hv' : Hp) : Prop where
  sub : Sub Hv' H'
  ext : Sub Hv Hv'
  new : ∀ b o, Hv' b = some o → Hv b = some o ∨ NewOk H b o
  keep : ∀ b o, H b = some o → ¬ ioA ms vs b → b ∉ G.tabs → H' b = some o
  tab : ∀ P ∈ G.tabs, TabH H' P ∧ Hv' P = none
  io : ∀ (i : Nat) (a : Addr), ms[i]? = some true → vs[i]? = some (.ref a) → Hv' a = none ∧ ∃ d, outs[i]? = some d ∧ Cell G H' Hv' a d
def RetR (rf : Bool) (G : SE) (H H' Hv' : Hp) (d : D) (v : V) : Prop :=
  if rf = true then ∃ p, v = .ref p ∧ H p = none ∧ Hv' p = none ∧ Cell G H' Hv' p d else Rep G Hv' d v
def PostC (G : SE) (ms : List Bool) (rf : Bool) (vs : List V) (H Hv : Hp) (r : Res (List D) D) (Q : VK) (E : XK) : Prop :=
  match r with
  | .ok d outs => ∀ v H' Hv', FinC G ms outs vs H Hv H' Hv' → RetR rf G H H' Hv' d v → Q v H'
  | .exc c fs outs => ∀ dd H' Hv', FinC G ms outs vs H Hv H' Hv' → ExcAt G H' Hv' c fs dd → E (.ref (G.ecls c)) (some dd) H'
  | .bad => False
def spOf (G : SE) (ms : List Bool) (rf : Bool) (F : Fn) : Sp := fun vs H Q E => ∃ ds Hv, Start G ms ds vs H Hv ∧ PostC G ms rf vs H Hv (F ds) Q E
def argC (fr : Fr) : List Bool → List D → Option (List D)
  | [], [] => some []
  | true :: ms, .var i :: ds => match fr[i]? with
    | some (some c) => if isCell c = true then (argC fr ms ds).map (c :: ·) else none
    | _ => none
  | false :: ms, d :: ds => if pers d = true then (argC fr ms ds).map (d :: ·) else none
  | _, _ => none
def ioV : List Bool → List D → List Nat
  | true :: ms, .var i :: ds => i :: ioV ms ds
  | _ :: ms, _ :: ds => ioV ms ds
  | _, _ => []
def ioP : List Bool → List D → List D → List (Nat × D)
  | true :: ms, .var i :: ds, o :: os => (i, o) :: ioP ms ds os
  | _ :: ms, _ :: ds, _ :: os => ioP ms ds os
  | _, _, _ => []
def setP (fr : Fr) : List (Nat × D) → Fr
  | [] => fr
  | (i, d) :: r => setP (fr.set i (some d)) r
def eCall (ms : List Bool) (F : Fn) (g : Av) : Ev := fun fr => (g fr).bind fun ds fr1 => match argC fr1 ms ds with
  | none => .bad
  | some cs => if (ioV ms ds).Nodup then (match F cs with
    | .ok d outs => if outs.length = ms.length then .ok d (setP fr1 (ioP ms ds outs)) else .bad
    | .exc c fs outs => if outs.length = ms.length then .exc c fs (setP fr1 (ioP ms ds outs)) else .bad
    | .bad => .bad) else .bad
theorem setP_length : ∀ {ps : List (Nat × D)} {fr : Fr}, (setP fr ps).length = fr.length
  | [], _ => rfl
  | (i, d) :: r, fr => by rw [setP, setP_length, List.length_set]
theorem setP_out : ∀ {ps : List (Nat × D)} {fr : Fr} {j : Nat}, j ∉ ps.map (·.1) → (setP fr ps)[j]? = fr[j]?
  | [], _, _, _ => rfl
  | (i, d) :: r, fr, j, h => by
    rw [List.map_cons, List.mem_cons, not_or] at h
    rw [setP, setP_out h.2, List.getElem?_set_ne (Ne.symm h.1)]
theorem setP_in : ∀ {ps : List (Nat × D)} {fr : Fr} {j : Nat} {d : D}, (ps.map (·.1)).Nodup → (j, d) ∈ ps → j < fr.length → (setP fr ps)[j]? = some (some d)
  | [], _, _, _, _, h, _ => by cases h
  | (i, e) :: r, fr, j, d, nd, h, hl => by
    rw [List.map_cons, List.nodup_cons] at nd
    rw [setP]
    rcases List.mem_cons.mp h with q | q
    · cases q
      rw [setP_out nd.1, List.getElem?_set_self hl]
    · exact setP_in nd.2 q (by rw [List.length_set]; exact hl)
theorem argC_length {fr : Fr} : ∀ {ms : List Bool} {ds cs : List D}, argC fr ms ds = some cs → ds.length = ms.length ∧ cs.length = ms.length
  | [], [], cs, h => by cases h; exact ⟨rfl, rfl⟩
  | [], d :: ds, cs, h => by simp [argC] at h
  | true :: ms, [], cs, h => by simp [argC] at h
  | false :: ms, [], cs, h => by simp [argC] at h
  | true :: ms, d :: ds, cs, h => by
    cases d with
    | var i =>
      simp only [argC] at h
      split at h
      · split at h
        · simp only [Option.map_eq_some_iff] at h
          obtain ⟨cs', e, rfl⟩ := h
          obtain ⟨a, b⟩ := argC_length e
          exact ⟨by rw [List.length_cons, List.length_cons, a], by rw [List.length_cons, List.length_cons, b]⟩
        · cases h
      · cases h
    | _ => simp [argC] at h
  | false :: ms, d :: ds, cs, h => by
    simp only [argC] at h
    split at h
    · simp only [Option.map_eq_some_iff] at h
      obtain ⟨cs', e, rfl⟩ := h
      obtain ⟨a, b⟩ := argC_length e
      exact ⟨by rw [List.length_cons, List.length_cons, a], by rw [List.length_cons, List.length_cons, b]⟩
    · cases h
theorem argC_get {fr : Fr} : ∀ {ms : List Bool} {ds cs : List D}, argC fr ms ds = some cs → ∀ {k : Nat} {d : D}, ds[k]? = some d →
    (ms[k]? = some true → ∃ i c, d = .var i ∧ (fr[i]? = some (some c) ∧ isCell c = true) ∧ cs[k]? = some c) ∧ (ms[k]? = some false → pers d = true ∧ cs[k]? = some d)
  | [], [], cs, h, k, d, e => by simp at e
  | [], d :: ds, cs, h, _, _, _ => by simp [argC] at h
  | true :: ms, [], cs, h, _, _, _ => by simp [argC] at h
  | false :: ms, [], cs, h, _, _, _ => by simp [argC] at h
  | true :: ms, d :: ds, cs, h, k, d', e => by
    cases d with
    | var i =>
      simp only [argC] at h
      split at h
      · next c hc =>
        split at h
        · next cc =>
          simp only [Option.map_eq_some_iff] at h
          obtain ⟨cs', e', rfl⟩ := h
          cases k with
          | zero =>
            have : D.var i = d' := by simpa using e
            subst this
            exact ⟨fun _ => ⟨i, c, rfl, ⟨hc, cc⟩, rfl⟩, fun z => by simp at z⟩
          | succ k => simpa using argC_get e' (k := k) (d := d') (by simpa using e)
        · cases h
      · cases h
    | _ => simp [argC] at h
  | false :: ms, d :: ds, cs, h, k, d', e => by
    simp only [argC] at h
    split at h
    · next c =>
      simp only [Option.map_eq_some_iff] at h
      obtain ⟨cs', e', rfl⟩ := h
      cases k with
      | zero =>
        have : d = d' := by simpa using e
        subst this
        exact ⟨fun z => by simp at z, fun _ => ⟨c, rfl⟩⟩
      | succ k => simpa using argC_get e' (k := k) (d := d') (by simpa using e)
    · cases h
theorem ioP_map : ∀ {ms : List Bool} {ds os : List D}, os.length = ms.length → (ioP ms ds os).map (·.1) = ioV ms ds
  | [], [], _, _ => by simp [ioP, ioV]
  | [], _ :: _, _, _ => by simp [ioP, ioV]
  | true :: ms, [], os, h => by cases os <;> simp [ioP, ioV]
  | false :: ms, [], os, h => by cases os <;> simp [ioP, ioV]
  | m :: ms, d :: ds, [], h => by simp at h
  | true :: ms, d :: ds, o :: os, h => by
    have ih := ioP_map (ms := ms) (ds := ds) (os := os) (by simpa using h)
    cases d <;> simp [ioP, ioV, ih]
  | false :: ms, d :: ds, o :: os, h => by
    have ih := ioP_map (ms := ms) (ds := ds) (os := os) (by simpa using h)
    cases d <;> simp [ioP, ioV, ih]
theorem ioP_mem : ∀ {ms : List Bool} {ds os : List D} {i : Nat} {o : D}, (i, o) ∈ ioP ms ds os → ∃ k : Nat, ms[k]? = some true ∧ ds[k]? = some (.var i) ∧ os[k]? = some o
  | [], _, _, _, _, h => by simp [ioP] at h
  | m :: ms, [], os, i, o, h => by
    cases m <;> cases os <;> simp [ioP] at h
  | m :: ms, d :: ds, [], i, o, h => by
    cases m <;> cases d <;> simp [ioP] at h
  | false :: ms, d :: ds, o' :: os, i, o, h => by
    have h' : (i, o) ∈ ioP ms ds os := by cases d <;> simpa [ioP] using h
    obtain ⟨k, a, b, c⟩ := ioP_mem h'
    exact ⟨k + 1, by simpa using a, by simpa using b, by simpa using c⟩
  | true :: ms, d :: ds, o' :: os, i, o, h => by
    have sub : (i, o) ∈ ioP ms ds os → ∃ k : Nat, (true :: ms)[k]? = some true ∧ (d :: ds)[k]? = some (.var i) ∧ (o' :: os)[k]? = some o := fun h' => by
      obtain ⟨k, a, b, c⟩ := ioP_mem h'
      exact ⟨k + 1, by simpa using a, by simpa using b, by simpa using c⟩
    cases d with
    | var j =>
      simp only [ioP, List.mem_cons] at h
      rcases h with q | q
      · cases q
        exact ⟨0, rfl, rfl, rfl⟩
      · exact sub q
    | _ => exact sub (by simpa [ioP] using h)
theorem ioV_mem : ∀ {ms : List Bool} {ds : List D} {i : Nat}, i ∈ ioV ms ds ↔ ∃ k : Nat, ms[k]? = some true ∧ ds[k]? = some (.var i)
  | [], ds, i => by simp [ioV]
  | m :: ms, [], i => by cases m <;> simp [ioV]
  | false :: ms, d :: ds, i => by
    have ih := ioV_mem (ms := ms) (ds := ds) (i := i)
    have e : ioV (false :: ms) (d :: ds) = ioV ms ds := by cases d <;> rfl
    rw [e, ih]
    constructor
    · rintro ⟨k, a, b⟩; exact ⟨k + 1, by simpa using a, by simpa using b⟩
    · rintro ⟨k, a, b⟩
      cases k with
      | zero => simp at a
      | succ k => exact ⟨k, by simpa using a, by simpa using b⟩
  | true :: ms, d :: ds, i => by
    have ih := ioV_mem (ms := ms) (ds := ds) (i := i)
    have up : (∃ k : Nat, (true :: ms)[k]? = some true ∧ (d :: ds)[k]? = some (.var i)) ↔ d = .var i ∨ ∃ k : Nat, ms[k]? = some true ∧ ds[k]? = some (.var i) := by
      constructor
      · rintro ⟨k, a, b⟩
        cases k with
        | zero => exact .inl (by simpa using b)
        | succ k => exact .inr ⟨k, by simpa using a, by simpa using b⟩
      · rintro (e | ⟨k, a, b⟩)
        · exact ⟨0, rfl, by simp [e]⟩
        · exact ⟨k + 1, by simpa using a, by simpa using b⟩
    rw [up, ← ih]
    cases d with
    | var j =>
      simp only [ioV, List.mem_cons, D.var.injEq]
      constructor
      · rintro (e | e)
        · exact .inl e.symm
        · exact .inr e
      · rintro (e | e)
        · exact .inl e.symm
        · exact .inr e
    | _ => simp [ioV]
theorem repWs_get {B : Bd} {σ : L2.St} {Hv : Hp} : ∀ {ds : List D} {vs : List V}, RepWs B σ Hv ds vs → ∀ {k : Nat} {d : D}, ds[k]? = some d → ∃ v, vs[k]? = some v ∧ RepW B σ Hv d v
  | [], _, _, k, d, e => by simp at e
  | d :: ds, _, ⟨v, r, e, h1, h2⟩, 0, d', e' => by
    have : d = d' := by simpa using e'
    subst this
    exact ⟨v, by rw [e]; rfl, h1⟩
  | d :: ds, _, ⟨v, r, e, h1, h2⟩, k + 1, d', e' => by
    obtain ⟨u, a, b⟩ := repWs_get h2 (k := k) (d := d') (by simpa using e')
    exact ⟨u, by rw [e]; simpa using a, b⟩
section
variable {B : Bd} {fr : Fr} {σ : L2.St} {H Hv H' Hv' : Hp} {ms : List Bool} {ds cs outs : List D} {vs : List V}
theorem start_of (R : Rel B fr σ H Hv) (r : RepWs B σ Hv ds vs) (ha : argC fr ms ds = some cs) (nd : (ioV ms ds).Nodup) : Start B.G ms cs vs H Hv where
  sub := R.sub
  tab := R.tab
  lend := (argC_length ha).2
  lenv := by rw [repWs_length r, (argC_length ha).1]
  val := fun k d hm hd => by
    have hk : k < ds.length := by
      rw [(argC_length ha).1]
      exact (List.getElem?_eq_some_iff.mp hm).1
    have e1 : ds[k]? = some ds[k] := List.getElem?_eq_getElem hk
    obtain ⟨p, q⟩ := (argC_get ha e1).2 hm
    rw [hd] at q
    cases q
    obtain ⟨v, a, b⟩ := repWs_get r e1
    exact ⟨v, a, b.rep fun i z => by rw [z] at p; cases p⟩
  own := fun k d hm hd => by
    have hk : k < ds.length := by
      rw [(argC_length ha).1]
      exact (List.getElem?_eq_some_iff.mp hm).1
    have e1 : ds[k]? = some ds[k] := List.getElem?_eq_getElem hk
    obtain ⟨i, c, ei, hc, q⟩ := (argC_get ha e1).1 hm
    rw [hd] at q
    cases q
    obtain ⟨v, a, b⟩ := repWs_get r e1
    rw [ei] at b
    obtain ⟨hi, hs⟩ := b
    obtain ⟨p, hs', hv, _, hcell⟩ := R.own i _ hc hi
    rw [hs] at hs'
    cases hs'
    exact ⟨p, a, hv, hcell⟩
  sep := fun k l p hkl hk hl e1 e2 => by
    have hk' : k < ds.length := by
      rw [(argC_length ha).1]
      exact (List.getElem?_eq_some_iff.mp hk).1
    have hl' : l < ds.length := by
      rw [(argC_length ha).1]
      exact (List.getElem?_eq_some_iff.mp hl).1
    have d1 : ds[k]? = some ds[k] := List.getElem?_eq_getElem hk'
    have d2 : ds[l]? = some ds[l] := List.getElem?_eq_getElem hl'
    obtain ⟨i, c, ei, hc, _⟩ := (argC_get ha d1).1 hk
    obtain ⟨j, c2, ej, hc2, _⟩ := (argC_get ha d2).1 hl
    obtain ⟨v, a, b⟩ := repWs_get r d1
    obtain ⟨v2, a2, b2⟩ := repWs_get r d2
    rw [e1] at a
    cases a
    rw [e2] at a2
    cases a2
    rw [ei] at b d1
    rw [ej] at b2 d2
    have hij : i ≠ j := fun z => by
      subst z
      -- the same slot twice
      have key : ∀ {ms : List Bool} {ds : List D} {k l : Nat}, (ioV ms ds).Nodup → k ≠ l → ms[k]? = some true → ms[l]? = some true → ds[k]? = some (.var i) → ds[l]? = some (.var i) → False := by
        intro ms
        induction ms with
        | nil => intro ds k l _ _ h; simp at h
        | cons m ms ih =>
          intro ds k l nd hne hk hl h1 h2
          cases ds with
          | nil => simp at h1
          | cons d ds =>
            have nd2 : (ioV ms ds).Nodup := by
              cases m with
              | false => cases d <;> exact nd
              | true =>
                cases d with
                | var q => exact (List.nodup_cons.mp nd).2
                | _ => exact nd
            cases k with
            | zero =>
              cases l with
              | zero => exact hne rfl
              | succ l =>
                have em : m = true := by simpa using hk
                have ed : d = .var i := by simpa using h1
                subst em ed
                exact (List.nodup_cons.mp nd).1 (ioV_mem.mpr ⟨l, by simpa using hl, by simpa using h2⟩)
            | succ k =>
              cases l with
              | zero =>
                have em : m = true := by simpa using hl
                have ed : d = .var i := by simpa using h2
                subst em ed
                exact (List.nodup_cons.mp nd).1 (ioV_mem.mpr ⟨k, by simpa using hk, by simpa using h1⟩)
              | succ l => exact ih nd2 (fun z => hne (congrArg Nat.succ z)) (by simpa using hk) (by simpa using hl) (by simpa using h1) (by simpa using h2)
      exact key nd hkl hk hl d1 d2
    exact R.sep i j p c c2 b.1 b2.1 hij hc hc2 b.2 b2.2
theorem ioA_own (R : Rel B fr σ H Hv) (r : RepWs B σ Hv ds vs) (ha : argC fr ms ds = some cs) {b : Addr} (h : ioA ms vs b) : ∃ (k i : Nat) (c : D), ms[k]? = some true ∧ ds[k]? = some (D.var i) ∧ vs[k]? = some (.ref b) ∧ i ∈ B.M ∧ (fr[i]? = some (some c) ∧ isCell c = true) ∧ σ[i]? = some (some (.ref b)) := by
  obtain ⟨k, hm, hv⟩ := h
  have hk : k < ds.length := by
    rw [(argC_length ha).1]
    exact (List.getElem?_eq_some_iff.mp hm).1
  have e1 : ds[k]? = some ds[k] := List.getElem?_eq_getElem hk
  obtain ⟨i, c, ei, hc, _⟩ := (argC_get ha e1).1 hm
  obtain ⟨v, a, b⟩ := repWs_get r e1
  rw [hv] at a
  cases a
  rw [ei] at b e1
  exact ⟨k, i, c, hm, e1, hv, b.1, hc, b.2⟩
theorem nxt_call (R : Rel B fr σ H Hv) (r : RepWs B σ Hv ds vs) (ha : argC fr ms ds = some cs) (nd : (ioV ms ds).Nodup) (hl : outs.length = ms.length) (f : FinC B.G ms outs vs H Hv H' Hv') :
    Nxt B fr σ H Hv (setP fr (ioP ms ds outs)) H' Hv' := by
  have hmap := ioP_map (ds := ds) hl
  have ndp : ((ioP ms ds outs).map (·.1)).Nodup := by rw [hmap]; exact nd
  have assigned : ∀ {i : Nat}, i ∈ ioV ms ds → i ∈ B.M ∧ ∃ c, fr[i]? = some (some c) ∧ isCell c = true := fun {i} hi => by
    obtain ⟨k, hm, hd⟩ := ioV_mem.mp hi
    obtain ⟨j, c, ej, hc, _⟩ := (argC_get ha hd).1 hm
    cases ej
    obtain ⟨v, _, b⟩ := repWs_get r hd
    exact ⟨b.1, c, hc⟩
  have get : ∀ {i : Nat} {d : D}, (setP fr (ioP ms ds outs))[i]? = some (some d) → (∃ k : Nat, ms[k]? = some true ∧ ds[k]? = some (D.var i) ∧ outs[k]? = some d) ∨ (i ∉ ioV ms ds ∧ fr[i]? = some (some d)) := fun {i d} e => by
    by_cases hi : i ∈ ioV ms ds
    · rw [← hmap] at hi
      obtain ⟨⟨i', o⟩, hp, rfl⟩ := List.mem_map.mp hi
      have hil : i' < fr.length := by
        obtain ⟨_, c, hc⟩ := assigned (by rw [← hmap]; exact hi)
        exact (List.getElem?_eq_some_iff.mp hc.1).1
      rw [setP_in ndp hp hil] at e
      cases e
      exact .inl (ioP_mem hp)
    · refine .inr ⟨hi, ?_⟩
      rw [setP_out (by rw [hmap]; exact hi)] at e
      exact e
  have shape : Shr B fr (setP fr (ioP ms ds outs)) := fun i d hi e => by
    rcases get e.1 with ⟨k, hk, hd, _⟩ | ⟨_, e'⟩
    · obtain ⟨_, c, hc⟩ := assigned (ioV_mem.mpr ⟨k, hk, hd⟩)
      exact ⟨c, hc⟩
    · exact ⟨d, e', e.2⟩
  have notTab : ∀ {b : Addr}, ioA ms vs b → b ∉ B.G.tabs := fun {b} h => by
    obtain ⟨k, i, c, _, _, _, hi, hc, hs⟩ := ioA_own R r ha h
    exact (R.own_some ⟨i, c, hi, hc, hs⟩).2.2
  have notTab' : ∀ {i : Nat} {d : D} {a : Addr}, i ∈ B.M → (fr[i]? = some (some d) ∧ isCell d = true) → σ[i]? = some (some (.ref a)) → a ∉ B.G.tabs := fun {i d a} hi hf hs => (R.own_some ⟨i, d, hi, hf, hs⟩).2.2
  have hvn : ∀ {i : Nat} {d : D} {a : Addr}, i ∈ B.M → (fr[i]? = some (some d) ∧ isCell d = true) → σ[i]? = some (some (.ref a)) → Hv' a = none := fun {i d a} hi hf hs => by
    obtain ⟨⟨u, hu⟩, hv, _⟩ := R.own_some ⟨i, d, hi, hf, hs⟩
    by_cases hio : ioA ms vs a
    · obtain ⟨k, hk, hvk⟩ := hio
      exact (f.io k a hk hvk).1
    have nt := notTab' hi hf hs
    cases e : Hv' a with
    | none => rfl
    | some o =>
      rcases f.new a o e with z | z | ⟨ws, z⟩
      · rw [hv] at z; cases z
      · rw [hu] at z; cases z
      · have h1 := f.sub a o e
        rw [f.keep a u hu hio nt] at h1
        cases h1
        obtain ⟨a', hs', _, _, hc⟩ := R.own i d hf hi
        rw [hs] at hs'
        cases hs'
        obtain ⟨o2, h2, _, h3, _⟩ := hc.ob
        rw [hu] at h2
        cases h2
        rw [z] at hu
        exact (hc.not_tup hu).elim
  refine ⟨?_, f.ext, fun b o h no nt => f.keep b o h (fun q => ?_) nt, shape, fun b o h => ?_, fun b o h => ?_⟩
  · refine ⟨f.sub, R.ext0.trans f.ext, fun b o h => ?_, fun b o h hi ht => ?_, by rw [setP_length]; exact R.len, fun i d e hm => ?_, fun i d e hc hm => ?_, fun i d e hm => ?_, fun i j a di dj hi hj hij e1 e2 s1 s2 => ?_, fun p hp => ?_, f.tab⟩
    · rcases f.new b o h with z | z
      · exact R.new b o z
      · exact .inr (z.imp R.h0_none id)
    · refine f.keep b o (R.keep b o h hi ht) (fun q => ?_) ht
      obtain ⟨k, i, c, _, _, _, hm, hc, hs⟩ := ioA_own R r ha q
      obtain ⟨a', hs', _, hn, _⟩ := R.own i c hc hm
      rw [hs] at hs'
      cases hs'
      rcases hn with ⟨p, hp, e⟩ | hn
      · exact hi p hp e
      · rw [h] at hn; cases hn
    · rcases get e with ⟨k, hk, hd, ho⟩ | ⟨_, e'⟩
      · exact absurd (assigned (ioV_mem.mpr ⟨k, hk, hd⟩)).1 hm
      · obtain ⟨v, hs, hr⟩ := R.val i d e' hm
        exact ⟨v, hs, Rep.mono f.ext _ _ hr⟩
    · rcases get e with ⟨k, hk, hd, ho⟩ | ⟨_, e'⟩
      · obtain ⟨_, c, hc'⟩ := assigned (ioV_mem.mpr ⟨k, hk, hd⟩)
        obtain ⟨a, hs, hv, hn, _⟩ := R.own i c hc' hm
        obtain ⟨v, hvk, b⟩ := repWs_get r hd
        obtain ⟨_, hs2⟩ := b
        rw [hs] at hs2
        cases hs2
        obtain ⟨h1, d', hd', hcell⟩ := f.io k a hk hvk
        rw [ho] at hd'
        cases hd'
        rw [hcell.isCell] at hc
        cases hc
      · obtain ⟨e2, v, z, hs, hr⟩ := R.box i d e' hc hm
        exact ⟨e2, v, z, hs, hr.imp (Rep.mono f.ext _ _) id⟩
    · rcases get e.1 with ⟨k, hk, hd, ho⟩ | ⟨hni, e'⟩
      · obtain ⟨_, c, hc⟩ := assigned (ioV_mem.mpr ⟨k, hk, hd⟩)
        obtain ⟨a, hs, hv, hn, _⟩ := R.own i c hc hm
        obtain ⟨v, hvk, b⟩ := repWs_get r hd
        obtain ⟨_, hs2⟩ := b
        rw [hs] at hs2
        cases hs2
        obtain ⟨h1, d', hd', hcell⟩ := f.io k a hk hvk
        rw [ho] at hd'
        cases hd'
        exact ⟨a, hs, h1, hn, hcell⟩
      · obtain ⟨a, hs, hv, hn, hc⟩ := R.own i d ⟨e', e.2⟩ hm
        obtain ⟨⟨u, hu⟩, _, ntab⟩ := R.own_some ⟨i, d, hm, ⟨e', e.2⟩, hs⟩
        have nio : ¬ ioA ms vs a := fun q => by
          obtain ⟨k, j, c, hk, hdk, _, hj, hcj, hsj⟩ := ioA_own R r ha q
          by_cases hij : i = j
          · subst hij
            exact hni (ioV_mem.mpr ⟨k, hk, hdk⟩)
          · exact R.sep i j a d c hm hj hij ⟨e', e.2⟩ hcj hs hsj
        exact ⟨a, hs, hvn hm ⟨e', e.2⟩ hs, hn, hc.mono f.ext ((f.keep a u hu nio ntab).trans hu.symm)⟩
    · obtain ⟨di', hdi⟩ := shape i di hi e1
      obtain ⟨dj', hdj⟩ := shape j dj hj e2
      exact R.sep i j a di' dj' hi hj hij hdi hdj s1 s2
    · obtain ⟨h1, ⟨d, h2, hcl⟩, h3⟩ := R.io p hp
      refine ⟨h1, ?_, h3⟩
      by_cases hi : p.1 ∈ ioV ms ds
      · obtain ⟨k, hk, hd⟩ := ioV_mem.mp hi
        obtain ⟨v, hvk, b⟩ := repWs_get r hd
        obtain ⟨_, hs2⟩ := b
        rw [h3] at hs2
        cases hs2
        obtain ⟨_, d', hd', hcell⟩ := f.io k p.2 hk hvk
        rw [← hmap] at hi
        obtain ⟨⟨i', o⟩, hp', e'⟩ := List.mem_map.mp hi
        dsimp only at e'
        subst e'
        obtain ⟨k2, hk2, hd2, ho2⟩ := ioP_mem hp'
        obtain ⟨v2, hvk2, b2⟩ := repWs_get r hd2
        obtain ⟨_, hs3⟩ := b2
        rw [h3] at hs3
        cases hs3
        obtain ⟨_, d2, hd2', hcell2⟩ := f.io k2 p.2 hk2 hvk2
        rw [ho2] at hd2'
        cases hd2'
        exact ⟨o, setP_in ndp hp' (List.getElem?_eq_some_iff.mp h2).1, hcell2.isCell⟩
      · exact ⟨d, by rw [setP_out (by rw [hmap]; exact hi)]; exact h2, hcl⟩
  · obtain ⟨k, i, c, _, _, _, hm, hc, hs⟩ := ioA_own R r ha q
    exact no ⟨i, c, hm, hc, hs⟩
  · by_cases hb : ioA ms vs b
    · obtain ⟨k, hk, hv⟩ := hb
      obtain ⟨_, d, _, hcell⟩ := f.io k b hk hv
      obtain ⟨o2, h2, _⟩ := hcell.ob
      exact ⟨o2, h2⟩
    · by_cases ht : b ∈ B.G.tabs
      · obtain ⟨⟨ps, e, _⟩, _⟩ := f.tab b ht
        exact ⟨_, e⟩
      · exact ⟨o, f.keep b o h hb ht⟩
  · rcases f.new b o h with z | z
    · exact .inl z
    · exact .inr (.inl z)
end
section
variable {X : Cx} {B : Bd} {W : WX} {e : Expr} {es : List Expr} {g : Av} {k : Nat} {f : Addr} {fd : FuncData} {ps : List Str} {ms : List Bool} {F : Fn} {x : Str} {p pos : Pos}
theorem entCall {rf : Bool} {σ : L2.St} {H : Hp} {Q : VK} {P : Fr → Hp → Hp → Res Fr D → Prop} {fr : Fr} {Hv : Hp} (R : Rel B fr σ H Hv)
    (hex : ∀ c fs fr', P fr H Hv (.exc c fs fr') → ∀ dd H' Hv', Nxt B fr σ H Hv fr' H' Hv' → ExcAt B.G H' Hv' c fs dd → W (.ref (B.G.ecls c)) (some dd) σ H') (hb : ¬ P fr H Hv .bad)
    (hok : ∀ d fr', P fr H Hv (.ok d fr') → ∀ v H1 Hv1 H' Hv' fr1, Nxt B fr σ H Hv fr1 H1 Hv1 → Nxt B fr1 σ H1 Hv1 fr' H' Hv' → RetR rf B.G H1 H' Hv' d v → Q v H')
    (h : P fr H Hv (eCall ms F g fr)) : (dTA B W g) σ H fun vs H1 => spOf B.G ms rf F (vs ++ []) H1 Q (WE W σ) := by
  refine ⟨fr, Hv, R, ?_⟩
  unfold eCall at h
  cases hg : g fr with
  | bad => rw [hg] at h; exact (hb h).elim
  | exc c fs fr1 => rw [hg] at h; exact hex _ _ _ h
  | ok ds fr1 =>
    rw [hg] at h
    dsimp only [Res.bind] at h
    intro vs H1 Hv1 n r
    rw [List.append_nil]
    split at h
    · exact (hb h).elim
    · next cs hcs =>
      split at h
      · next nd =>
        refine ⟨cs, Hv1, start_of n.rel r hcs nd, ?_⟩
        cases hF : F cs with
        | bad => rw [hF] at h; exact (hb h).elim
        | exc c fs outs =>
          rw [hF] at h
          dsimp only at h
          split at h
          · next hl => exact fun dd H' Hv' fin ex => hex _ _ _ h dd H' Hv' (n.trans (nxt_call n.rel r hcs nd hl fin)) ex
          · exact (hb h).elim
        | ok d outs =>
          rw [hF] at h
          dsimp only at h
          split at h
          · next hl => exact fun v H' Hv' fin ret => hok _ _ h v H1 Hv1 H' Hv' fr1 n (nxt_call n.rel r hcs nd hl fin) ret
          · exact (hb h).elim
      · exact (hb h).elim
theorem d_call (Fk : FnOk X.prog X.w X.K X.mg X.base (L2N.CX X.prog X.w) k f fd ps (spOf B.G ms false F)) (hr : Room k X.A) (hm : X.mg x = some (.ref f)) (hk : PySem.W.keepIn X.K (.ref f) = true) (hb : Binds X.K fd ps []) (tk : ∀ σ, PassesAt (L2N.CX X.prog X.w) X σ (WE W σ))
    (ha : DA X B W (e :: es) g) (hg : Gl X x := by rfl) (hdb : (x == ("__debug__" : Str)) = false := by decide) (he : starEach (e :: es) X.env = (false, eval e X.env) :: starEach es X.env := by rfl) (hpl : (backTo pos (starEach es X.env)).any (·.1) = false := by rfl) :
    DE X B W (.Call (.Name x p) (e :: es) [] pos) (eCall ms F g) := by
  refine pe_imp (pe_callSD Fk hr hg hm hk hb .nil tk ha hdb he hpl) fun σ H Q h => ?_
  obtain ⟨fr, Hv, R, h⟩ := h
  exact entCall (P := fun fr H Hv r => PostE B W fr σ H Hv r Q) R (fun c fs fr' h => h) (fun h => h) (fun d fr' h v H1 Hv1 H' Hv' fr1 n m ret => h v H' Hv' (n.trans m) (.of ret)) h
end
end KS
namespace KS
open PySem PySem.Spec L2
/-- the end of a body -/
structure FinB (B : Bd) (fr' : Fr) (H' Hv' : Hp) : Prop where
  sub : Sub Hv' H'
  ext0 : Sub B.Hv0 Hv'
  new : ∀ b o, Hv' b = some o → B.Hv0 b = some o ∨ NewOk B.H0 b o
  keep : ∀ b o, B.H0 b = some o → (∀ p ∈ B.io, p.2 ≠ b) → b ∉ B.G.tabs → H' b = some o
  tab : ∀ P ∈ B.G.tabs, TabH H' P ∧ Hv' P = none
  io : ∀ p ∈ B.io, Hv' p.2 = none ∧ ∃ d, fr'[p.1]? = some (some d) ∧ Cell B.G H' Hv' p.2 d
theorem Rel.fin {B : Bd} {fr : Fr} {σ : L2.St} {H Hv : Hp} (R : Rel B fr σ H Hv) : FinB B fr H Hv where
  sub := R.sub
  ext0 := R.ext0
  new := R.new
  keep := R.keep
  tab := R.tab
  io := fun p hp => by
    obtain ⟨h1, ⟨d, hd⟩, h3⟩ := R.io p hp
    obtain ⟨a, hs, hv, _, hc⟩ := R.own p.1 d hd h1
    rw [h3] at hs
    cases hs
    exact ⟨hv, d, hd.1, hc⟩
def PostS (B : Bd) (W : WX) (rf : Bool) (Hv : Hp) (r : Res Fr Fl) (D : Ends) : Prop :=
  match r with
  | .ok .nx fr' => ∀ σ' H' Hv', Rel B fr' σ' H' Hv' → Sub Hv Hv' → D.nx σ' H'
  | .ok .brk fr' => ∀ σ' H' Hv', Rel B fr' σ' H' Hv' → Sub Hv Hv' → D.bk σ' H'
  | .ok .cnt fr' => ∀ σ' H' Hv', Rel B fr' σ' H' Hv' → Sub Hv Hv' → D.ct σ' H'
  | .ok (.ret d) fr' => ∀ v H' Hv', FinB B fr' H' Hv' → RetR rf B.G B.H0 H' Hv' d v → D.rt v H'
  | .exc c fs fr' => ∀ dd σ' H' Hv', Rel B fr' σ' H' Hv' → Sub Hv Hv' → ExcAt B.G H' Hv' c fs dd → W (.ref (B.G.ecls c)) (some dd) σ' H'
  | .bad => False
def dTS (B : Bd) (W : WX) (rf : Bool) (g : Sv) : TS := fun D σ H => ∃ fr Hv, Rel B fr σ H Hv ∧ PostS B W rf Hv (g fr) D
def DS (X : Cx) (B : Bd) (W : WX) (rf : Bool) (st : Stmt) (g : Sv) : Prop := PS X st (dTS B W rf g)
def DSs (X : Cx) (B : Bd) (W : WX) (rf : Bool) (st : List Stmt) (g : Sv) : Prop := PSs X st (dTS B W rf g)
theorem PostS.step {B : Bd} {W : WX} {rf : Bool} {Hv Hv1 : Hp} {r : Res Fr Fl} {D : Ends} (s : Sub Hv Hv1) (h : PostS B W rf Hv r D) : PostS B W rf Hv1 r D := by
  cases r with
  | ok fl fr' =>
    cases fl with
    | nx => exact fun σ' H' Hv' R m => h σ' H' Hv' R (s.trans m)
    | brk => exact fun σ' H' Hv' R m => h σ' H' Hv' R (s.trans m)
    | cnt => exact fun σ' H' Hv' R m => h σ' H' Hv' R (s.trans m)
    | ret d => exact h
  | exc c fs fr' => exact fun dd σ' H' Hv' R m => h dd σ' H' Hv' R (s.trans m)
  | bad => exact h
def sNx : Sv := fun fr => .ok .nx fr
def sBrk : Sv := fun fr => .ok .brk fr
def sSeq (g h : Sv) : Sv := fun fr => (g fr).bind fun fl fr1 => match fl with
  | .nx => h fr1
  | fl => .ok fl fr1
def sX (f : Ev) : Sv := fun fr => (f fr).bind fun _ fr1 => .ok .nx fr1
def sRet (f : Ev) : Sv := fun fr => (f fr).bind fun d fr1 => if pers d = true then .ok (.ret d) fr1 else .bad
def sIf (t : Bv) (g h : Sv) : Sv := fun fr => (t fr).bind fun b fr1 => if b then g fr1 else h fr1
def sSet (i : Nat) (f : Ev) : Sv := fun fr => (f fr).bind fun d fr1 => if pers d = true then .ok .nx (fr1.set i (some d)) else .bad
def sSetF (i : Nat) (f : Ev) : Sv := fun fr => (f fr).bind fun d fr1 => .ok .nx (fr1.set i (some d))
section
variable {X : Cx} {B : Bd} {W : WX} {rf : Bool} {st : Stmt} {rest : List Stmt} {g h : Sv} {e : Expr} {f : Ev} {t : Bv} {pos : Pos}
theorem ss_nil : DSs X B W rf [] sNx := pss_imp pss_nil fun D σ H ⟨fr, Hv, R, h⟩ => h σ H Hv R (.refl _)
theorem ss_cons (h1 : DS X B W rf st g) (h2 : DSs X B W rf rest h) : DSs X B W rf (st :: rest) (sSeq g h) := by
  refine pss_imp (pss_cons h1 h2) fun D σ H hh => ?_
  obtain ⟨fr, Hv, R, hh⟩ := hh
  refine ⟨fr, Hv, R, ?_⟩
  unfold sSeq at hh
  cases hg : g fr with
  | bad => rw [hg] at hh; exact hh.elim
  | exc c fs fr1 => rw [hg] at hh; exact hh
  | ok fl fr1 =>
    rw [hg] at hh
    dsimp only [Res.bind] at hh
    cases fl with
    | nx => exact fun σ' H' Hv' R' s => ⟨fr1, Hv', R', PostS.step s hh⟩
    | brk => exact hh
    | cnt => exact hh
    | ret d => exact hh
theorem s_break : DS X B W rf (.Break pos) sBrk := ps_imp ps_break fun D σ H ⟨fr, Hv, R, h⟩ => h σ H Hv R (.refl _)
theorem s_expr (he : DE X B W e f) (hs : swapsWith e none pos.line X.env = pure false := by rfl) : DS X B W rf (.Expr e pos) (sX f) := by
  refine ps_imp (ps_expr he hs) fun D σ H hh => ?_
  obtain ⟨fr, Hv, R, hh⟩ := hh
  refine ⟨fr, Hv, R, ?_⟩
  unfold sX at hh
  cases hg : f fr with
  | bad => rw [hg] at hh; exact hh.elim
  | exc c fs fr1 =>
    rw [hg] at hh
    exact fun dd H' Hv' n => hh dd σ H' Hv' n.rel n.ext
  | ok d fr1 =>
    rw [hg] at hh
    exact fun v H' Hv' n _ => hh σ H' Hv' n.rel n.ext
theorem s_ret (hrf : rf = false) (he : DE X B W e f) : DS X B W rf (.Return (some e) pos) (sRet f) := by
  subst hrf
  refine ps_imp (ps_ret he) fun D σ H hh => ?_
  obtain ⟨fr, Hv, R, hh⟩ := hh
  refine ⟨fr, Hv, R, ?_⟩
  unfold sRet at hh
  cases hg : f fr with
  | bad => rw [hg] at hh; exact hh.elim
  | exc c fs fr1 =>
    rw [hg] at hh
    exact fun dd H' Hv' n => hh dd σ H' Hv' n.rel n.ext
  | ok d fr1 =>
    rw [hg] at hh
    dsimp only [Res.bind] at hh
    split at hh
    · next c => exact fun v H' Hv' n r => hh v H' Hv' n.rel.fin (by
        show if false = true then _ else Rep B.G Hv' d v
        rw [if_neg Bool.false_ne_true]
        exact r.rep fun i z => by rw [z] at c; cases c)
    · exact hh.elim
theorem s_if {c : Expr} {a b : List Stmt} (hc : DT X B W c t) (ha : DSs X B W rf a g) (hb : DSs X B W rf b h) : DS X B W rf (.If c a b pos) (sIf t g h) := by
  refine ps_imp (ps_if hc ha hb) fun D σ H hh => ?_
  obtain ⟨fr, Hv, R, hh⟩ := hh
  refine ⟨fr, Hv, R, ?_⟩
  unfold sIf at hh
  cases hg : t fr with
  | bad => rw [hg] at hh; exact hh.elim
  | exc c fs fr1 =>
    rw [hg] at hh
    exact fun dd H' Hv' n => hh dd σ H' Hv' n.rel n.ext
  | ok k fr1 =>
    rw [hg] at hh
    dsimp only [Res.bind] at hh
    intro H' Hv' n
    cases k with
    | true =>
      rw [if_pos rfl]
      exact ⟨fr1, Hv', n.rel, PostS.step n.ext hh⟩
    | false =>
      rw [if_neg Bool.false_ne_true]
      exact ⟨fr1, Hv', n.rel, PostS.step n.ext hh⟩
/-- a slot that owns nothing gets a value -/
theorem Rel.setV {fr : Fr} {σ : L2.St} {H Hv : Hp} (R : Rel B fr σ H Hv) {i : Nat} {d : D} {v : V} (hi : i ∉ B.M) (r : Rep B.G Hv d v) : Rel B (fr.set i (some d)) (σ.set i (some v)) H Hv where
  sub := R.sub
  ext0 := R.ext0
  new := R.new
  keep := R.keep
  len := by rw [List.length_set, List.length_set]; exact R.len
  val := fun j e hf hm => by
    by_cases hj : j = i
    · subst hj
      have hl : j < fr.length := by
        have := (List.getElem?_eq_some_iff.mp hf).1
        rwa [List.length_set] at this
      rw [List.getElem?_set_self hl] at hf
      cases hf
      exact ⟨v, List.getElem?_set_self (by rw [← R.len]; exact hl), r⟩
    · rw [List.getElem?_set_ne (Ne.symm hj)] at hf
      obtain ⟨u, h1, h2⟩ := R.val j e hf hm
      exact ⟨u, by rw [List.getElem?_set_ne (Ne.symm hj)]; exact h1, h2⟩
  box := fun j e hf hc hm => by
    have hj : j ≠ i := fun z => hi (z ▸ hm)
    rw [List.getElem?_set_ne (Ne.symm hj)] at hf
    obtain ⟨e2, u, h0, h1, h2⟩ := R.box j e hf hc hm
    exact ⟨e2, u, h0, by rw [List.getElem?_set_ne (Ne.symm hj)]; exact h1, h2⟩
  own := fun j e hf hm => by
    have hj : j ≠ i := fun z => hi (z ▸ hm)
    rw [List.getElem?_set_ne (Ne.symm hj)] at hf
    obtain ⟨a, h1, h2⟩ := R.own j e hf hm
    exact ⟨a, by rw [List.getElem?_set_ne (Ne.symm hj)]; exact h1, h2⟩
  sep := fun j k a dj dk hj hk hjk e1 e2 s1 => by
    have hj' : j ≠ i := fun z => hi (z ▸ hj)
    have hk' : k ≠ i := fun z => hi (z ▸ hk)
    rw [List.getElem?_set_ne (Ne.symm hj')] at e1 s1
    rw [List.getElem?_set_ne (Ne.symm hk')] at e2 ⊢
    exact R.sep j k a dj dk hj hk hjk e1 e2 s1
  io := fun p hp => by
    obtain ⟨h1, h2, h3⟩ := R.io p hp
    have hj : p.1 ≠ i := fun z => hi (z ▸ h1)
    exact ⟨h1, by rw [List.getElem?_set_ne (Ne.symm hj)]; exact h2, by rw [List.getElem?_set_ne (Ne.symm hj)]; exact h3⟩
  tab := R.tab
/-- an owned slot gets a new object -/
theorem Rel.setF {fr : Fr} {σ : L2.St} {H Hv : Hp} (R : Rel B fr σ H Hv) {i : Nat} {d : D} {p : Addr} (hi : i ∈ B.M) (hio : ∀ q ∈ B.io, q.1 ≠ i) (no : ¬ Own B fr σ p) (h0 : B.H0 p = none) (hv : Hv p = none) (hc : Cell B.G H Hv p d) : Rel B (fr.set i (some d)) (σ.set i (some (.ref p))) H Hv where
  sub := R.sub
  ext0 := R.ext0
  new := R.new
  keep := R.keep
  len := by rw [List.length_set, List.length_set]; exact R.len
  val := fun j e hf hm => by
    have hj : j ≠ i := fun z => hm (z ▸ hi)
    rw [List.getElem?_set_ne (Ne.symm hj)] at hf
    obtain ⟨u, h1, h2⟩ := R.val j e hf hm
    exact ⟨u, by rw [List.getElem?_set_ne (Ne.symm hj)]; exact h1, h2⟩
  box := fun j e hf hcl hm => by
    by_cases hj : j = i
    · subst hj
      have hl : j < fr.length := by
        have := (List.getElem?_eq_some_iff.mp hf).1
        rwa [List.length_set] at this
      rw [List.getElem?_set_self hl] at hf
      cases hf
      rw [hc.isCell] at hcl
      cases hcl
    · rw [List.getElem?_set_ne (Ne.symm hj)] at hf
      obtain ⟨e2, u, h0, h1, h2⟩ := R.box j e hf hcl hm
      exact ⟨e2, u, h0, by rw [List.getElem?_set_ne (Ne.symm hj)]; exact h1, h2⟩
  own := fun j e hf hm => by
    by_cases hj : j = i
    · subst hj
      have hl : j < fr.length := by
        have := (List.getElem?_eq_some_iff.mp hf.1).1
        rwa [List.length_set] at this
      have hf := hf.1
      rw [List.getElem?_set_self hl] at hf
      cases hf
      exact ⟨p, List.getElem?_set_self (by rw [← R.len]; exact hl), hv, .inr h0, hc⟩
    · rw [List.getElem?_set_ne (Ne.symm hj)] at hf
      obtain ⟨a, h1, h2⟩ := R.own j e hf hm
      exact ⟨a, by rw [List.getElem?_set_ne (Ne.symm hj)]; exact h1, h2⟩
  sep := fun j k a dj dk hj hk hjk e1 e2 s1 => by
    by_cases hj' : j = i
    · subst hj'
      have hk' : k ≠ j := Ne.symm hjk
      have hl : j < σ.length := by
        have := (List.getElem?_eq_some_iff.mp s1).1
        rwa [List.length_set] at this
      rw [List.getElem?_set_self hl] at s1
      cases s1
      rw [List.getElem?_set_ne (Ne.symm hk')] at e2 ⊢
      exact fun z => no ⟨k, dk, hk, e2, z⟩
    · rw [List.getElem?_set_ne (Ne.symm hj')] at e1 s1
      by_cases hk' : k = i
      · subst hk'
        by_cases hl : k < σ.length
        · rw [List.getElem?_set_self hl]
          intro z
          cases z
          exact no ⟨j, dj, hj, e1, s1⟩
        · rw [List.getElem?_eq_none (by rw [List.length_set]; omega)]
          exact fun z => by cases z
      · rw [List.getElem?_set_ne (Ne.symm hk')] at e2 ⊢
        exact R.sep j k a dj dk hj hk hjk e1 e2 s1
  io := fun q hq => by
    obtain ⟨h1, h2, h3⟩ := R.io q hq
    have hj : q.1 ≠ i := hio q hq
    exact ⟨h1, by rw [List.getElem?_set_ne (Ne.symm hj)]; exact h2, by rw [List.getElem?_set_ne (Ne.symm hj)]; exact h3⟩
  tab := R.tab
theorem s_set {i : Nat} {x : Str} {pos' : Pos} (hi : i ∉ B.M) (nd : X.N.Nodup) (he : DE X B W e f) (hN : X.N[i]? = some x := by rfl) (hx : Loc X.env.scope x := by first | exact Or.inl rfl | exact Or.inr rfl) (hs : swapsWith e (some (.Name x pos')) pos.line X.env = pure false := by rfl)
    (hf : X.fn x = true ∨ X.env.scope.names.lookup x = some .local := by first | exact .inl rfl | exact .inr rfl | assumption) : DS X B W rf (.Assign [.Name x pos'] e pos) (sSet i f) := by
  refine ps_imp (ps_set nd hN hx he hs hf) fun D σ H hh => ?_
  obtain ⟨fr, Hv, R, hh⟩ := hh
  refine ⟨fr, Hv, R, ?_⟩
  unfold sSet at hh
  cases hg : f fr with
  | bad => rw [hg] at hh; exact hh.elim
  | exc c fs fr1 =>
    rw [hg] at hh
    exact fun dd H' Hv' n => hh dd σ H' Hv' n.rel n.ext
  | ok d fr1 =>
    rw [hg] at hh
    dsimp only [Res.bind] at hh
    split at hh
    · next c => exact fun v H' Hv' n r => hh _ H' Hv' (n.rel.setV hi (r.rep fun i z => by rw [z] at c; cases c)) n.ext
    · exact hh.elim
theorem not_own_of_none {fr fr1 : Fr} {σ : L2.St} {H Hv H1 Hv1 : Hp} (R : Rel B fr σ H Hv) (n : Nxt B fr σ H Hv fr1 H1 Hv1) {p : Addr} (hp : H p = none) : ¬ Own B fr1 σ p := fun o => by
  obtain ⟨⟨u, hu⟩, _⟩ := R.own_some (own_shp n.shp o)
  rw [hp] at hu
  cases hu
theorem s_setF {i : Nat} {x : Str} {pos' : Pos} (hi : i ∈ B.M) (hio : ∀ q ∈ B.io, q.1 ≠ i) (nd : X.N.Nodup) (he : DF X B W e f) (hN : X.N[i]? = some x := by rfl) (hx : Loc X.env.scope x := by first | exact Or.inl rfl | exact Or.inr rfl) (hs : swapsWith e (some (.Name x pos')) pos.line X.env = pure false := by rfl)
    (hf : X.fn x = true ∨ X.env.scope.names.lookup x = some .local := by first | exact .inl rfl | exact .inr rfl | assumption) : DS X B W rf (.Assign [.Name x pos'] e pos) (sSetF i f) := by
  refine ps_imp (ps_set nd hN hx he hs hf) fun D σ H hh => ?_
  obtain ⟨fr, Hv, R, hh⟩ := hh
  refine ⟨fr, Hv, R, ?_⟩
  unfold sSetF at hh
  cases hg : f fr with
  | bad => rw [hg] at hh; exact hh.elim
  | exc c fs fr1 =>
    rw [hg] at hh
    exact fun dd H' Hv' n => hh dd σ H' Hv' n.rel n.ext
  | ok d fr1 =>
    rw [hg] at hh
    dsimp only [Res.bind] at hh
    exact fun p H' Hv' n hp hv hc => hh _ H' Hv' (n.rel.setF hi hio (not_own_of_none R n hp) (R.h0_none hp) hv hc) n.ext
end
def startF (n : Nat) (ds : List D) : Fr := ds.map some ++ List.replicate (n - ds.length) none
def outsOf (k : Nat) (fr : Fr) : List D := (List.range k).map fun i => (fr[i]?.join).getD .non
def runFn (k n : Nat) (g : Sv) : Fn := fun ds => match g (startF n ds) with
  | .ok .nx fr => .ok .non (outsOf k fr)
  | .ok (.ret d) fr => .ok d (outsOf k fr)
  | .exc c fs fr => .exc c fs (outsOf k fr)
  | _ => .bad
/-- the slots that own: parameters that are handed in to be changed, and others -/
def ioSlots (ms : List Bool) : List Nat := (List.range ms.length).filter fun i => ms.getD i false
def ioOf (ms : List Bool) (vs : List V) : List (Nat × Addr) := (ioSlots ms).filterMap fun i => match vs[i]? with
  | some (V.ref a) => some (i, a)
  | _ => none
theorem mem_ioSlots {ms : List Bool} {i : Nat} : i ∈ ioSlots ms ↔ ms[i]? = some true := by
  unfold ioSlots
  rw [List.mem_filter, List.mem_range]
  constructor
  · rintro ⟨h1, h2⟩
    rw [List.getD_eq_getElem?_getD, List.getElem?_eq_getElem h1] at h2
    rw [List.getElem?_eq_getElem h1]
    exact congrArg some h2
  · intro h
    obtain ⟨h1, h2⟩ := List.getElem?_eq_some_iff.mp h
    exact ⟨h1, by rw [List.getD_eq_getElem?_getD, h]; rfl⟩
theorem mem_ioOf {ms : List Bool} {vs : List V} {i : Nat} {a : Addr} : (i, a) ∈ ioOf ms vs ↔ ms[i]? = some true ∧ vs[i]? = some (.ref a) := by
  unfold ioOf
  rw [List.mem_filterMap]
  constructor
  · rintro ⟨j, hj, e⟩
    split at e
    · next b hb =>
      cases e
      exact ⟨mem_ioSlots.mp hj, hb⟩
    · cases e
  · rintro ⟨h1, h2⟩
    exact ⟨i, mem_ioSlots.mpr h1, by rw [h2]⟩
section
variable {K : PySem.W.Frag} {G : SE} {ms : List Bool} {ds : List D} {vs : List V} {H Hv : Hp} {N : List Str} {M : List Nat}
theorem startF_get {n : Nat} (h : ds.length ≤ n) {i : Nat} {d : D} : (startF n ds)[i]? = some (some d) ↔ ds[i]? = some d := by
  unfold startF
  by_cases hi : i < ds.length
  · rw [List.getElem?_append_left (by simpa using hi), List.getElem?_map]
    cases ds[i]? <;> simp
  · rw [List.getElem?_append_right (by simpa using hi), List.getElem?_eq_none (by omega : ds.length ≤ i)]
    simp [List.getElem?_replicate]
theorem start_get (h : vs.length ≤ N.length) {i : Nat} {v : V} : (L2.start N vs)[i]? = some (some v) ↔ vs[i]? = some v := by
  unfold L2.start
  by_cases hi : i < vs.length
  · rw [List.getElem?_append_left (by simpa using hi), List.getElem?_map]
    cases vs[i]? <;> simp
  · rw [List.getElem?_append_right (by simpa using hi), List.getElem?_eq_none (by omega : vs.length ≤ i)]
    simp [List.getElem?_replicate]
theorem rel_start (S : Start G ms ds vs H Hv) (hN : ms.length ≤ N.length) (hM : ∀ i, i < ms.length → (i ∈ M ↔ ms[i]? = some true)) : Rel ⟨G, M, ioOf ms vs, H, Hv, none⟩ (startF N.length ds) (L2.start N vs) H Hv := by
  have ld : ds.length ≤ N.length := by rw [S.lend]; exact hN
  have lv : vs.length ≤ N.length := by rw [S.lenv]; exact hN
  have lt : ∀ {i : Nat} {d : D}, ds[i]? = some d → i < ms.length := fun {i d} h => by
    rw [← S.lend]
    exact (List.getElem?_eq_some_iff.mp h).1
  have mode : ∀ {i : Nat}, i < ms.length → ms[i]? = some true ∨ ms[i]? = some false := fun {i} h => by
    rw [List.getElem?_eq_getElem h]
    cases ms[i] <;> simp
  refine ⟨S.sub, .refl _, fun b o h => .inl h, fun b o h _ _ => h, ?_, fun i d e hm => ?_, fun i d e hc hm => ?_, fun i d e hm => ?_, fun i j a di dj hi hj hij e1 e2 s1 s2 => ?_, fun p hp => ?_, S.tab⟩
  · show (startF N.length ds).length = (L2.start N vs).length
    unfold startF L2.start
    simp only [List.length_append, List.length_map, List.length_replicate]
    rw [S.lend, S.lenv]
  · have e' := (startF_get ld).mp e
    have hl := lt e'
    rcases mode hl with h | h
    · exact absurd ((hM i hl).mpr h) hm
    · obtain ⟨v, h1, h2⟩ := S.val i d h e'
      exact ⟨v, (start_get lv).mpr h1, h2⟩
  · have e' := (startF_get ld).mp e
    have hl := lt e'
    have h := (hM i hl).mp hm
    obtain ⟨a, h1, h2, h3⟩ := S.own i d h e'
    rw [h3.isCell] at hc
    cases hc
  · have e' := (startF_get ld).mp e.1
    have hl := lt e'
    have h := (hM i hl).mp hm
    obtain ⟨a, h1, h2, h3⟩ := S.own i d h e'
    exact ⟨a, (start_get lv).mpr h1, h2, .inl ⟨(i, a), mem_ioOf.mpr ⟨h, h1⟩, rfl⟩, h3⟩
  · have e1' := (startF_get ld).mp e1.1
    have e2' := (startF_get ld).mp e2.1
    exact S.sep i j a hij ((hM i (lt e1')).mp hi) ((hM j (lt e2')).mp hj) ((start_get lv).mp s1) ((start_get lv).mp s2)
  · obtain ⟨i, a⟩ := p
    obtain ⟨h1, h2⟩ := mem_ioOf.mp hp
    have hl : i < ms.length := (List.getElem?_eq_some_iff.mp h1).1
    have hd : ds[i]? = some (ds[i]'(by rw [S.lend]; exact hl)) := List.getElem?_eq_getElem _
    obtain ⟨_, _, _, h3⟩ := S.own i _ h1 hd
    exact ⟨(hM i hl).mpr h1, ⟨_, (startF_get ld).mpr hd, h3.isCell⟩, (start_get lv).mpr h2⟩
theorem fin_of (hl : vs.length = ms.length) {fr : Fr} {H' Hv' : Hp} (f : FinB ⟨G, M, ioOf ms vs, H, Hv, none⟩ fr H' Hv') : FinC G ms (outsOf ms.length fr) vs H Hv H' Hv' where
  sub := f.sub
  ext := f.ext0
  new := f.new
  keep := fun b o h no nt => f.keep b o h (fun p hp z => no (by
    obtain ⟨i, a⟩ := p
    obtain ⟨h1, h2⟩ := (mem_ioOf (ms := ms) (vs := vs)).mp hp
    exact ⟨i, h1, by rw [← z]; exact h2⟩)) nt
  tab := f.tab
  io := fun i a h1 h2 => by
    obtain ⟨z1, d, z2, z3⟩ := f.io (i, a) (mem_ioOf.mpr ⟨h1, h2⟩)
    refine ⟨z1, d, ?_, z3⟩
    have hi : i < ms.length := (List.getElem?_eq_some_iff.mp h1).1
    unfold outsOf
    rw [List.getElem?_map, List.getElem?_range hi]
    show some ((fr[i]?.join).getD .non) = some d
    have z2' : fr[i]? = some (some d) := z2
    rw [z2']
    rfl
end
section
variable {P : Program} {w : World} {G : SE} {ms : List Bool} {M : List Nat} {rf : Bool} {g : Sv} {x qual : Str} {st : Stmt} {f : Addr} {fd : FuncData} {N ps : List Str} {k : Nat}
/-- THE RULE for a def: what its body's term of rules gives -/
theorem fnok_of (F : Fun G.K x qual st f fd) (S : FnScope N ps (defScope st)) (hlen : ms.length = ps.length) (hM : ∀ i, i < ms.length → (i ∈ M ↔ ms[i]? = some true)) (hret : rf = false ∨ ∀ ds fr, g (startF N.length ds) ≠ .ok .nx fr)
    (hbody : ∀ (cdv : Value) (A : Around) (outer : List Env) (s : Shared) (H : Hp) (E : XK) (io : List (Nat × Addr)) (Hv : Hp), (∀ p ∈ io, ms[p.1]? = some true) → Room k (A.deeper (PyProof.Rows.envOfC qual (defScope st) s.heap.objs.size f cdv)) →
      DSs (cxOf (L2N.CX G.P G.w) G.P G.w G.K G.mg G.base N qual (defScope st) f cdv A outer s H E) ⟨G, M, io, H, Hv, none⟩ (fun cls d _ H => E cls d H) rf (defBody st) g) :
    FnOk G.P G.w G.K G.mg G.base (L2N.CX G.P G.w) (k + 1) f fd ps (spOf G ms rf (runFn ms.length N.length g)) := by
  have hNl : ms.length ≤ N.length := by
    have := congrArg List.length S.pre
    rw [List.length_take] at this
    omega
  refine okXN F S (fun vs H Q E h => ?_) (fun cdv A outer s H vs Q E hr h => ?_)
  · obtain ⟨ds, Hv, S', _⟩ := h
    rw [S'.lenv, hlen]
  · obtain ⟨ds, Hv, S', h⟩ := h
    refine ⟨_, hbody cdv A outer s H E (ioOf ms vs) Hv (fun p hp => ((mem_ioOf (a := p.2)).mp hp).1) hr, startF N.length ds, Hv, rel_start S' hNl hM, ?_⟩
    unfold runFn at h
    cases hg : g (startF N.length ds) with
    | bad => rw [hg] at h; exact h.elim
    | exc c fs fr =>
      rw [hg] at h
      exact fun dd σ' H' Hv' R _ ex => h dd H' Hv' (fin_of S'.lenv R.fin) ex
    | ok fl fr =>
      rw [hg] at h
      cases fl with
      | nx =>
        rcases hret with hrf | hrf
        · subst hrf
          refine fun σ' H' Hv' R _ => h .non H' Hv' (fin_of S'.lenv R.fin) ?_
          show if false = true then _ else Rep G Hv' .non .non
          rw [if_neg Bool.false_ne_true]
          exact repN
        · exact absurd hg (hrf ds fr)
      | brk => exact h.elim
      | cnt => exact h.elim
      | ret d => exact fun v H' Hv' f' ret => h v H' Hv' (fin_of S'.lenv f') ret
end
end KS
namespace KS
open PySem PySem.Spec L2
abbrev Tv := D → Fr → Option Fr
def setL (fr : Fr) : List Nat → List D → Fr
  | i :: is, d :: ds => setL (fr.set i (some d)) is ds
  | _, _ => fr
def tgN (i : Nat) : Tv := fun d fr => some (fr.set i (some d))
def tgT (is : List Nat) : Tv := fun d fr => match d with
  | .tup ds => if ds.length = is.length then some (setL fr is ds) else none
  | _ => none
def dTG (B : Bd) (is : List Nat) (t : Tv) : TG := fun v σ H Q => ∃ fr Hv d fr', Rel B fr σ H Hv ∧ Rep B.G Hv d v ∧ t d fr = some fr' ∧
  ∀ σ', Rel B fr' σ' H Hv → σ'.length = σ.length → (∀ j, j ∉ is → σ'[j]? = σ[j]?) → Q σ' H
/-- a target touches its own slots alone -/
def TgOk (t : Tv) (is : List Nat) : Prop := ∀ d fr fr', t d fr = some fr' → ∀ j, j ∉ is → fr'[j]? = fr[j]?
theorem setL_out : ∀ {is : List Nat} {ds : List D} {fr : Fr} {j : Nat}, j ∉ is → (setL fr is ds)[j]? = fr[j]?
  | [], _, _, _, _ => rfl
  | i :: is, [], _, _, _ => rfl
  | i :: is, d :: ds, fr, j, h => by
    rw [List.mem_cons, not_or] at h
    rw [setL, setL_out h.2, List.getElem?_set_ne (Ne.symm h.1)]
theorem tgN_ok {i : Nat} : TgOk (tgN i) [i] := fun d fr fr' e j hj => by
  cases e
  exact List.getElem?_set_ne fun z => hj (by rw [z]; exact List.mem_singleton.mpr rfl)
theorem tgT_ok {is : List Nat} : TgOk (tgT is) is := fun d fr fr' e j hj => by
  unfold tgT at e
  split at e
  · split at e
    · cases e
      exact setL_out hj
    · cases e
  · cases e
structure DG (X : Cx) (B : Bd) (tg : Expr) (is : List Nat) (t : Tv) : Prop where
  pg : PG X tg (dTG B is t)
  ok : TgOk t is
def dTGs (B : Bd) (is js : List Nat) : TGs := fun vs σ H Q => ∃ fr Hv ds, Rel B fr σ H Hv ∧ RepL B.G Hv ds vs ∧ ds.length = is.length ∧
  ∀ σ', Rel B (setL fr is ds) σ' H Hv → σ'.length = σ.length → (∀ j, j ∉ js → σ'[j]? = σ[j]?) → Q σ' H
def DGs (X : Cx) (B : Bd) (tgs : List Expr) (is js : List Nat) : Prop := PGs X tgs (dTGs B is js)
theorem pg_imp {X : Cx} {tg : Expr} {t t' : TG} (h : PG X tg t) (i : ∀ v σ H Q, t' v σ H Q → t v σ H Q) : PG X tg t' := ⟨fun pins s σ H v u Q I r hw => h.run pins s σ H v u Q I r (i v σ H Q hw)⟩
theorem pgs_imp {X : Cx} {tg : List Expr} {t t' : TGs} (h : PGs X tg t) (i : ∀ v σ H Q, t' v σ H Q → t v σ H Q) : PGs X tg t' := ⟨fun pins s σ H v u Q I r hw => h.run pins s σ H v u Q I r (i v σ H Q hw)⟩
section
variable {X : Cx} {B : Bd} {pos : Pos}
theorem g_name {i : Nat} {x : Str} (hi : i ∉ B.M) (nd : X.N.Nodup) (hN : X.N[i]? = some x := by rfl) (hx : Loc X.env.scope x := by first | exact Or.inl rfl | exact Or.inr rfl)
    (hf : X.fn x = true ∨ X.env.scope.names.lookup x = some .local := by first | exact .inl rfl | exact .inr rfl | assumption) : DG X B (.Name x pos) [i] (tgN i) := by
  refine ⟨?_, tgN_ok⟩
  refine pg_imp (pg_name nd hN hx hf) fun v σ H Q h => ?_
  obtain ⟨fr, Hv, d, fr', R, r, ht, k⟩ := h
  cases ht
  exact k _ (R.setV hi r) (by rw [List.length_set]) fun j hj => List.getElem?_set_ne (fun z => hj (by rw [z]; exact List.mem_singleton.mpr rfl))
theorem gs_nil : DGs X B [] [] [] := by
  refine pgs_imp pgs_nil fun vs σ H Q h => ?_
  obtain ⟨fr, Hv, ds, R, r, hl, k⟩ := h
  have e : ds = [] := List.eq_nil_of_length_eq_zero hl
  subst e
  exact ⟨r.nil_inv, k σ R rfl fun _ _ => rfl⟩
theorem gs_cons {i : Nat} {x : Str} {es : List Expr} {is js : List Nat} (hi : i ∉ B.M) (nd : X.N.Nodup) (ht : DGs X B es is js) (hN : X.N[i]? = some x := by rfl) (hx : Loc X.env.scope x := by first | exact Or.inl rfl | exact Or.inr rfl)
    (hf : X.fn x = true ∨ X.env.scope.names.lookup x = some .local := by first | exact .inl rfl | exact .inr rfl | assumption)
    (hs : (assignEach (.Name x pos :: es) X.env).map (·.2) = assign (.Name x pos) X.env :: (assignEach es X.env).map (·.2) := by rfl) : DGs X B (.Name x pos :: es) (i :: is) (i :: js) := by
  refine pgs_imp (pgs_cons (pg_name nd hN hx hf) ht hs) fun vs σ H Q h => ?_
  obtain ⟨fr, Hv, ds, R, r, hl, k⟩ := h
  cases ds with
  | nil => cases hl
  | cons d ds =>
    obtain ⟨v, t, rfl, h1, h2⟩ := r.cons_inv
    refine ⟨v, t, rfl, fr.set i (some d), Hv, ds, R.setV hi h1, h2, by simpa using hl, fun σ' R' hl' ho => k σ' R' (by rw [hl', List.length_set]) fun j hj => ?_⟩
    rw [List.mem_cons, not_or] at hj
    rw [ho j hj.2, List.getElem?_set_ne (Ne.symm hj.1)]
theorem g_tup {es : List Expr} {k : Nat} {is : List Nat} (hc : X.calm = true) (h : DGs X B es is is) (hK : X.K = B.G.K := by rfl) (hn : (assignEach es X.env).length = is.length := by rfl) (hst : (assignEach es X.env).findIdx? (·.1) = none := by rfl) : DG X B (.Tuple es k pos) is (tgT is) := by
  refine ⟨?_, tgT_ok⟩
  refine pg_imp (pg_tup hc h hn hst) fun v σ H Q hh => ?_
  obtain ⟨fr, Hv, d, fr', R, r, ht, k⟩ := hh
  unfold tgT at ht
  split at ht
  · split at ht
    · next hl =>
      cases ht
      obtain ⟨a, vs, rfl, q, rl⟩ := Rep.tup_inv r
      exact ⟨a, vs, rfl, by rw [hK]; exact R.sub.sqt q, by rw [rl.length]; exact hl, fr, Hv, _, R, rl, hl, k⟩
    · cases ht
  · cases ht
end
abbrev Iv := Fr → Res Fr (List D)
structure DWalk (B : Bd) (J : It) (ds : List D) (Hv1 : Hp) : Prop where
  ex : ∃ (S : Hp → Prop) (Y : Nat → Hp → V → Hp → Prop), Walk J ds.length S Y ∧ (∀ H' Hv', Sub Hv1 Hv' → Sub Hv' H' → S H') ∧
    (∀ i H' Hv' x H'', i < ds.length → Sub Hv1 Hv' → Sub Hv' H' → Y i H' x H'' → ∃ d, ds[i]? = some d ∧ ((H'' = H' ∧ Rep B.G Hv' d x) ∨ (∃ T es vs, d = .tup es ∧ x = .ref T ∧ H' T = none ∧ H'' = upd H' T (.tup vs) ∧ RepL B.G Hv' es vs)))
def PostI (B : Bd) (W : WX) (fr : Fr) (σ : L2.St) (H Hv : Hp) (r : Res Fr (List D)) (R : It → Hp → Prop) : Prop :=
  match r with
  | .ok ds fr1 => ∀ J H1 Hv1, Nxt B fr σ H Hv fr1 H1 Hv1 → DWalk B J ds Hv1 → R J H1
  | .exc c fs fr' => ∀ dd H' Hv', Nxt B fr σ H Hv fr' H' Hv' → ExcAt B.G H' Hv' c fs dd → W (.ref (B.G.ecls c)) (some dd) σ H'
  | .bad => False
def dTI (B : Bd) (W : WX) (h : Iv) : TI := fun σ H R => ∃ fr Hv, Rel B fr σ H Hv ∧ PostI B W fr σ H Hv (h fr) R
def DI (X : Cx) (B : Bd) (W : WX) (tg iter : Expr) (h : Iv) : Prop := PI X tg iter (dTI B W h)
theorem pi_imp {X : Cx} {tg iter : Expr} {t t' : TI} (h : PI X tg iter t) (i : ∀ σ H R, t' σ H R → t σ H R) : PI X tg iter t' := ⟨fun pins s σ H R I hw => h.run pins s σ H R I (i σ H R hw)⟩
/-- a list, a tuple, a text -/
def iSeq (K : PySem.W.Frag) (tl : TE) : TI := fun σ H R => tl σ H fun x H1 => (∃ a, x = .ref a ∧ (∃ xs, SqL K H1 a xs) ∧ R (Itl K a) H1) ∨ (∃ a, x = .ref a ∧ (∃ xs, SqT K H1 a xs) ∧ R (Itt K a) H1) ∨ (∃ z, x = .str z ∧ R (Its z) H1)
theorem pi_seq {X : Cx} {tg l : Expr} {tl : TE} (hl : PE X l tl) : PI X tg l (iSeq X.K tl) := by
  refine ⟨fun pins s σ H R I h => ?_⟩
  refine thn (hl.run pins s σ H _ I h) fun v s1 ⟨x, H1, I1, r1, q1⟩ => ?_
  rcases q1 with ⟨a, e, ⟨xs, hq⟩, q⟩ | ⟨a, e, ⟨xs, hq⟩, q⟩ | ⟨z, e, q⟩
  · subst e
    cases r1
    obtain ⟨its, rv, p, hz⟩ := I1.list hq
    refine wpAny_pyIter_list p.isList ?_
    refine ⟨s1.heap.objs.size, [s1.heap.objs.size], _, _, H1, rfl, I1.kept (t' := s1.toks) fun b o e => Heap.get?_push_of_some _ e, turn_list a _, ⟨_, Heap.get?_push_size _ rfl, rfl, rfl⟩, fun b hb => ?_, q⟩
    have e : b = s1.heap.objs.size := by simpa using hb
    subst e
    exact I1.fpOk (Nat.le_refl _) (I1.hok.fresh (Nat.le_refl _))
  · subst e
    cases r1
    obtain ⟨its, rv, p, hz⟩ := I1.tuple hq
    refine wpAny_pyIter_tuple (show s1.heap.IsTuple a its.toArray from p) ?_
    refine ⟨s1.heap.objs.size, [s1.heap.objs.size], _, _, H1, rfl, I1.kept (t' := s1.toks) fun b o e => Heap.get?_push_of_some _ e, turn_tuple a _, ⟨_, Heap.get?_push_size _ rfl, rfl, rfl⟩, fun b hb => ?_, q⟩
    have e : b = s1.heap.objs.size := by simpa using hb
    subst e
    exact I1.fpOk (Nat.le_refl _) (I1.hok.fresh (Nat.le_refl _))
  · subst e
    obtain ⟨t, rfl⟩ := r1
    cases ha : z.cps.all (· < 128)
    · exact wpAny_pyIter_wide ha (pi_one (tk := s1.toks) I1 _ (turn_str _ z t "str_iterator" (.inr rfl)) ⟨_, Heap.get?_push_size _ rfl, rfl, rfl⟩ q)
    · exact wpAny_pyIter_ascii ha (pi_one (tk := s1.toks) I1 _ (turn_str _ z t "str_ascii_iterator" (.inl rfl)) ⟨_, Heap.get?_push_size _ rfl, rfl, rfl⟩ q)
def chars (z : Str) : List D := z.cps.toList.map fun c => .str ⟨#[c]⟩
def seqD : D → Option (List D)
  | .lst ds => some ds
  | .tup ds => some ds
  | .scr ns => some (ns.map D.int)
  | .str z => some (chars z)
  | _ => none
def iVal (f : Ev) : Iv := fun fr => (f fr).bind fun d fr1 => if pers d = true then (match seqD d with
  | some ds => .ok ds fr1
  | none => .bad) else .bad
section
variable {B : Bd} {Hv1 : Hp} {ds es : List D}
theorem repl_at (s : RepL B.G Hv1 ds vs) {i : Nat} (hi : i < ds.length) {x : V} (e : vs[i]? = some x) {Hv' : Hp} (h : Sub Hv1 Hv') : ∃ d, ds[i]? = some d ∧ Rep B.G Hv' d x := by
  obtain ⟨d, h1, h2⟩ := s.getV e
  exact ⟨d, h1, Rep.mono h _ _ h2⟩
theorem dwalk_list {a : Addr} {vs : List V} (q : Hv1 a = some (.lst vs)) (r : RepL B.G Hv1 ds vs) : DWalk B (Itl B.G.K a) ds Hv1 := by
  refine ⟨_, _, by rw [← r.length]; exact walk_list, fun H' Hv' s1 s2 => SqL.of (s2 _ _ (s1 _ _ q)), fun i H' Hv' x H'' hi s1 s2 y => ?_⟩
  obtain ⟨e, y⟩ := y
  obtain ⟨d, h1, h2⟩ := repl_at r hi y s1
  exact ⟨d, h1, .inl ⟨e, h2⟩⟩
theorem dwalk_tup {a : Addr} {vs : List V} (q : SqT B.G.K Hv1 a vs) (r : RepL B.G Hv1 ds vs) : DWalk B (Itt B.G.K a) ds Hv1 := by
  refine ⟨_, _, by rw [← r.length]; exact walk_tup, fun H' Hv' s1 s2 => s2.sqt (s1.sqt q), fun i H' Hv' x H'' hi s1 s2 y => ?_⟩
  obtain ⟨e, y⟩ := y
  obtain ⟨d, h1, h2⟩ := repl_at r hi y s1
  exact ⟨d, h1, .inl ⟨e, h2⟩⟩
theorem dwalk_scr {a : Addr} {ns : List Int} (q : SqL B.G.K Hv1 a (ns.map V.int)) : DWalk B (Itl B.G.K a) (ns.map D.int) Hv1 := by
  have w := walk_list (K := B.G.K) (a := a) (xs := ns.map V.int)
  rw [List.length_map] at w
  refine ⟨_, _, by rw [List.length_map]; exact w, fun H' Hv' s1 s2 => s2.sql (s1.sql q), fun i H' Hv' x H'' hi s1 s2 y => ?_⟩
  obtain ⟨e, y⟩ := y
  rw [List.getElem?_map] at y
  cases hn : ns[i]? with
  | none => rw [hn] at y; cases y
  | some n =>
    rw [hn] at y
    cases y
    exact ⟨.int n, by rw [List.getElem?_map, hn]; rfl, .inl ⟨e, Rep.int_iff.mpr rfl⟩⟩
theorem dwalk_str {z : Str} : DWalk B (Its z) (chars z) Hv1 := by
  refine ⟨_, _, by rw [show (chars z).length = z.cps.size by simp [chars]]; exact walk_str, fun _ _ _ _ => trivial, fun i H' Hv' x H'' hi s1 s2 y => ?_⟩
  obtain ⟨e, c, hc, rfl⟩ := y
  refine ⟨.str ⟨#[c]⟩, ?_, .inl ⟨e, Rep.str_iff.mpr rfl⟩⟩
  unfold chars
  rw [List.getElem?_map, Array.getElem?_toList, hc]
  rfl
end
section
variable {X : Cx} {B : Bd} {W : WX} {tg a b : Expr} {f g : Ev} {p pos : Pos}
theorem i_val (ha : DE X B W a f) (hK : X.K = B.G.K := by rfl) : DI X B W tg a (iVal f) := by
  refine pi_imp (pi_seq ha) fun σ H R h => ?_
  obtain ⟨fr, Hv, Rl, h⟩ := h
  refine ⟨fr, Hv, Rl, ?_⟩
  unfold iVal at h
  cases hf : f fr with
  | bad => rw [hf] at h; exact h.elim
  | exc c fs fr1 => rw [hf] at h; exact h
  | ok d fr1 =>
    rw [hf] at h
    dsimp only [Res.bind] at h
    intro v H1 Hv1 n rw1
    split at h
    · next hp =>
      have r := rw1.rep fun i z => by rw [z] at hp; cases hp
      cases d with
      | lst ds =>
        obtain ⟨x, vs, rfl, q, rl⟩ := Rep.lst_inv r
        exact .inl ⟨x, rfl, ⟨vs, SqL.of (n.rel.sub _ _ q)⟩, by rw [hK]; exact h _ H1 Hv1 n (dwalk_list q rl)⟩
      | tup ds =>
        obtain ⟨x, vs, rfl, q, rl⟩ := Rep.tup_inv r
        exact .inr (.inl ⟨x, rfl, ⟨vs, by rw [hK]; exact n.rel.sub.sqt q⟩, by rw [hK]; exact h _ H1 Hv1 n (dwalk_tup q rl)⟩)
      | scr ns =>
        obtain ⟨x, rfl, q⟩ := Rep.scr_inv r
        exact .inl ⟨x, rfl, ⟨_, by rw [hK]; exact n.rel.sub.sql q⟩, by rw [hK]; exact h _ H1 Hv1 n (dwalk_scr q)⟩
      | str z =>
        rw [Rep.str_iff.mp r]
        exact .inr (.inr ⟨z, rfl, h _ H1 Hv1 n dwalk_str⟩)
      | _ => exact h.elim
    · exact h.elim
end
end KS
namespace KS
open PySem PySem.Spec L2 PyProof.Rows
set_option maxHeartbeats 1000000 in
theorem meets_enumerate_new1 {v : Value} {o : Obj} {H : Heap → Prop} (B : Begins v o H) :
    Meets (Builtin.«enumerate.__new__» ⟨[.type "enumerate", v], []⟩) (fun _ R s => H s.heap ∧
      R (.ok (.ret (.ref (s.heap.push o).objs.size))) { s with heap := (s.heap.push o).push { cls := .type "enumerate", data := .fields #[.none, .bool false, .ref s.heap.objs.size, rawInt 0, .none, .none] } }) :=
  .of_wp fun prog w A R s h => by
    obtain ⟨hp, g, d, tk, os⟩ := s; obtain ⟨h1, h⟩ := h
    have hsub := sub_enumerate
    have q1 : ∀ {A' : Around} {E : Value → Shared → Prop} {Q : Value → Shared → Prop}, Q (.ref hp.objs.size) ⟨hp.push o, g, d, tk, os⟩ → wpAny (model prog w) A' (pyIter v) Q E ⟨hp, g, d, tk, os⟩ :=
      fun q => B.iter prog w _ _ ⟨hp, g, d, tk, os⟩ _ h1 q
    wp_walk using q1
    refine wpAny_stack_any fun st => wpAny_pure ?_
    split
    · rename_i c _ _ _ _ _
      cases (c == Value.type "enumerate")
      · wp_walk using q1
        exact ⟨_, rfl, h⟩
      · wp_walk using q1
        exact ⟨_, rfl, h⟩
    · wp_walk using q1
      exact ⟨_, rfl, h⟩
theorem enum_begins1 {prog : Program} {w : World} {A : Around} {E : Value → Shared → Prop} {s : Shared} {v : Value} {o : Obj} {H : Heap → Prop} {Q : Value → Shared → Prop} (B : Begins v o H) (h1 : H s.heap)
    (h : ∀ h', IsEnum h' (s.heap.objs.size + 1) s.heap.objs.size 0 .none → h'.get? s.heap.objs.size = some o → h'.objs.size = s.heap.objs.size + 2 →
      (∀ b o, s.heap.get? b = some o → h'.get? b = some o) → Q (.ref (s.heap.objs.size + 1)) { s with heap := h' }) :
    wpAny (model prog w) A (call (.type "enumerate") [v]) Q E s := by
  refine callType_new F.called_enumerate (by decide) (F.typeCall_enumerate_1 _) (F.newCall_enumerate_1 _) (fun obj => F.args_object_init_2 obj _) F.entry_enumerate_new
    (meets_enumerate_new1 B) ⟨h1, ?_⟩
  have hz : (s.heap.push o).objs.size = s.heap.objs.size + 1 := Heap.size_push ..
  show _ ∧ _
  rw [hz]
  have he : IsEnum ((s.heap.push o).push { cls := .type "enumerate", data := .fields #[.none, .bool false, .ref s.heap.objs.size, rawInt 0, .none, .none] }) (s.heap.objs.size + 1) s.heap.objs.size 0 .none := by
    have := Heap.get?_push_size (s.heap.push o) (o := { cls := .type "enumerate", data := .fields #[.none, .bool false, .ref s.heap.objs.size, rawInt 0, .none, .none] }) rfl
    rw [hz] at this; exact this
  refine ⟨⟨_, he, rfl⟩, h _ he (Heap.get?_push_of_some _ (Heap.get?_push_size _ B.free)) (by rw [Heap.size_push, hz]) fun b o x => Heap.get?_push_of_some _ (Heap.get?_push_of_some _ x)⟩
/-- the tuple at a, each item in a new pair -/
def IteT (K : PySem.W.Frag) (a : Addr) : It :=
  ⟨fun i H => ∃ (xs : List V) (x : V), SqT K H a xs ∧ xs[i]? = some x, fun i H v H' => ∃ T x, v = .ref T ∧ H T = none ∧ H' = upd H T (.tup [.int (i : Nat), x]) ∧ ∀ xs, SqT K H a xs → xs[i]? = some x, fun i H => ∃ xs : List V, SqT K H a xs ∧ xs.length ≤ i⟩
theorem walk_enumT {K : PySem.W.Frag} {a : Addr} {xs : List V} : Walk (IteT K a) xs.length (fun H => SqT K H a xs) (YPair (fun i => some (.int (i : Nat))) (fun i => xs[i]?)) := by
  refine ⟨fun i _ hi q => ⟨xs, xs[i], q, by simp [hi]⟩, fun _ q => ⟨xs, q, Nat.le_refl _⟩, fun i H v H' _ q y => ?_⟩
  obtain ⟨T, x, h1, h2, h3, h4⟩ := y
  exact ⟨T, .int (i : Nat), x, h1, h2, h3, rfl, h4 xs q⟩
theorem turn_enumT {P : Program} {w : World} {K : PySem.W.Frag} {elts : List Expr} {kk : Nat} {tpos : Pos} (a e it : Addr) :
    Turn P w K (.Tuple elts kk tpos) (IteT K a) [e, it] e (fun i h => (∃ old, IsEnum h e it ((i : Nat) : Int) old) ∧ h.IsTupleIter it a i ∧ e ≠ it ∧ a ≠ it ∧ e ≠ a) where
  mem := by simp
  obj := fun i h st b hb => by
    obtain ⟨⟨old, he⟩, ⟨o, ho, hc, hd⟩, _⟩ := st
    have e' : b = e ∨ b = it := by simpa using hb
    rcases e' with z | z
    · rw [z]; exact ⟨_, he, fun v q => nomatch q⟩
    · rw [z]; exact ⟨o, ho, fun v q => by rw [hd] at q; cases q⟩
  keep := fun i h h' st k => let ⟨⟨old, he⟩, hi, hne⟩ := st; ⟨⟨old, k e (by simp) _ he⟩, hi.at fun o q => k it (by simp) o q, hne⟩
  item := by
    intro X hP hw hK hc i pins s σ H E I hf st hg
    subst hP hw hK
    obtain ⟨⟨old, he⟩, hit, hne, hat, hea⟩ := st
    obtain ⟨xs, x, hq, hx⟩ := hg
    obtain ⟨its, rv, p, hz⟩ := I.tuple hq
    obtain ⟨u, hu, ru⟩ := rv.get hx
    have hel : e < s.heap.objs.size := Heap.lt_size he
    have hil : it < s.heap.objs.size := by obtain ⟨_, q, _⟩ := hit; exact Heap.lt_size q
    have hlen := rv.length
    have hi : i < its.toArray.size := by
      have := (List.getElem?_eq_some_iff.mp hu).1
      simpa using this
    refine wpAny_pyNext_enum_itemD (Draws.tuple (show X.A.in1.handled = none from (I.ok.hd hc)) it a hat its.toArray) he ⟨hit, show s.heap.IsTuple a its.toArray from p⟩ hi hne (by simp [hne, hea]) fun y h' tk hPy ho hit' hT hsz hk => ?_
    have ey : y = u := by
      have : its.toArray[i]? = some y := hPy
      rw [show its.toArray[i]? = its[i]? by simp, hu] at this
      exact (Option.some.inj this).symm
    subst ey
    refine ⟨_, rfl, wpAny_letOwnedTupleGo_enum (s := { s with heap := h', toks := tk + 1 }) ho fun h'' he' sb => ?_⟩
    have hT2 : h''.get? s.heap.objs.size = some { cls := .type "tuple", data := .seq #[.int i tk, y] } := (sb.2 _ (Nat.ne_of_gt hel)).trans hT
    have new : ObjOk X.prog X.w (upd H s.heap.objs.size (.tup [.int (i : Nat), x])) h'' s.heap.objs.size (.tup [.int (i : Nat), x]) :=
      ⟨by show 2 ≤ sizeLine; decide, [.int i tk, y], .cons ⟨_, rfl⟩ (.cons ru .nil), ⟨_, hT2, rfl, _, rfl⟩⟩
    have I1 : Inv X pins σ (upd H s.heap.objs.size (.tup [.int (i : Nat), x])) { s with heap := h'', toks := tk + 1 } :=
      I.turnedNew (ch := [e, it]) (fun b ob hb q => (sb.2 b (fun z => hb (by simp [z]))).trans (hk b ob (fun z => hb (by simp [z])) (fun z => hb (by simp [z])) q)) hf (Nat.le_refl _) new
    refine ⟨.ref s.heap.objs.size, _, I1, rfl, ⟨_, x, rfl, I.hok.fresh (Nat.le_refl _), rfl, fun ys hy => by rw [I.tuple_inj hy hq]; exact hx⟩, ⟨⟨y, ?_⟩, hit'.1.at fun o q => (sb.2 it (Ne.symm hne)).trans q, hne, hat, hea⟩, fun b hb => ?_⟩
    · have e1 : ((i + 1 : Nat) : Int) = (i : Int) + 1 := by omega
      rw [e1]; exact he'
    · have hb' : b < s.heap.objs.size := by
        have e' : b = e ∨ b = it := by simpa using hb
        rcases e' with z | z
        · rw [z]; exact hel
        · rw [z]; exact hil
      rw [upd_ne (Nat.ne_of_lt hb')]
      exact (hf b hb).1
  done := by
    intro X hP hw hK hc i pins s σ H E I hf st hg
    subst hP hw hK
    obtain ⟨⟨old, he⟩, hit, hne, hat, hea⟩ := st
    obtain ⟨xs, hq, hx⟩ := hg
    obtain ⟨its, rv, p, hz⟩ := I.tuple hq
    obtain ⟨f0, f1, f2, f3, f4, f5⟩ := hf it (by simp)
    have hl := rv.length
    have hT : s.TypeIs (.ref e) "enumerate" := ⟨_, he, rfl⟩
    unfold pyNext
    refine wpAny_bind (wpAny_attempt (wpAny_callSpecial?_slot (name := Str.ofString "__next__") hT F.slot_enumerate_next
      (wpAny_call_entry F.slot_enumerate_next hT F.entry_enumerate_next ?_ (F.args_enumerate_next_1 _))))
    show wpAny _ _ (field (.ref e) 2 >>= _) _ _ _
    refine wpAny_bind (wpAny_field he rfl (x := .ref it) rfl ?_)
    refine wpAny_bind (wpAny_nextOf_tuple_end (show X.A.in1.handled = none from I.ok.hd hc) hit (show s.heap.IsTuple a its.toArray from p) (by simp; omega) fun h' x he' hx' => ?_)
    obtain ⟨o, ho, hc'⟩ := hx'
    refine wpAny_bind (wpAny_isInstance (T := "StopIteration") (b := true) ⟨o, ho, hc'⟩ isSubtype_stop ?_)
    exact wpAny_pure ⟨rfl, I.turned (t' := s.toks) (fun b o hb q => he' b o hb q) f0 f1 f3 f4 f5⟩
  self := fun A i s Q E st h => let ⟨⟨_, he⟩, _⟩ := st; wpAny_pyIter_enum he h
def iEnumA (K : PySem.W.Frag) (ta : TA) : TI := fun σ H R => ta σ H fun vs H1 => ∃ a xs, vs = [.ref a] ∧ ((SqL K H1 a xs ∧ R (Ite K a) H1) ∨ (SqT K H1 a xs ∧ R (IteT K a) H1))
theorem pi_enumA {X : Cx} {e : Expr} {ta : TA} {p pos tpos : Pos} {elts : List Expr} {kk : Nat} (hg : Gl X "enumerate") (hm : X.mg "enumerate" = none) (ha : PA X [e] ta) (hs : starEach [e] X.env = [(false, eval e X.env)] := by rfl) :
    PI X (.Tuple elts kk tpos) (.Call (.Name "enumerate" p) [e] [] pos) (iEnumA X.K ta) := by
  refine ⟨fun pins s σ H R I h => ?_⟩
  refine Call_ (ld_blt I hg hm boot_enumerate (PyProof.Rows.callWith_type1 (thn (ha.run pos pins s σ H _ I h) fun us s1 ⟨vs, H1, I1, r1, q1⟩ => ?_) hs rfl))
  obtain ⟨a, xs, ex, q1⟩ := q1
  subst ex
  cases r1 with
  | cons r rr =>
    cases rr
    cases r
    have fp : ∀ b ∈ [s1.heap.objs.size + 1, s1.heap.objs.size], FpOk X pins H1 b := fun b hb => by
      have e' : b = s1.heap.objs.size + 1 ∨ b = s1.heap.objs.size := by simpa using hb
      have hle : s1.heap.objs.size ≤ b := by
        rcases e' with z | z
        · rw [z]; exact Nat.le_add_right _ _
        · rw [z]; exact Nat.le_refl _
      exact I1.fpOk hle (I1.hok.fresh hle)
    rcases q1 with ⟨hq, q⟩ | ⟨hq, q⟩
    · obtain ⟨its, rv, p', hz⟩ := I1.list hq
      refine call_enumerate_list p'.isList fun h' he hit hsz hk => wpAny_pyIter_enum he ?_
      have I2 : Inv X pins σ H1 { s1 with heap := h' } := I1.kept (t' := s1.toks) hk
      exact ⟨s1.heap.objs.size + 1, [s1.heap.objs.size + 1, s1.heap.objs.size], _, _, H1, rfl, I2, turn_enum a (s1.heap.objs.size + 1) s1.heap.objs.size, ⟨⟨.none, he⟩, hit, Nat.succ_ne_self _⟩, fp, q⟩
    · obtain ⟨its, rv, p', hz⟩ := I1.tuple hq
      have pt : s1.heap.IsTuple a its.toArray := p'
      have al : a < s1.heap.objs.size := by obtain ⟨_, z, _⟩ := pt; exact Heap.lt_size z
      refine enum_begins1 (begins_tuple a its.toArray) pt fun h' he hit hsz hk => wpAny_pyIter_enum he ?_
      have I2 : Inv X pins σ H1 { s1 with heap := h' } := I1.kept (t' := s1.toks) hk
      exact ⟨s1.heap.objs.size + 1, [s1.heap.objs.size + 1, s1.heap.objs.size], _, _, H1, rfl, I2, turn_enumT a (s1.heap.objs.size + 1) s1.heap.objs.size, ⟨⟨.none, he⟩, ⟨_, hit, rfl, rfl⟩, Nat.succ_ne_self _, Nat.ne_of_lt al, Nat.ne_of_gt (Nat.lt_succ_of_lt al)⟩, fp, q⟩
end KS
namespace KS
open PySem PySem.Spec L2
def okI (j : Int) : Bool := decide (-(2 ^ 62) ≤ j ∧ j < 2 ^ 62)
def rangeD (i : Int) (n : Nat) : List D := (List.range n).map fun k => .int (i + (k : Nat))
def iRg1 (f : Ev) : Iv := fun fr => (f fr).bind fun d fr1 => match look fr1 d with
  | some (.int j) => if okI j = true then .ok (rangeD 0 j.toNat) fr1 else .bad
  | _ => .bad
def iRg2 (f g : Ev) : Iv := fun fr => (f fr).bind fun d fr1 => (g fr1).bind fun e fr2 => match look fr2 d, look fr2 e with
  | some (.int i), some (.int j) => if okI i = true then (if okI j = true then .ok (rangeD i (j - i).toNat) fr2 else .bad) else .bad
  | _, _ => .bad
def iotaD (ds : List D) : List D := ds.zipIdx.map fun p => .tup [.int (p.2 : Nat), p.1]
def iEn (f : Ev) : Iv := fun fr => (f fr).bind fun d fr1 => if pers d = true then (match d with
  | .lst ds => .ok (iotaD ds) fr1
  | .tup ds => .ok (iotaD ds) fr1
  | _ => .bad) else .bad
section
variable {B : Bd} {Hv1 : Hp}
theorem dwalk_range {lo : Int} {n : Nat} : DWalk B (Itr lo n) (rangeD lo n) Hv1 := by
  refine ⟨_, _, by rw [show (rangeD lo n).length = n by simp [rangeD]]; exact walk_range, fun _ _ _ _ => trivial, fun i H' Hv' x H'' hi s1 s2 y => ?_⟩
  obtain ⟨e, rfl⟩ := y
  have hi' : i < n := by simpa [rangeD] using hi
  refine ⟨.int (lo + i), ?_, .inl ⟨e, Rep.int_iff.mpr rfl⟩⟩
  unfold rangeD
  rw [List.getElem?_map, List.getElem?_range hi']
  rfl
theorem iota_len {ds : List D} : (iotaD ds).length = ds.length := by simp [iotaD]
theorem iota_get {ds : List D} {i : Nat} {d : D} (h : ds[i]? = some d) : (iotaD ds)[i]? = some (.tup [.int (i : Nat), d]) := by
  unfold iotaD
  rw [List.getElem?_map, List.getElem?_zipIdx, h]
  simp
theorem dwalk_enum {a : Addr} {ds : List D} {vs : List V} {J : It} {S : Hp → Prop} (w : Walk J vs.length S (YPair (fun i => some (.int (i : Nat))) (fun i => vs[i]?))) (hS : ∀ H' Hv', Sub Hv1 Hv' → Sub Hv' H' → S H') (r : RepL B.G Hv1 ds vs) : DWalk B J (iotaD ds) Hv1 := by
  refine ⟨S, _, by rw [iota_len, ← r.length]; exact w, hS, fun i H' Hv' x H'' hi s1 s2 y => ?_⟩
  obtain ⟨T, u, v, rfl, hT, rfl, e1, e2⟩ := y
  have e1 : some (V.int ((i : Nat) : Int)) = some u := e1
  cases e1
  obtain ⟨d, h1, h2⟩ := r.getV e2
  exact ⟨_, iota_get h1, .inr ⟨T, _, _, rfl, rfl, hT, rfl, .cons (Rep.int_iff.mpr rfl) (.cons (Rep.mono s1 _ _ h2) .nil)⟩⟩
end
theorem okI_spec {j : Int} (h : okI j = true) : -(2 ^ 62) ≤ j ∧ j < 2 ^ 62 := by simpa [okI] using h
section
variable {X : Cx} {B : Bd} {W : WX} {tg a b : Expr} {f g : Ev} {p pos : Pos}
theorem i_range1 (ha : DE X B W a f) (hm : X.mg "range" = none) (hg : Gl X "range" := by rfl) (he : starEach [a] X.env = (false, eval a X.env) :: starEach [] X.env := by rfl) (hs : starEach [a] X.env = [(false, eval a X.env)] := by rfl) : DI X B W tg (.Call (.Name "range" p) [a] [] pos) (iRg1 f) := by
  refine pi_imp (pi_range1 hg hm (pa_cons ha pa_nil he) hs) fun σ H R h => ?_
  obtain ⟨fr, Hv, Rl, h⟩ := h
  refine ⟨fr, Hv, Rl, ?_⟩
  unfold iRg1 at h
  cases hf : f fr with
  | bad => rw [hf] at h; exact h.elim
  | exc c fs fr1 => rw [hf] at h; exact h
  | ok d fr1 =>
    rw [hf] at h
    dsimp only [Res.bind] at h
    intro v H1 Hv1 n rw1
    split at h
    · next j hl =>
      split at h
      · next c =>
        obtain ⟨c1, c2⟩ := okI_spec c
        rw [n.rel.int_of rw1 hl]
        exact ⟨j, rfl, c1, c2, h _ H1 Hv1 n dwalk_range⟩
      · exact h.elim
    · exact h.elim
theorem i_range2 (ha : DE X B W a f) (hb : DE X B W b g) (hm : X.mg "range" = none) (hg : Gl X "range" := by rfl) (he2 : starEach [b] X.env = (false, eval b X.env) :: starEach [] X.env := by rfl) (he : starEach [a, b] X.env = (false, eval a X.env) :: starEach [b] X.env := by rfl)
    (hs : starEach [a, b] X.env = [(false, eval a X.env), (false, eval b X.env)] := by rfl) (hs2 : starEach [b] X.env = [(false, eval b X.env)] := by rfl) : DI X B W tg (.Call (.Name "range" p) [a, b] [] pos) (iRg2 f g) := by
  refine pi_imp (pi_range2 hg hm (pa_cons ha (pa_cons hb pa_nil he2) he) hs hs2) fun σ H R h => ?_
  obtain ⟨fr, Hv, Rl, h⟩ := h
  refine ⟨fr, Hv, Rl, ?_⟩
  unfold iRg2 at h
  cases hf : f fr with
  | bad => rw [hf] at h; exact h.elim
  | exc c fs fr1 => rw [hf] at h; exact h
  | ok d fr1 =>
    rw [hf] at h
    dsimp only [Res.bind] at h
    intro v H1 Hv1 n rw1
    refine ⟨fr1, Hv1, n.rel, ?_⟩
    cases hf2 : g fr1 with
    | bad => rw [hf2] at h; exact h.elim
    | exc c fs fr2 =>
      rw [hf2] at h
      exact fun dd H' Hv' m => h dd H' Hv' (n.trans m)
    | ok e fr2 =>
      rw [hf2] at h
      dsimp only at h
      intro v2 H2 Hv2 n2 rw2
      split at h
      · next i j hl hl2 =>
        split at h
        · next c =>
          split at h
          · next c' =>
            obtain ⟨c1, c2⟩ := okI_spec c
            obtain ⟨c3, c4⟩ := okI_spec c'
            rw [n2.rel.int_of (rw1.mono n2.ext) hl, n2.rel.int_of rw2 hl2]
            exact ⟨i, j, rfl, ⟨c1, c2, c3, c4⟩, h _ H2 Hv2 (n.trans n2) dwalk_range⟩
          · exact h.elim
        · exact h.elim
      · exact h.elim
theorem i_enum {elts : List Expr} {kk : Nat} {tpos : Pos} (ha : DE X B W a f) (hm : X.mg "enumerate" = none) (hK : X.K = B.G.K := by rfl) (hg : Gl X "enumerate" := by rfl) (he : starEach [a] X.env = (false, eval a X.env) :: starEach [] X.env := by rfl) (hs : starEach [a] X.env = [(false, eval a X.env)] := by rfl) :
    DI X B W (.Tuple elts kk tpos) (.Call (.Name "enumerate" p) [a] [] pos) (iEn f) := by
  refine pi_imp (pi_enumA hg hm (pa_cons ha pa_nil he) hs) fun σ H R h => ?_
  obtain ⟨fr, Hv, Rl, h⟩ := h
  refine ⟨fr, Hv, Rl, ?_⟩
  unfold iEn at h
  cases hf : f fr with
  | bad => rw [hf] at h; exact h.elim
  | exc c fs fr1 => rw [hf] at h; exact h
  | ok d fr1 =>
    rw [hf] at h
    dsimp only [Res.bind] at h
    intro v H1 Hv1 n rw1
    split at h
    · next hp =>
      have r := rw1.rep fun i z => by rw [z] at hp; cases hp
      cases d with
      | lst ds =>
        obtain ⟨x, vs, rfl, q, rl⟩ := Rep.lst_inv r
        exact ⟨x, vs, rfl, .inl ⟨SqL.of (n.rel.sub _ _ q), by rw [hK]; exact h _ H1 Hv1 n (dwalk_enum (a := x) walk_enum (fun H' Hv' s1 s2 => SqL.of (s2 _ _ (s1 _ _ q))) rl)⟩⟩
      | tup ds =>
        obtain ⟨x, vs, rfl, q, rl⟩ := Rep.tup_inv r
        exact ⟨x, vs, rfl, .inr ⟨by rw [hK]; exact n.rel.sub.sqt q, by rw [hK]; exact h _ H1 Hv1 n (dwalk_enum (a := x) walk_enumT (fun H' Hv' s1 s2 => s2.sqt (s1.sqt q)) rl)⟩⟩
      | _ => exact h.elim
    · exact h.elim
end
def loopF (t : Tv) (g : Sv) : List D → Sv
  | [], fr => .ok .nx fr
  | d :: ds, fr => match t d fr with
    | none => .bad
    | some fr1 => (g fr1).bind fun fl fr2 => match fl with
      | .nx => loopF t g ds fr2
      | .cnt => loopF t g ds fr2
      | .brk => .ok .nx fr2
      | .ret d => .ok (.ret d) fr2
def sFor (h : Iv) (t : Tv) (g : Sv) : Sv := fun fr => (h fr).bind fun ds fr1 => loopF t g ds fr1
section
variable {X : Cx} {B : Bd} {W : WX} {rf : Bool} {tg iter : Expr} {body : List Stmt} {is : List Nat} {t : Tv} {h : Iv} {g : Sv} {pos : Pos}
theorem s_for (hp : PassesOwn (model X.prog X.w) X.A X.env X.xe) (hc : X.calm = true) (hi : DI X B W tg iter h) (hg : DG X B tg is t) (hb : DSs X B W rf body g) (hs : ∀ x, foldedSetIterable iter X.env x = pure x := by intro _; rfl) :
    DS X B W rf (.For tg iter body [] pos) (sFor h t g) := by
  refine ps_imp (ps_for hp hc hi hg.pg hb hs) fun D σ H hh => ?_
  obtain ⟨fr, Hv, R, hh⟩ := hh
  refine ⟨fr, Hv, R, ?_⟩
  unfold sFor at hh
  cases hI : h fr with
  | bad => rw [hI] at hh; exact hh.elim
  | exc c fs fr1 =>
    rw [hI] at hh
    exact fun dd H' Hv' n e => hh dd σ H' Hv' n.rel n.ext e
  | ok ds fr1 =>
    rw [hI] at hh
    dsimp only [Res.bind] at hh
    intro J H1 Hv1 n w
    obtain ⟨S, Y, wk, hS, hY⟩ := w.ex
    refine for_it wk (fun i σ' H' => ∃ fr' Hv', Rel B fr' σ' H' Hv' ∧ Sub Hv1 Hv' ∧ PostS B W rf Hv' (loopF t g (ds.drop i) fr') D) ⟨fr1, Hv1, n.rel, .refl _, PostS.step n.ext hh⟩ (fun i σ' H' _ ⟨fr', Hv', R', s, _⟩ => hS H' Hv' s R'.sub) (fun i x σ' H' H'' hlt p y => ?_) (fun σ' H' p => ?_)
    · obtain ⟨fr', Hv', R', s, P⟩ := p
      obtain ⟨d, hd, hr⟩ := hY i H' Hv' x H'' hlt s R'.sub y
      have hdrop : ds.drop i = d :: ds.drop (i + 1) := by
        obtain ⟨hl, e⟩ := List.getElem?_eq_some_iff.mp hd
        rw [List.drop_eq_getElem_cons hl, e]
      rw [hdrop] at P
      obtain ⟨Hv2, s2, R2, r2⟩ : ∃ Hv2, Sub Hv' Hv2 ∧ Rel B fr' σ' H'' Hv2 ∧ Rep B.G Hv2 d x := by
        rcases hr with ⟨e, r⟩ | ⟨T, es, vs, rfl, rfl, hT, rfl, r⟩
        · rw [e]; exact ⟨Hv', .refl _, R', r⟩
        · have sT : Sub Hv' (upd Hv' T (.tup vs)) := (Sub.refl Hv').put (R'.hv_none hT)
          exact ⟨_, sT, R'.layV hT (fun ps z => by cases z), Rep.tup upd_same (RepL.mono sT _ _ r)⟩
      unfold loopF at P
      cases ht : t d fr' with
      | none => rw [ht] at P; exact P.elim
      | some fr2 =>
        rw [ht] at P
        dsimp only at P
        refine ⟨fr', Hv2, d, fr2, R2, r2, ht, fun σ2 R3 _ _ => ⟨fr2, Hv2, R3, ?_⟩⟩
        cases hgf : g fr2 with
        | bad => rw [hgf] at P; exact P.elim
        | exc c fs fr3 =>
          rw [hgf] at P
          exact fun dd σ' H' Hv' a b => P dd σ' H' Hv' a (s2.trans b)
        | ok fl fr3 =>
          rw [hgf] at P
          cases fl with
          | nx => exact fun σ' H' Hv' a b => ⟨fr3, Hv', a, s.trans (s2.trans b), PostS.step (s2.trans b) P⟩
          | cnt => exact fun σ' H' Hv' a b => ⟨fr3, Hv', a, s.trans (s2.trans b), PostS.step (s2.trans b) P⟩
          | brk => exact fun σ' H' Hv' a b => P σ' H' Hv' a (s2.trans b)
          | ret d => exact P
    · obtain ⟨fr', Hv', R', s, P⟩ := p
      rw [List.drop_length] at P
      exact P σ' H' Hv' R' (.refl _)
end
end KS
namespace KS
open PySem PySem.Spec L2
def wipeF (fr : Fr) : List Nat → Fr
  | [] => fr
  | v :: vs => (wipeF fr vs).set v none
def restF (fr1 fr2 : Fr) : List Nat → Fr
  | [] => fr2
  | v :: vs => (restF fr1 fr2 vs).set v (fr1[v]?).join
def compL (vs : List Nat) (t : Tv) (c : Bv) (e : Ev) : List D → Fr → Res Fr (List D)
  | [], fr => .ok [] fr
  | d :: ds, fr => match t d (wipeF fr vs) with
    | none => .bad
    | some fr1 => (c fr1).bind fun b fr2 => if b = true then ((e fr2).bind fun y fr3 => if pers y = true then ((compL vs t c e ds fr3).bind fun r fr4 => .ok (y :: r) fr4) else .bad) else compL vs t c e ds fr2
def eComp (vs : List Nat) (h : Iv) (t : Tv) (c : Bv) (e : Ev) : Ev := fun fr => (h fr).bind fun ds fr1 => if ds.length ≤ sizeLine then (match compL vs t c e ds fr1 with
  | .ok r fr2 => .ok (.lst r) (restF fr1 fr2 vs)
  | _ => .bad) else .bad
def bYes : Bv := fun fr => .ok true fr
theorem wipeF_length {fr : Fr} : ∀ {vs : List Nat}, (wipeF fr vs).length = fr.length
  | [] => rfl
  | v :: vs => by rw [wipeF, List.length_set, wipeF_length]
theorem restF_length {fr1 fr2 : Fr} : ∀ {vs : List Nat}, (restF fr1 fr2 vs).length = fr2.length
  | [] => rfl
  | v :: vs => by rw [restF, List.length_set, restF_length]
theorem wipeF_out {fr : Fr} {j : Nat} : ∀ {vs : List Nat}, j ∉ vs → (wipeF fr vs)[j]? = fr[j]?
  | [], _ => rfl
  | v :: vs, h => by
    rw [List.mem_cons, not_or] at h
    rw [wipeF, List.getElem?_set_ne (Ne.symm h.1), wipeF_out h.2]
theorem wipeF_in {fr : Fr} {j : Nat} {d : D} : ∀ {vs : List Nat}, (wipeF fr vs)[j]? = some (some d) → j ∉ vs ∧ fr[j]? = some (some d)
  | [], h => ⟨by simp, h⟩
  | v :: vs, h => by
    rw [wipeF] at h
    rcases get_set h with ⟨_, z⟩ | ⟨n, z⟩
    · cases z
    · obtain ⟨a, b⟩ := wipeF_in z
      exact ⟨by simp only [List.mem_cons, not_or]; exact ⟨n, a⟩, b⟩
theorem restF_get {fr1 fr2 : Fr} {j : Nat} {d : D} : ∀ {vs : List Nat}, (restF fr1 fr2 vs)[j]? = some (some d) → (j ∈ vs ∧ fr1[j]? = some (some d)) ∨ (j ∉ vs ∧ fr2[j]? = some (some d))
  | [], h => .inr ⟨by simp, h⟩
  | v :: vs, h => by
    rw [restF] at h
    rcases get_set h with ⟨e, z⟩ | ⟨n, z⟩
    · subst e
      refine .inl ⟨List.mem_cons_self .., ?_⟩
      cases q : fr1[j]? with
      | none => rw [q] at z; cases z
      | some o =>
        rw [q] at z
        have z : some d = o := z
        rw [z]
    · rcases restF_get z with ⟨a, b⟩ | ⟨a, b⟩
      · exact .inl ⟨List.mem_cons_of_mem _ a, b⟩
      · exact .inr ⟨by simp only [List.mem_cons, not_or]; exact ⟨n, a⟩, b⟩
theorem restF_out {fr1 fr2 : Fr} {j : Nat} : ∀ {vs : List Nat}, j ∉ vs → (restF fr1 fr2 vs)[j]? = fr2[j]?
  | [], _ => rfl
  | v :: vs, h => by
    rw [List.mem_cons, not_or] at h
    rw [restF, List.getElem?_set_ne (Ne.symm h.1), restF_out h.2]
theorem wipe_none {σ : L2.St} {j : Nat} : ∀ {vs : List Nat}, j ∈ vs → j < σ.length → (wipe σ vs)[j]? = some none
  | [], h, _ => by simp at h
  | v :: vs, h, hl => by
    rw [wipe]
    by_cases e : j = v
    · subst e
      rw [List.getElem?_set_self (by rw [wipe_length]; exact hl)]
    · rw [List.getElem?_set_ne (Ne.symm e)]
      exact wipe_none ((List.mem_cons.mp h).resolve_left e) hl
theorem wipe_eq {σ σ2 : L2.St} {vs is : List Nat} (hl : σ2.length = (wipe σ vs).length) (ho : ∀ j, j ∉ is → σ2[j]? = (wipe σ vs)[j]?) (hi : ∀ j ∈ is, j ∈ vs) : wipe σ2 vs = wipe σ vs := by
  rw [wipe_length] at hl
  refine List.ext_getElem? fun j => ?_
  by_cases hv : j ∈ vs
  · by_cases hj : j < σ.length
    · rw [wipe_none hv (by rw [hl]; exact hj), wipe_none hv hj]
    · rw [List.getElem?_eq_none (by rw [wipe_length]; omega), List.getElem?_eq_none (by rw [wipe_length]; omega)]
  · rw [wipe_out hv, ho j (fun z => hv (hi j z))]
section
variable {B : Bd} {fr fr1 fr2 : Fr} {σ : L2.St} {H H1 Hv Hv1 : Hp}
theorem Rel.wipes (R : Rel B fr σ H Hv) {vs : List Nat} (hM : ∀ v ∈ vs, v ∉ B.M) : Rel B (wipeF fr vs) (wipe σ vs) H Hv where
  sub := R.sub
  ext0 := R.ext0
  new := R.new
  keep := R.keep
  len := by rw [wipeF_length, wipe_length]; exact R.len
  val := fun j d h hm => by
    obtain ⟨a, b⟩ := wipeF_in h
    rw [wipe_out a]
    exact R.val j d b hm
  box := fun j d h hc hm => by
    obtain ⟨a, b⟩ := wipeF_in h
    rw [wipe_out a]
    exact R.box j d b hc hm
  own := fun j d h hm => by
    obtain ⟨a, b⟩ := wipeF_in h.1
    rw [wipe_out a]
    exact R.own j d ⟨b, h.2⟩ hm
  sep := fun j k a dj dk hj hk hjk e1 e2 => by
    obtain ⟨a1, b1⟩ := wipeF_in e1.1
    obtain ⟨a2, b2⟩ := wipeF_in e2.1
    rw [wipe_out a1, wipe_out a2]
    exact R.sep j k a dj dk hj hk hjk ⟨b1, e1.2⟩ ⟨b2, e2.2⟩
  io := fun p hp => by
    obtain ⟨h1, ⟨d, h2, h3⟩, h4⟩ := R.io p hp
    have n : p.1 ∉ vs := fun z => hM _ z h1
    exact ⟨h1, ⟨d, by rw [wipeF_out n]; exact h2, h3⟩, by rw [wipe_out n]; exact h4⟩
  tab := R.tab
theorem Rel.rests (R1 : Rel B fr1 σ H1 Hv1) {vs : List Nat} (R : Rel B (wipeF fr2 vs) (wipe σ vs) H Hv) (s : Sub Hv1 Hv) (hM : ∀ v ∈ vs, v ∉ B.M) : Rel B (restF fr1 fr2 vs) σ H Hv where
  sub := R.sub
  ext0 := R.ext0
  new := R.new
  keep := R.keep
  len := by
    have := R.len
    rw [wipeF_length, wipe_length] at this
    rw [restF_length]; exact this
  val := fun j d h hm => by
    rcases restF_get h with ⟨a, b⟩ | ⟨a, b⟩
    · obtain ⟨v, h1, h2⟩ := R1.val j d b hm
      exact ⟨v, h1, Rep.mono s _ _ h2⟩
    · have := R.val j d (by rw [wipeF_out a]; exact b) hm
      rwa [wipe_out a] at this
  box := fun j d h hc hm => by
    rcases restF_get h with ⟨a, b⟩ | ⟨a, b⟩
    · exact absurd hm (hM _ a)
    · have := R.box j d (by rw [wipeF_out a]; exact b) hc hm
      rwa [wipe_out a] at this
  own := fun j d h hm => by
    rcases restF_get h.1 with ⟨a, b⟩ | ⟨a, b⟩
    · exact absurd hm (hM _ a)
    · have := R.own j d ⟨by rw [wipeF_out a]; exact b, h.2⟩ hm
      rwa [wipe_out a] at this
  sep := fun j k a dj dk hj hk hjk e1 e2 => by
    rcases restF_get e1.1 with ⟨a1, b1⟩ | ⟨a1, b1⟩
    · exact absurd hj (hM _ a1)
    rcases restF_get e2.1 with ⟨a2, b2⟩ | ⟨a2, b2⟩
    · exact absurd hk (hM _ a2)
    have := R.sep j k a dj dk hj hk hjk ⟨by rw [wipeF_out a1]; exact b1, e1.2⟩ ⟨by rw [wipeF_out a2]; exact b2, e2.2⟩
    rwa [wipe_out a1, wipe_out a2] at this
  io := fun p hp => by
    obtain ⟨h1, ⟨d, h2, h3⟩, h4⟩ := R.io p hp
    have n : p.1 ∉ vs := fun z => hM _ z h1
    rw [wipeF_out n] at h2
    rw [wipe_out n] at h4
    exact ⟨h1, ⟨d, by rw [restF_out n]; exact h2, h3⟩, h4⟩
  tab := R.tab
theorem Rel.upd_free (R : Rel B fr σ H Hv) {p : Addr} {o : HO} (no : ¬ Own B fr σ p) (h0 : B.H0 p = none) (hv : Hv p = none) (ht : p ∉ B.G.tabs) : Rel B fr σ (upd H p o) Hv where
  sub := fun b u h => by
    rw [upd_ne (fun z => by rw [z, hv] at h; cases h)]
    exact R.sub b u h
  ext0 := R.ext0
  new := R.new
  keep := fun b u h hi ht => by
    rw [upd_ne (ne_of_none h h0)]
    exact R.keep b u h hi ht
  len := R.len
  val := R.val
  box := R.box
  own := fun i d hf hm => by
    obtain ⟨a, hs, hva, hn, hc⟩ := R.own i d hf hm
    have ne : a ≠ p := fun e => no (by rw [← e]; exact ⟨i, d, hm, hf, hs⟩)
    exact ⟨a, hs, hva, hn, hc.mono (.refl _) (upd_ne ne)⟩
  sep := R.sep
  io := R.io
  tab := fun P hP => by
    obtain ⟨⟨ps, e, t⟩, v⟩ := R.tab P hP
    exact ⟨⟨ps, by rw [upd_ne (fun z : P = p => ht (by rw [← z]; exact hP))]; exact e, t⟩, v⟩
end
/-- what stands at the start of a turn -/
structure CInv (B : Bd) (vs : List Nat) (σ : L2.St) (fr1 : Fr) (H1 Hv1 : Hp) (D0 : Addr) (rem : Nat) (fr' : Fr) (H Hv' : Hp) (acc : List V) (ad : List D) : Prop where
  rel : Rel B (wipeF fr' vs) (wipe σ vs) H Hv'
  sub : Sub Hv1 Hv'
  at_ : H D0 = some (.lst acc)
  rep : RepL B.G Hv' ad acc
  hv : Hv' D0 = none
  no : ∀ j d, j ∈ B.M → (fr'[j]? = some (some d) ∧ isCell d = true) → σ[j]? ≠ some (some (.ref D0))
  keep : ∀ b o, H1 b = some o → ¬ Own B fr1 σ b → b ∉ B.G.tabs → H b = some o
  shr : Shr B fr1 fr'
  alive : ∀ b o, H1 b = some o → ∃ o', H b = some o'
  newv : ∀ b o, Hv' b = some o → Hv1 b = some o ∨ NewOk H1 b o ∨ Own B fr1 σ b
  sz : ad.length + rem ≤ sizeLine
section
variable {B : Bd} {vs is : List Nat} {σ : L2.St} {fr1 : Fr} {H1 Hv1 : Hp} {t : Tv} {c : Bv} {e : Ev}
theorem lc_step {J : It} {ds : List D} {Q : VK} {r0 : List D} {fr20 : Fr} (hM : ∀ v ∈ vs, v ∉ B.M) (hi : ∀ j ∈ is, j ∈ vs) (ok : TgOk t is) (R1 : Rel B fr1 σ H1 Hv1) (w : DWalk B J ds Hv1) (hsz : ds.length ≤ sizeLine) (hc : compL vs t c e ds fr1 = .ok r0 fr20)
    (hQ : ∀ p H' Hv', Nxt B fr1 σ H1 Hv1 (restF fr1 fr20 vs) H' Hv' → H1 p = none → Hv' p = none → Cell B.G H' Hv' p (.lst r0) → Q (.ref p) H') :
    ∀ D0, H1 D0 = none → ∃ W : Nat → Nat → Hp → Prop, (∃ m, W 0 m (upd H1 D0 (.lst []))) ∧ ∀ i m H, W i m H →
      (J.stop i H ∧ Q (.ref D0) H) ∨ (J.go i H ∧ ∃ Nx : Hp → Prop, (∀ H', Nx H' → ∃ m', m' < m ∧ W (i + 1) m' H') ∧ ∀ x H', J.yld i H x H' → dTG B is t x (wipe σ vs) H' fun σ2 H2 => wipe σ2 vs = wipe σ vs ∧ dTT B (fun _ _ _ _ => False) c σ2 H2 fun b H3 =>
        if b = true then dTE B (fun _ _ _ _ => False) e σ2 H3 fun y H4 => ∃ acc, H4 D0 = some (.lst acc) ∧ acc.length < sizeLine ∧ Nx (upd H4 D0 (.lst (acc ++ [y]))) else Nx H3) := by
  intro D0 hD
  obtain ⟨S, Y, wk, hS, hY⟩ := w.ex
  have hDt : D0 ∉ B.G.tabs := fun z => by
    obtain ⟨⟨ps, q, _⟩, _⟩ := R1.tab D0 z
    rw [hD] at q; cases q
  have hD0 := R1.h0_none hD
  refine lc_it wk (fun i H => ∃ fr' Hv' acc ad r, CInv B vs σ fr1 H1 Hv1 D0 (ds.length - i) fr' H Hv' acc ad ∧ compL vs t c e (ds.drop i) fr' = .ok r fr20 ∧ ad ++ r = r0) ?_ (fun i H _ ⟨fr', Hv', acc, ad, r, I, _⟩ => hS H Hv' I.sub I.rel.sub) (fun i x H H' hlt p y => ?_) (fun H p => ?_)
  · refine ⟨fr1, Hv1, [], [], r0, ⟨(R1.lay hD).wipes hM, .refl _, upd_same, .nil, R1.hv_none hD, fun j d hj hf hs => ?_, fun b o h _ _ => by rw [upd_ne (ne_of_none h hD)]; exact h, .refl _ _, fun b o h => ⟨o, by rw [upd_ne (ne_of_none h hD)]; exact h⟩, fun b o h => .inl h, by simpa using hsz⟩, hc, rfl⟩
    obtain ⟨⟨u, hu⟩, _⟩ := R1.own_some ⟨j, d, hj, hf, hs⟩
    rw [hD] at hu; cases hu
  · obtain ⟨fr', Hv', acc, ad, r, I, hcl, har⟩ := p
    obtain ⟨d, hd, hr⟩ := hY i H Hv' x H' hlt I.sub I.rel.sub y
    have hdrop : ds.drop i = d :: ds.drop (i + 1) := by
      obtain ⟨hl, e⟩ := List.getElem?_eq_some_iff.mp hd
      rw [List.drop_eq_getElem_cons hl, e]
    rw [hdrop] at hcl
    obtain ⟨Hv2, s2, R2, r2, at2, keep2, alive2, hv2, newv2⟩ : ∃ Hv2, Sub Hv' Hv2 ∧ Rel B (wipeF fr' vs) (wipe σ vs) H' Hv2 ∧ Rep B.G Hv2 d x ∧ H' D0 = some (.lst acc) ∧ (∀ b o, H b = some o → H' b = some o) ∧ (∀ b o, H1 b = some o → ∃ o', H' b = some o') ∧ Hv2 D0 = none ∧ (∀ b o, Hv2 b = some o → Hv' b = some o ∨ H b = none) := by
      rcases hr with ⟨e, r⟩ | ⟨T, es, us, rfl, rfl, hT, rfl, r⟩
      · rw [e]; exact ⟨Hv', .refl _, I.rel, r, I.at_, fun _ _ h => h, I.alive, I.hv, fun _ _ h => .inl h⟩
      · have sT : Sub Hv' (upd Hv' T (.tup us)) := (Sub.refl Hv').put (I.rel.hv_none hT)
        have neT : D0 ≠ T := ne_of_none I.at_ hT
        refine ⟨_, sT, I.rel.layV hT (fun ps z => by cases z), Rep.tup upd_same (RepL.mono sT _ _ r), by rw [upd_ne neT]; exact I.at_, fun b o h => by rw [upd_ne (ne_of_none h hT)]; exact h, fun b o h => ?_, by rw [upd_ne neT]; exact I.hv, fun b o h => ?_⟩
        · obtain ⟨o', h'⟩ := I.alive b o h
          exact ⟨o', by rw [upd_ne (ne_of_none h' hT)]; exact h'⟩
        · by_cases eb : b = T
          · exact .inr (eb ▸ hT)
          · rw [upd_ne eb] at h; exact .inl h
    unfold compL at hcl
    cases ht : t d (wipeF fr' vs) with
    | none => rw [ht] at hcl; cases hcl
    | some fr2 =>
      rw [ht] at hcl
      dsimp only at hcl
      refine ⟨wipeF fr' vs, Hv2, d, fr2, R2, r2, ht, fun σ2 R3 hl ho => ?_⟩
      have hw := wipe_eq hl ho hi
      refine ⟨hw, fr2, Hv2, R3, ?_⟩
      -- owned slots of a later frame are those of fr'
      have back : ∀ {frx : Fr}, Shr B fr2 frx → ∀ j dd, j ∈ B.M → (frx[j]? = some (some dd) ∧ isCell dd = true) → (∃ d0, fr'[j]? = some (some d0) ∧ isCell d0 = true) ∧ σ2[j]? = σ[j]? := fun {frx} sh j dd hj hf => by
        have njv : j ∉ vs := fun z => hM j z hj
        have nji : j ∉ is := fun z => njv (hi j z)
        obtain ⟨d0, h0, h1⟩ := sh j dd hj hf
        rw [ok d _ _ ht j nji, wipeF_out njv] at h0
        exact ⟨⟨d0, h0, h1⟩, by rw [ho j nji, wipe_out njv]⟩
      have noD : ∀ {frx : Fr}, Shr B fr2 frx → ¬ Own B frx σ2 D0 := fun {frx} sh ⟨j, dd, hj, hf, hs⟩ => by
        obtain ⟨⟨d0, hd0⟩, e1⟩ := back sh j dd hj hf
        rw [e1] at hs
        exact I.no j d0 hj hd0 hs
      -- an address not owned at the start is not owned in a later frame
      have noB : ∀ {frx : Fr} {b : Addr}, Shr B fr2 frx → ¬ Own B fr1 σ b → ¬ Own B frx σ2 b := fun {frx b} sh no ⟨j, dd, hj, hf, hs⟩ => by
        obtain ⟨⟨d0, hd0⟩, e1⟩ := back sh j dd hj hf
        rw [e1] at hs
        obtain ⟨d1, hd1⟩ := I.shr j d0 hj hd0
        exact no ⟨j, d1, hj, hd1, hs⟩
      have shr' : ∀ {frx : Fr}, Shr B fr2 frx → Shr B fr1 frx := fun {frx} sh j dd hj hf => by
        obtain ⟨⟨d0, hd0⟩, _⟩ := back sh j dd hj hf
        exact I.shr j d0 hj hd0
      have nos : ∀ {frx : Fr}, Shr B fr2 frx → ∀ j dd, j ∈ B.M → (frx[j]? = some (some dd) ∧ isCell dd = true) → σ[j]? ≠ some (some (.ref D0)) := fun {frx} sh j dd hj hf hs => by
        obtain ⟨⟨d0, hd0⟩, _⟩ := back sh j dd hj hf
        exact I.no j d0 hj hd0 hs
      have nvD : ∀ {frx : Fr} {Hx Hvx : Hp}, Nxt B fr2 σ2 H' Hv2 frx Hx Hvx → Hx D0 = some (.lst acc) := fun n => n.keep D0 _ at2 (noD (.refl _ _)) hDt
      cases hcc : c fr2 with
      | bad => rw [hcc] at hcl; cases hcl
      | exc k fs fr3 => rw [hcc] at hcl; cases hcl
      | ok b fr3 =>
        rw [hcc] at hcl
        dsimp only [Res.bind] at hcl
        intro H3 Hv3 n3
        have fin : ∀ {frx : Fr} {Hx Hvx : Hp} (n : Nxt B fr2 σ2 H' Hv2 frx Hx Hvx), Hvx D0 = none ∧ Rel B (wipeF frx vs) (wipe σ vs) Hx Hvx ∧ (∀ b o, H1 b = some o → ¬ Own B fr1 σ b → b ∉ B.G.tabs → Hx b = some o) ∧ (∀ b o, H1 b = some o → ∃ o', Hx b = some o') ∧ (∀ b o, Hvx b = some o → Hv1 b = some o ∨ NewOk H1 b o ∨ Own B fr1 σ b) := fun {frx Hx Hvx} n => by
          refine ⟨?_, ?_, fun b o h no nt => n.keep b o (keep2 b o (I.keep b o h no nt)) (noB (.refl _ _) no) nt, fun b o h => ?_, fun b o h => ?_⟩
          · cases z : Hvx D0 with
            | none => rfl
            | some u =>
              rcases n.newv D0 u z with q | (q | ⟨ws, q⟩) | q
              · rw [hv2] at q; cases q
              · rw [at2] at q; cases q
              · have h1 := n.rel.sub D0 u z
                rw [nvD n, q] at h1
                cases h1
              · exact absurd q (noD (.refl _ _))
          · have := n.rel.wipes hM
            rwa [hw] at this
          · obtain ⟨o', h'⟩ := alive2 b o h
            exact n.alive b o' h'
          · rcases n.newv b o h with q | (q | q) | q
            · rcases newv2 b o q with z | z
              · exact I.newv b o z
              · refine .inr (.inl (.inl ?_))
                cases e : H1 b with
                | none => rfl
                | some u =>
                  obtain ⟨u', h'⟩ := I.alive b u e
                  rw [z] at h'; cases h'
            · refine .inr (.inl (.inl ?_))
              cases e : H1 b with
              | none => rfl
              | some u =>
                obtain ⟨u', h'⟩ := alive2 b u e
                rw [q] at h'; cases h'
            · exact .inr (.inl (.inr q))
            · by_cases ho1 : Own B fr1 σ b
              · exact .inr (.inr ho1)
              · exact absurd q (noB (.refl _ _) ho1)
        cases b with
        | false =>
          rw [if_neg Bool.false_ne_true] at hcl ⊢
          obtain ⟨f1, f2, f3, f4, f5⟩ := fin n3
          refine ⟨fr3, Hv3, acc, ad, r, ⟨f2, I.sub.trans (s2.trans n3.ext), nvD n3, RepL.mono (s2.trans n3.ext) _ _ I.rep, f1, nos n3.shp, f3, shr' n3.shp, f4, f5, ?_⟩, hcl, har⟩
          have := I.sz
          omega
        | true =>
          rw [if_pos rfl] at hcl ⊢
          refine ⟨fr3, Hv3, n3.rel, ?_⟩
          cases hee : e fr3 with
          | bad => rw [hee] at hcl; cases hcl
          | exc k fs fr4 => rw [hee] at hcl; cases hcl
          | ok dy fr4 =>
            rw [hee] at hcl
            dsimp only [Res.bind] at hcl
            intro y H4 Hv4 n4 ry
            split at hcl
            · next hp =>
              have ry := ry.rep fun i z => by rw [z] at hp; cases hp
              have n := n3.trans n4
              obtain ⟨f1, f2, f3, f4, f5⟩ := fin n
              cases hrec : compL vs t c e (ds.drop (i + 1)) fr4 with
              | bad => rw [hrec] at hcl; cases hcl
              | exc k fs fr5 => rw [hrec] at hcl; cases hcl
              | ok r1 fr5 =>
                rw [hrec] at hcl
                dsimp only at hcl
                have hcl' : dy :: r1 = r ∧ fr5 = fr20 := by
                  cases hcl
                  exact ⟨rfl, rfl⟩
                obtain ⟨h1, h2⟩ := hcl'
                subst h1 h2
                have hsz := I.sz
                have la := I.rep.length
                refine ⟨acc, nvD n, by omega, fr4, Hv4, acc ++ [y], ad ++ [dy], r1, ⟨f2.upd_free ?_ hD0 f1 hDt, I.sub.trans (s2.trans n.ext), upd_same, (RepL.mono (s2.trans n.ext) _ _ I.rep).append (.cons ry .nil), f1, nos n.shp, fun b o h no nt => ?_, shr' n.shp, fun b o h => ?_, f5, ?_⟩, hrec, by rw [← har]; simp⟩
                · rintro ⟨j, dd, hj, hf, hs⟩
                  obtain ⟨a1, a2⟩ := wipeF_in hf.1
                  rw [wipe_out a1] at hs
                  exact nos n.shp j dd hj ⟨a2, hf.2⟩ hs
                · rw [upd_ne (ne_of_none h hD)]
                  exact f3 b o h no nt
                · by_cases eb : b = D0
                  · exact ⟨_, by rw [eb]; exact upd_same⟩
                  · rw [upd_ne eb]
                    exact f4 b o h
                · rw [List.length_append, List.length_singleton]
                  omega
            · cases hcl
  · obtain ⟨fr', Hv', acc, ad, r, I, hcl, har⟩ := p
    rw [List.drop_length] at hcl
    cases hcl
    rw [List.append_nil] at har
    subst har
    refine hQ D0 H Hv' ⟨R1.rests I.rel I.sub hM, I.sub, I.keep, fun j d hj hf => ?_, I.alive, I.newv⟩ hD I.hv ⟨acc, I.at_, I.rep⟩
    rcases restF_get hf.1 with ⟨a, b⟩ | ⟨a, b⟩
    · exact ⟨d, b, hf.2⟩
    · exact I.shr j d hj ⟨b, hf.2⟩
theorem lc_enter {W : WX} {h : Iv} {K : PySem.W.Frag} {σ0 : L2.St} {H0 : Hp} {Q : VK} (hM : ∀ v ∈ vs, v ∉ B.M) (hi : ∀ j ∈ is, j ∈ vs) (ok : TgOk t is) (hh : dTF B W (eComp vs h t c e) σ0 H0 Q) :
    tLc (dTI B W h) (dTG B is t) (dTT B (fun _ _ _ _ => False) c) (dTE B (fun _ _ _ _ => False) e) vs σ0 H0 Q := by
  obtain ⟨fr, Hv, R, hh⟩ := hh
  refine ⟨fr, Hv, R, ?_⟩
  unfold eComp at hh
  cases hI : h fr with
  | bad => rw [hI] at hh; exact hh.elim
  | exc k fs fr1 =>
    rw [hI] at hh
    exact hh
  | ok ds fr1 =>
    rw [hI] at hh
    dsimp only [Res.bind] at hh
    intro J H1 Hv1 n w
    split at hh
    · next hsz =>
      split at hh
      · next r fr2 hc =>
        exact lc_step hM hi ok n.rel w hsz hc fun p H' Hv' m hp hv hcell => hh p H' Hv' (n.trans m) (n.none R hp) hv hcell
      · exact (hh : False).elim
    · exact hh.elim
end
section
variable {X : Cx} {B : Bd} {W : WX} {rf : Bool} {elt tg iter : Expr} {ifs : List Expr} {scope : Scope} {own : List (Str × Nat)} {pos spos py : Pos} {is : List Nat} {h : Iv} {t : Tv} {c : Bv} {e : Ev}
abbrev W0 : WX := fun _ _ _ _ => False
abbrev BX (X : Cx) (scope : Scope) (s : Shared) (H : Hp) (C : Addr) (cl : List (Str × Addr)) (fp : List Addr) : Cx := X.blk s H scope (compEnvC scope cl C X.env) fp
theorem d_yes {X : Cx} : PTs X [] (dTT B W0 bYes) := ⟨fun pins s σ H Q I h => by
  obtain ⟨fr, Hv, R, h⟩ := h
  exact pts_nil.run pins s σ H Q I (h H Hv (.refl R))⟩
theorem d_lc (hM : ∀ v ∈ own.map (·.2), v ∉ B.M) (his : ∀ j ∈ is, j ∈ own.map (·.2)) (hc : X.calm = true) (hN : X.N.Nodup) (hi : DI X B W tg iter h) (ok : BlkOk X.N X.env.scope scope own)
    (hg : ∀ s H C cl fp, DG (BX X scope s H C cl fp) B tg is t) (ht : ∀ s H C cl fp, PTs (BX X scope s H C cl fp) ifs (dTT B W0 c)) (he : ∀ s H C cl fp, DE (BX X scope s H C cl fp) B W0 elt e)
    (hs : ∀ x, foldedSetIterable iter X.env x = pure x := by intro _; rfl) : DF X B W (.ListComp elt [⟨tg, iter, ifs, 0⟩] scope pos) (eComp (own.map (·.2)) h t c e) :=
  pe_imp (pe_lc hc hN hi ok (fun s H C cl fp => (hg s H C cl fp).pg) ht he hs) fun σ H Q hh => lc_enter (K := X.K) hM his (hg X.s_0 X.H_0 0 [] []).ok hh
theorem set_in {i : Nat} {f : Ev} {D : Ends} {σ : L2.St} {H : Hp} (hi : i ∉ B.M) (hh : dTS B W rf (sSet i f) D σ H) : dTE B W f σ H (fun x H1 => D.nx (σ.set i (some x)) H1) := by
  obtain ⟨fr, Hv, R, hh⟩ := hh
  refine ⟨fr, Hv, R, ?_⟩
  unfold sSet at hh
  cases hg : f fr with
  | bad => rw [hg] at hh; exact hh.elim
  | exc c fs fr1 =>
    rw [hg] at hh
    exact fun dd H' Hv' n => hh dd σ H' Hv' n.rel n.ext
  | ok d fr1 =>
    rw [hg] at hh
    dsimp only [Res.bind] at hh
    split at hh
    · next c => exact fun v H' Hv' n r => hh _ H' Hv' (n.rel.setV hi (r.rep fun i z => by rw [z] at c; cases c)) n.ext
    · exact hh.elim
theorem s_setLcV {i : Nat} {y : Str} (hM : ∀ v ∈ own.map (·.2), v ∉ B.M) (his : ∀ j ∈ is, j ∈ own.map (·.2)) (hi' : i ∉ B.M) (hc : X.calm = true) (hN : X.N.Nodup) (hi : DI X B W tg iter h) (ok : BlkOk X.N X.env.scope scope own)
    (hg : ∀ s H C cl fp, DG (BX X scope s H C cl fp) B tg is t) (ht : ∀ s H C cl fp, PTs (BX X scope s H C cl fp) ifs (dTT B W0 c)) (he : ∀ s H C cl fp, DE (BX X scope s H C cl fp) B W0 elt e)
    (hsw : swapsWith (.ListComp elt [⟨tg, iter, ifs, 0⟩] scope pos) (some (.Name y py)) spos.line X.env = pure true) (hy : X.N[i]? = some y := by rfl) (hyl : X.env.scope.names.lookup y = some .local := by rfl) (hs : ∀ x, foldedSetIterable iter X.env x = pure x := by intro _; rfl) :
    DS X B W rf (.Assign [.Name y py] (.ListComp elt [⟨tg, iter, ifs, 0⟩] scope pos) spos) (sSet i (eComp (own.map (·.2)) h t c e)) :=
  ps_imp (ps_setLc hc hN hy hyl hsw hi ok (fun s H C cl fp => (hg s H C cl fp).pg) ht he hs) fun D σ H hh => lc_enter (K := X.K) hM his (hg X.s_0 X.H_0 0 [] []).ok (df_de (set_in hi' hh))
end
end KS
namespace KS
open PySem PySem.Spec L2
/-- what a method does to the object c, its argument b: the value it gives, the object behind it; pz: the argument is kept -/
abbrev Mu := D → List D → Option (D × D)
def pick (fr : Fr) : List D → Option (List D)
  | [] => some []
  | d :: ds => match look fr d, pick fr ds with
    | some a, some as => some (a :: as)
    | _, _ => none
def eMut (i : Nat) (kd : D → Bool) (pz : Bool) (F : Mu) (g : Av) : Ev := fun fr => match fr[i]? with
  | some (some c0) => if kd c0 = true then ((g fr).bind fun ys fr1 => match fr1[i]? with
    | some (some c) => if isCell c = true then (if (pz = true → ys.all pers = true) then (match pick fr1 ys with
      | some bs => match F c bs with
        | some (r, c') => .ok r (fr1.set i (some c'))
        | none => .bad
      | none => .bad) else .bad) else .bad
    | _ => .bad) else .bad
  | _ => .bad
def isLstD : D → Bool
  | .lst _ => true
  | _ => false
section
variable {B : Bd} {fr : Fr} {σ : L2.St} {H Hv : Hp}
theorem Rel.mut (R : Rel B fr σ H Hv) {i : Nat} {d d' : D} {a : Addr} {o : HO} (hi : i ∈ B.M) (e : fr[i]? = some (some d) ∧ isCell d = true) (hs : σ[i]? = some (some (.ref a))) (hc : Cell B.G (upd H a o) Hv a d') : Nxt B fr σ H Hv (fr.set i (some d')) (upd H a o) Hv := by
  obtain ⟨⟨u, hu⟩, hva, nta⟩ := R.own_some ⟨i, d, hi, e, hs⟩
  obtain ⟨a', hs', _, hn, _⟩ := R.own i d e hi
  rw [hs] at hs'
  cases hs'
  refine ⟨⟨fun b u h => ?_, R.ext0, R.new, fun b u h hio ht => ?_, by rw [List.length_set]; exact R.len, fun j dj h hm => ?_, fun j dj h hcl hm => ?_, fun j dj h hm => ?_, fun j k b dj dk hj hk hjk e1 e2 s1 => ?_, fun p hp => ?_, fun P hP => ?_⟩, .refl _, fun b u h no nt => ?_, fun j dj hj h => ?_, fun b u h => ?_, fun b u h => .inl h⟩
  · rw [upd_ne (fun z => by rw [z, hva] at h; cases h)]
    exact R.sub b u h
  · have ne : b ≠ a := fun z => by
      rcases hn with ⟨p, hp, q⟩ | q
      · exact hio p hp (by rw [q, z])
      · rw [← z, h] at q; cases q
    rw [upd_ne ne]
    exact R.keep b u h hio ht
  · rcases get_set h with ⟨z, _⟩ | ⟨n, z⟩
    · exact absurd hi (z ▸ hm)
    · exact R.val j dj z hm
  · rcases get_set h with ⟨z, q⟩ | ⟨n, z⟩
    · cases q
      rw [hc.isCell] at hcl; cases hcl
    · exact R.box j dj z hcl hm
  · rcases get_set h.1 with ⟨z, q⟩ | ⟨n, z⟩
    · subst z
      cases q
      exact ⟨a, hs, hva, hn, hc⟩
    · obtain ⟨b, h1, h2, h3, h4⟩ := R.own j dj ⟨z, h.2⟩ hm
      have ne : b ≠ a := fun q => R.sep j i b dj d hm hi n ⟨z, h.2⟩ e h1 (by rw [hs, q])
      exact ⟨b, h1, h2, h3, h4.mono (.refl _) (upd_ne ne)⟩
  · have back : ∀ {j dj}, (fr.set i (some d'))[j]? = some (some dj) ∧ isCell dj = true → ∃ d0, fr[j]? = some (some d0) ∧ isCell d0 = true := fun {j dj} h => by
      rcases get_set h.1 with ⟨z, _⟩ | ⟨_, z⟩
      · subst z; exact ⟨d, e⟩
      · exact ⟨dj, z, h.2⟩
    obtain ⟨d1, h1⟩ := back e1
    obtain ⟨d2, h2⟩ := back e2
    exact R.sep j k b d1 d2 hj hk hjk h1 h2 s1
  · obtain ⟨h1, ⟨dj, h2, h3⟩, h4⟩ := R.io p hp
    refine ⟨h1, ?_, h4⟩
    by_cases z : p.1 = i
    · have hl : i < fr.length := (List.getElem?_eq_some_iff.mp e.1).1
      exact ⟨d', by rw [z, List.getElem?_set_self hl], hc.isCell⟩
    · exact ⟨dj, by rw [List.getElem?_set_ne (Ne.symm z)]; exact h2, h3⟩
  · obtain ⟨⟨ps, q, t⟩, v⟩ := R.tab P hP
    exact ⟨⟨ps, by rw [upd_ne (fun z : P = a => nta (by rw [← z]; exact hP))]; exact q, t⟩, v⟩
  · rw [upd_ne (fun z => no ⟨i, d, hi, e, by rw [hs, z]⟩)]
    exact h
  · rcases get_set h.1 with ⟨z, _⟩ | ⟨_, z⟩
    · subst z; exact ⟨d, e⟩
    · exact ⟨dj, z, h.2⟩
  · by_cases z : b = a
    · exact ⟨o, by rw [z]; exact upd_same⟩
    · exact ⟨u, by rw [upd_ne z]; exact h⟩
/-- what a change is to give -/
def MuS (B : Bd) (r : V → List V → Hp → VK → Prop) (pz : Bool) (F : Mu) : Prop := ∀ fr σ H Hv a c ys bs vs res c' (Q : VK), Rel B fr σ H Hv → Cell B.G H Hv a c → Hv a = none → RepWs B σ Hv ys vs → pick fr ys = some bs → (pz = true → RepL B.G Hv ys vs ∧ bs = ys) → F c bs = some (res, c') →
  (∀ v o, Cell B.G (upd H a o) Hv a c' → Rep B.G Hv res v → Q v (upd H a o)) → r (.ref a) vs H Q
theorem pers_repL {ds : List D} {vs : List V} (r : RepWs B σ Hv ds vs) (h : ds.all pers = true) : RepL B.G Hv ds vs := by
  induction ds generalizing vs with
  | nil => rw [r]; exact .nil
  | cons d ds ih =>
    obtain ⟨v, t, rfl, h1, h2⟩ := r
    rw [List.all_cons, Bool.and_eq_true] at h
    exact .cons (h1.rep fun i z => by rw [z] at h; cases h.1) (ih h2 h.2)
theorem pers_pick {ds bs : List D} (h : ds.all pers = true) (e : pick fr ds = some bs) : bs = ds := by
  induction ds generalizing bs with
  | nil => cases e; rfl
  | cons d ds ih =>
    rw [List.all_cons, Bool.and_eq_true] at h
    unfold pick at e
    split at e
    · next a as ha has =>
      cases e
      rw [ih h.2 has]
      cases d <;> first | (cases ha; rfl) | exact absurd h.1 (by simp [pers])
    · cases e
variable {X : Cx} {W : WX} {e o : Expr} {es : List Expr} {g : Av} {i : Nat} {r : V → List V → Hp → VK → Prop} {pz : Bool} {F : Mu}
theorem kd_lst {d : D} (h : isLstD d = true) : isCell d = true := by cases d <;> first | rfl | cases h
theorem mut_in {kd : D → Bool} {σ : L2.St} {H : Hp} {Q : VK} (hk : ∀ {d}, kd d = true → isCell d = true) (hi : i ∈ B.M) (hS : MuS B r pz F) (h : dTE B W (eMut i kd pz F g) σ H Q) :
    ∃ a c0 Hv, σ[i]? = some (some (V.ref a)) ∧ Cell B.G H Hv a c0 ∧ kd c0 = true ∧ dTA B W g σ H fun vs H2 => r (.ref a) vs H2 Q := by
  obtain ⟨fr, Hv, R, h⟩ := h
  unfold eMut at h
  split at h
  · next c0 e0 =>
    split at h
    · next cl0 =>
      obtain ⟨a, hs, hva, _, hcell⟩ := R.own i c0 ⟨e0, hk cl0⟩ hi
      refine ⟨a, c0, Hv, hs, hcell, cl0, fr, Hv, R, ?_⟩
      cases hg : g fr with
      | bad => rw [hg] at h; exact h.elim
      | exc c fs fr1 => rw [hg] at h; exact h
      | ok ys fr1 =>
        rw [hg] at h
        dsimp only [Res.bind] at h
        intro vs H2 Hv2 n rws
        split at h
        · next c e1 =>
          split at h
          · next cl1 =>
            split at h
            · next hp =>
              split at h
              · next bs hb =>
                split at h
                · next res c' hF =>
                  obtain ⟨a', hs', hva2, _, hcell2⟩ := n.rel.own i c ⟨e1, cl1⟩ hi
                  rw [hs] at hs'
                  cases hs'
                  exact hS fr1 σ H2 Hv2 a c ys bs vs res c' Q n.rel hcell2 hva2 rws hb (fun z => ⟨pers_repL rws (hp z), pers_pick (hp z) hb⟩) hF fun v o hc' hr => h v _ Hv2 (n.trans (n.rel.mut hi ⟨e1, cl1⟩ hs hc')) (.of hr)
                · exact (h : False).elim
              · exact (h : False).elim
            · exact (h : False).elim
          · exact (h : False).elim
        · exact (h : False).elim
    · exact (h : False).elim
  · exact (h : False).elim
theorem tyV_lst {K : PySem.W.Frag} {c0 : D} {a : Addr} (hc : Cell B.G H Hv a c0) (k : isLstD c0 = true) : tyV K "list" (.ref a) H := by
  cases c0 <;> first | cases k | skip
  obtain ⟨vs, e, _⟩ := hc
  exact .inl ⟨rfl, vs, SqL.of e⟩
variable {x name : Str} {id T : String} {np apos cpos : Pos}
theorem d_mut {kd : D → Bool} (hk : ∀ {d}, kd d = true → isCell d = true) (ht : ∀ {H Hv a c0}, Cell B.G H Hv a c0 → kd c0 = true → tyV X.K T (.ref a) H) (hS : MuS B r pz F) (hm : MtR X id r) (pa : PlainAttrs T) (slot : Slot T name id) (hty : typeOf (.builtin id) = pure (.type "method_descriptor"))
    (hi : i ∈ B.M) (ha : DA X B W (e :: es) g) (hN : X.N[i]? = some x := by rfl) (hv : Vis X.env.scope x := by first | exact Or.inl rfl | exact Or.inr (Or.inl rfl) | exact Or.inr (Or.inr rfl)) (hd : (x == ("__debug__" : Str)) = false := by decide) (hcd : (x == ("__classdict__" : Str)) = false := by decide)
    (hbase : attributeBase (.Name x np) name X.env (eval (.Name x np) X.env) = eval (.Name x np) X.env := by rfl)
    (hfew : ((backTo cpos (starEach (e :: es) X.env)).all (fun x => !x.1) && (backToKw cpos (keywordEach [] X.env)).all (fun x => x.1.isSome)
      && decide ((e :: es).length + ([] : List Keyword).length + (if ([] : List Keyword).isEmpty then 0 else 1) < 30)) = true := by rfl)
    (hline : (apos.endLine == cpos.line) = true := by rfl) (hs : starEach (e :: es) X.env = (false, eval e X.env) :: starEach es X.env := by rfl) (hplain : (backTo cpos (starEach es X.env)).any (·.1) = false := by rfl) :
    DE X B W (.Call (.Attribute (.Name x np) name apos) (e :: es) [] cpos) (eMut i kd pz F g) := by
  refine pe_imp (pe_bm pa slot hty hm (pe_var hN hv hd hcd) ha hbase hfew hline hs hplain) fun σ H Q h => ?_
  obtain ⟨a, c0, Hv, hs, hc, hkc, h⟩ := mut_in hk hi hS h
  exact ⟨_, hs, ht hc hkc, h⟩
def appM : Mu := fun c bs => match c, bs with
  | .lst ds, [b] => if ds.length < sizeLine then some (.non, .lst (ds ++ [b])) else none
  | _, _ => none
def insM : Mu := fun c bs => match c, bs with
  | .lst ds, [.int i, b] => if ds.length < sizeLine ∧ 0 ≤ i ∧ i < 2 ^ 63 then some (.non, .lst (ds.take i.toNat ++ [b] ++ ds.drop i.toNat)) else none
  | _, _ => none
theorem mus_append : MuS B rAppend true appM := by
  intro fr σ H Hv a c ys bs vs res c' Q R hc hva rws hb hp hF k
  obtain ⟨rl, rfl⟩ := hp rfl
  unfold appM at hF
  split at hF
  · next ds b =>
    split at hF
    · next hz =>
      cases hF
      obtain ⟨us, e, r⟩ := hc
      obtain ⟨v, t, rfl, h1, h2⟩ := rl.cons_inv
      rw [h2.nil_inv]
      exact ⟨a, us, v, rfl, rfl, e, by rw [r.length]; exact hz, k .non _ ⟨us ++ [v], upd_same, r.append (.cons h1 .nil)⟩ repN⟩
    · cases hF
  · cases hF
theorem mus_insert : MuS B (fun x vs H Q => ∃ (l : Addr) (xs : List V) (i : Int) (y : V), x = .ref l ∧ vs = [.int i, y] ∧ H l = some (.lst xs) ∧ xs.length < sizeLine ∧ 0 ≤ i ∧ i < 2 ^ 63 ∧
    Q .non (upd H l (.lst (xs.take i.toNat ++ [y] ++ xs.drop i.toNat)))) true insM := by
  intro fr σ H Hv a c ys bs vs res c' Q R hc hva rws hb hp hF k
  obtain ⟨rl, rfl⟩ := hp rfl
  unfold insM at hF
  split at hF
  · next ds i b =>
    split at hF
    · next hz =>
      cases hF
      obtain ⟨us, e, r⟩ := hc
      obtain ⟨v, t, rfl, h1, h2⟩ := rl.cons_inv
      obtain ⟨v2, t2, rfl, h3, h4⟩ := h2.cons_inv
      rw [h4.nil_inv, Rep.int_iff.mp h1]
      exact ⟨a, us, i, v2, rfl, rfl, e, by rw [r.length]; exact hz.1, hz.2.1, hz.2.2, k .non _ ⟨_, upd_same, ((r.take _).append (.cons h3 .nil)).append (r.drop _)⟩ repN⟩
    · cases hF
  · cases hF
end
end KS
namespace KS
open PySem PySem.Spec L2
inductive Tn where
  | non | bl | int | str | tup | lst | dct
def Tn.nm : Tn → String
  | .non => "NoneType" | .bl => "bool" | .int => "int" | .str => "str" | .tup => "tuple" | .lst => "list" | .dct => "dict"
def isT : Tn → Tn → Bool
  | .non, .non => true | .bl, .bl => true | .bl, .int => true | .int, .int => true | .str, .str => true | .tup, .tup => true | .lst, .lst => true | .dct, .dct => true
  | _, _ => false
def tyI : D → Option Tn
  | .non => some .non
  | .bl _ => some .bl
  | .int _ => some .int
  | .str _ => some .str
  | .tup _ => some .tup
  | .lst _ => some .lst
  | .scr _ => some .lst
  | .dct _ _ => some .dct
  | _ => none
theorem kit_all (K : PySem.W.Frag) (t : Tn) : PySem.W.kitOne K (.type t.nm) (.type "NoneType") = some (isT t .non) ∧ PySem.W.kitOne K (.type t.nm) (.type "bool") = some (isT t .bl) ∧ PySem.W.kitOne K (.type t.nm) (.type "int") = some (isT t .int) ∧
    PySem.W.kitOne K (.type t.nm) (.type "str") = some (isT t .str) ∧ PySem.W.kitOne K (.type t.nm) (.type "tuple") = some (isT t .tup) ∧ PySem.W.kitOne K (.type t.nm) (.type "list") = some (isT t .lst) ∧ PySem.W.kitOne K (.type t.nm) (.type "dict") = some (isT t .dct) := by
  cases t <;> exact ⟨kit_ty (by decide +kernel), kit_ty (by decide +kernel), kit_ty (by decide +kernel), kit_ty (by decide +kernel), kit_ty (by decide +kernel), kit_ty (by decide +kernel), kit_ty (by decide +kernel)⟩
theorem kit_tn (K : PySem.W.Frag) (t u : Tn) : PySem.W.kitOne K (.type t.nm) (.type u.nm) = some (isT t u) := by
  obtain ⟨a, b, c, d, e, f, g⟩ := kit_all K t
  cases u <;> assumption
def isAny (t : Tn) : List Tn → Bool
  | [] => false
  | u :: us => isT t u || isAny t us
theorem kit_any (K : PySem.W.Frag) (t : Tn) : ∀ us : List Tn, PySem.W.kitAny K (.type t.nm) (us.map fun u => .type u.nm) = some (isAny t us)
  | [] => kitAny_nil
  | u :: us => by
    rw [List.map_cons]
    refine kitAny_cons (kit_tn K t u) (fun h => ?_) (fun h => ?_)
    · rw [isAny, h, Bool.false_or]
      exact kit_any K t us
    · rw [isAny, h, Bool.true_or]
def isiF (u : Tn) : D → Option D := fun d => (tyI d).map fun t => .bl (isT t u)
def isiTF (us : List Tn) : D → Option D := fun d => (tyI d).map fun t => .bl (isAny t us)
section
variable {X : Cx} {B : Bd} {W : WX} {a : Expr} {f : Ev} {p q pos tpos : Pos} {x : Str}
theorem tyx_of (hK : X.K = B.G.K) {fr : Fr} {σ : L2.St} {H Hv : Hp} (R : Rel B fr σ H Hv) {d e : D} {v : V} {t : Tn} (h : RepW B σ Hv d v) (hl : look fr d = some e) (ht : tyI e = some t) : TyX X.K H v (.type t.nm) := by
  cases e with
  | non => cases ht; rw [R.non_of h hl]; exact .base .non
  | bl b => cases ht; rw [R.bl_of h hl]; exact .base (.bl b)
  | int i => cases ht; rw [R.int_of h hl]; exact .base (.int i)
  | str z => cases ht; rw [R.str_of h hl]; exact .base (.str z)
  | tup ds =>
    cases ht
    obtain ⟨b, vs, rfl, s, _, _⟩ := R.tup_of h hl
    rcases s with (s | ⟨o, s⟩) | ⟨o, its, n, hk, hc, _⟩
    · exact .base (.tup s)
    · exact .fTuple s
    · exact .kTuple (by rw [hK]; exact hk) hc
  | lst ds =>
    cases ht
    obtain ⟨b, vs, rfl, s, _⟩ := R.list_of h hl
    exact .base (.lst s)
  | scr ns =>
    cases ht
    obtain ⟨b, rfl, s⟩ := Rep.scr_inv (look_scalar R h hl rfl)
    rcases R.sub.sql s with (s | ⟨o, s⟩) | ⟨o, its, n, hk, hc, _⟩
    · exact .base (.lst s)
    · exact .base (.frz s)
    · exact .kList (by rw [hK]; exact hk) hc
  | dct ks ds =>
    cases ht
    have key : ∃ b us, v = .ref b ∧ DctAt H b ks us := by
      cases d with
      | var i =>
        obtain ⟨hm, hs⟩ := h
        obtain ⟨b, hs', _, _, us, q, _⟩ := R.own i _ (look_var hl) hm
        rw [hs] at hs'
        cases hs'
        exact ⟨b, us, rfl, q⟩
      | dct ks' ds' =>
        have e : D.dct ks' ds' = .dct ks ds := Option.some.inj hl
        cases e
        obtain ⟨b, us, rfl, q, _⟩ := Rep.dct_inv h
        exact ⟨b, us, rfl, q.at fun o => R.sub b o⟩
      | _ => cases hl
    obtain ⟨b, us, rfl, ⟨kvs, e, _⟩ | ⟨kvs, e, _⟩⟩ := key
    · exact .base (.dT e)
    · exact .base (.dK e)
  | _ => cases ht
theorem d_isi (u : Tn) (ha : DE X B W a f) (hm : X.mg "isinstance" = none) (hmx : X.mg x = none) (hx : bootBuiltins x = some (.type u.nm)) (hK : X.K = B.G.K := by rfl) (hg : Gl X "isinstance" := by rfl) (hgx : Gl X x := by rfl) (hv : bootBuiltins "isinstance" = some (.builtin "isinstance") := by decide +kernel) (hn : (("isinstance" : String) : Str) ≠ "__name__" := by decide) (hdb : ((("isinstance" : String) : Str) == ("__debug__" : Str)) = false := by decide)
    (hnx : x ≠ "__name__" := by decide) (hdx : (x == ("__debug__" : Str)) = false := by decide)
    (he2 : starEach [.Name x q] X.env = (false, eval (.Name x q) X.env) :: starEach [] X.env := by rfl) (he : starEach [a, .Name x q] X.env = (false, eval a X.env) :: starEach [.Name x q] X.env := by rfl) (hpl : (backTo pos (starEach [.Name x q] X.env)).any (·.1) = false := by rfl) :
    DE X B W (.Call (.Name "isinstance" p) [a, .Name x q] [] pos) (eOp1 (isiF u) f) := by
  refine pe_imp (pe_callB call_isi hg hm hv (pa_cons ha (pa_cons (pe_bltn hgx hmx hx (show RelV (.ty u.nm) (.type u.nm) from rfl) hnx hdx) pa_nil he2) he) hn hdb he hpl) fun σ H Q h => ?_
  have e := ent1 (r := fun x1 H1 Q => rIsi X.K [x1, .ty u.nm] H1 Q) ?_ h
  · exact e
  · intro fr σ H Hv y dy b z Q R ry hy hz k
    unfold isiF at hz
    simp only [Option.map_eq_some_iff] at hz
    obtain ⟨t, ht, rfl⟩ := hz
    exact ⟨y, .ty u.nm, .type t.nm, .type u.nm, isT t u, rfl, .ty _, tyx_of hK R ry hy ht, kit_tn _ _ _, k _ H Hv (.refl R) repB⟩
theorem d_isi2 (u1 u2 : Tn) {x2 : Str} {q2 : Pos} {k1 : Nat} (ha : DE X B W a f) (hm : X.mg "isinstance" = none) (hmx : X.mg x = none) (hx : bootBuiltins x = some (.type u1.nm)) (hmx2 : X.mg x2 = none) (hx2 : bootBuiltins x2 = some (.type u2.nm)) (hK : X.K = B.G.K := by rfl) (hg : Gl X "isinstance" := by rfl) (hgx : Gl X x := by rfl) (hgx2 : Gl X x2 := by rfl)
    (hv : bootBuiltins "isinstance" = some (.builtin "isinstance") := by decide +kernel) (hn : (("isinstance" : String) : Str) ≠ "__name__" := by decide) (hdb : ((("isinstance" : String) : Str) == ("__debug__" : Str)) = false := by decide)
    (hnx : x ≠ "__name__" := by decide) (hdx : (x == ("__debug__" : Str)) = false := by decide) (hnx2 : x2 ≠ "__name__" := by decide) (hdx2 : (x2 == ("__debug__" : Str)) = false := by decide)
    (hs2 : starEach [.Name x2 q2] X.env = (false, eval (.Name x2 q2) X.env) :: starEach [] X.env := by rfl) (hs1 : starEach [.Name x q, .Name x2 q2] X.env = (false, eval (.Name x q) X.env) :: starEach [.Name x2 q2] X.env := by rfl)
    (he2 : starEach [.Tuple [.Name x q, .Name x2 q2] k1 tpos] X.env = (false, eval (.Tuple [.Name x q, .Name x2 q2] k1 tpos) X.env) :: starEach [] X.env := by rfl) (he : starEach [a, .Tuple [.Name x q, .Name x2 q2] k1 tpos] X.env = (false, eval a X.env) :: starEach [.Tuple [.Name x q, .Name x2 q2] k1 tpos] X.env := by rfl) (hpl : (backTo pos (starEach [.Tuple [.Name x q, .Name x2 q2] k1 tpos] X.env)).any (·.1) = false := by rfl) :
    DE X B W (.Call (.Name "isinstance" p) [a, .Tuple [.Name x q, .Name x2 q2] k1 tpos] [] pos) (eOp1 (isiTF [u1, u2]) f) := by
  refine pe_imp (pe_callB call_isiT hg hm hv (pa_cons ha (pa_cons (pe_tup (pa_cons (pe_bltn hgx hmx hx (show RelV (.ty u1.nm) (.type u1.nm) from rfl) hnx hdx) (pa_cons (pe_bltn hgx2 hmx2 hx2 (show RelV (.ty u2.nm) (.type u2.nm) from rfl) hnx2 hdx2) pa_nil hs2) hs1)) pa_nil he2) he) hn hdb he hpl) fun σ H Q h => ?_
  have e := ent1 (r := fun x1 H1 Q => 2 ≤ sizeLine ∧ ∀ T, H1 T = none → rIsiT X.K [x1, .ref T] (upd H1 T (.tup [.ty u1.nm, .ty u2.nm])) Q) ?_ h
  · exact e
  · intro fr σ H Hv y dy b z Q R ry hy hz k
    unfold isiTF at hz
    simp only [Option.map_eq_some_iff] at hz
    obtain ⟨t, ht, rfl⟩ := hz
    refine ⟨by decide, fun T hT => ?_⟩
    have n : Nxt B fr σ H Hv fr (upd H T (.tup [.ty u1.nm, .ty u2.nm])) Hv := ⟨R.lay hT, .refl _, fun b u h _ _ => by rw [upd_ne (ne_of_none h hT)]; exact h, .refl _ _, fun b u h => ⟨u, by rw [upd_ne (ne_of_none h hT)]; exact h⟩, fun b u h => .inl h⟩
    exact ⟨y, T, _, .type t.nm, [.type u1.nm, .type u2.nm], isAny t [u1, u2], rfl, upd_same, .cons (.ty _) (.cons (.ty _) .nil), tyx_of hK n.rel ry hy ht, kit_any _ t [u1, u2], k _ _ Hv n repB⟩
end
end KS
namespace KS
open PySem PySem.Spec L2
def tMakeS (C : Addr) (sp : Sp) (E : L2.St → XK) (t : TA) : TE := fun σ H Q => t σ H fun vs H1 => ∀ x dx, H1 x = none → H1 dx = none → dx ≠ x →
  sp (.ref x :: (vs ++ [])) (upd (upd H1 dx (.own x)) x (.ins C dx [])) (fun v H2 => v = .non ∧ Q (.ref x) H2) (E σ)
section
variable {X : Cx} {CX : CXT} {k : Nat} {f C : Addr} {fd : FuncData} {ps : List Str} {sp : Sp} {E : L2.St → XK} {x : Str} {p pos : Pos} {e : Expr} {es : List Expr} {t : TA}
theorem run_makeS {pins : List (Addr × Obj)} {σ : L2.St} {H : Hp} {s : Shared} {Q : VK} {us ds : List Value} {vs dvs : List V} (M : Mk X.K C f) (F : FnOk X.prog X.w X.K X.mg X.base CX k f fd ps sp) (hr : Room (k + 1) X.A) (hb : Binds X.K fd ps ds) (hd : Vals dvs ds)
    (hx : PassesAt CX X σ (E σ)) (I : Inv X pins σ H s) (r : Vals vs us)
    (h : ∀ x dx, H x = none → H dx = none → dx ≠ x → sp (.ref x :: (vs ++ dvs)) (upd (upd H dx (.own x)) x (.ins C dx [])) (fun v H2 => v = .non ∧ Q (.ref x) H2) (E σ)) :
    wpAny (model X.prog X.w) X.A (call (.ref C) us) (EP X pins σ Q) X.xe s := by
  have hq := h (s.heap.objs.size + 1) s.heap.objs.size (I.hok.fresh (Nat.le_succ _)) (I.hok.fresh (Nat.le_refl _)) (Nat.ne_of_lt (Nat.lt_succ_self _))
  have I2 := Inv.made (C := C) I
  have r2 : Vals (V.ref (s.heap.objs.size + 1) :: (vs ++ dvs)) (Value.ref (s.heap.objs.size + 1) :: (us ++ ds)) := .cons rfl (r.append hd)
  have hl : (Value.ref (s.heap.objs.size + 1) :: us ++ ds).length = ps.length := by
    have e := r2.length
    rw [F.len _ _ _ _ hq] at e
    exact e.symm
  refine wpAny_call (make_map (f := f) I.kIn M.makes M.init (beq_iff_eq.mp M.fn) (codeAny_mono (F.run _ X.stack _ _ ⟨Value.ref (s.heap.objs.size + 1) :: us, []⟩ (Value.ref (s.heap.objs.size + 1) :: (us ++ ds)) _ _ (E σ) (hr.make C us [])
    (I2.env0.make C us []) (hb _ (Value.ref (s.heap.objs.size + 1) :: us) I2.kIn hl) r2 hq) fun r s' hq' => ?_))
  cases r with
  | error e => exact hx pins _ _ e s' I2 hq'
  | ok fl =>
    cases fl with
    | ret u =>
      obtain ⟨v, H', I3, rv, ev, q3⟩ := I2.after hq'
      subst ev
      exact ⟨rv, ⟨V.ref (s.heap.objs.size + 1), H', I3, rfl, q3⟩⟩
    | next => exact False.elim hq'
    | brk => exact False.elim hq'
    | cont => exact False.elim hq'
theorem pe_makeS (M : Mk X.K C f) (F : FnOk X.prog X.w X.K X.mg X.base CX k f fd ps sp) (hr : Room (k + 1) X.A) (hg : Gl X x) (hm : X.mg x = some (.ref C)) (hb : Binds X.K fd ps []) (hx : ∀ σ, PassesAt CX X σ (E σ))
    (ha : PA X (e :: es) t) (hdb : (x == ("__debug__" : Str)) = false := by decide) (he : starEach (e :: es) X.env = (false, eval e X.env) :: starEach es X.env := by rfl) (hpl : (backTo pos (starEach es X.env)).any (·.1) = false := by rfl) :
    PE X (.Call (.Name x p) (e :: es) [] pos) (tMakeS C sp E t) := by
  refine ⟨fun pins s σ H Q I h => ?_⟩
  refine wpAny_Call_Name_kw (ld_glob I hg hm ?_ hdb)
  refine PySem.W.callWith_K (h₀ := X.base) I.ok.mod.kin M.kp (thn (ha.run pos pins s σ H _ I h) fun us s1 ⟨vs, H1, I1, r, q⟩ => ⟨I1.kIn, ?_⟩) he hpl
  exact run_makeS (dvs := []) M F hr hb .nil (hx σ) I1 r q
end
def eMake (c : Nat) (F : Fn) (g : Av) : Ev := fun fr => (g fr).bind fun ds fr1 => if ds.all pers = true then (match F (.obj c [] [] :: ds) with
  | .ok .non (o :: _) => .ok o fr1
  | .exc k fs _ => .exc k fs fr1
  | _ => .bad) else .bad
section
variable {B : Bd} {fr : Fr} {σ : L2.St} {H Hv H' Hv' : Hp} {ds outs : List D} {vs : List V}
/-- after C's __init__ at x -/
theorem nxt_make (R : Rel B fr σ H Hv) {x dx C : Addr} (hx : H x = none) (hdx : H dx = none) {n : Nat} (f : FinC B.G (true :: List.replicate n false) outs (.ref x :: vs) (upd (upd H dx (.own x)) x (.ins C dx [])) Hv H' Hv') : Nxt B fr σ H Hv fr H' Hv' := by
  have io : ∀ {b}, ioA (true :: List.replicate n false) (.ref x :: vs) b → b = x := fun {b} ⟨i, h1, h2⟩ => by
    cases i with
    | zero => cases h2; rfl
    | succ i =>
      rw [List.getElem?_cons_succ, List.getElem?_replicate] at h1
      split at h1 <;> cases h1
  have up : ∀ {b o}, H b = some o → upd (upd H dx (.own x)) x (.ins C dx []) b = some o ∧ b ≠ x := fun {b o} h => by
    rw [upd_ne (ne_of_none h hx), upd_ne (ne_of_none h hdx)]
    exact ⟨h, ne_of_none h hx⟩
  have kp : ∀ b o, H b = some o → b ∉ B.G.tabs → H' b = some o := fun b o h ht => f.keep b o (up h).1 (fun q => (up h).2 (io q)) ht
  have none_of : ∀ {b}, upd (upd H dx (.own x)) x (.ins C dx []) b = none → H b = none := fun {b} z => by
    cases e : H b with
    | none => rfl
    | some u => rw [(up e).1] at z; cases z
  refine ⟨⟨f.sub, R.ext0.trans f.ext, fun b o h => ?_, fun b o h hi ht => kp b o (R.keep b o h hi ht) ht, R.len, fun i d e hm => ?_, fun i d e hc hm => ?_, fun i d e hm => ?_, R.sep, R.io, f.tab⟩, f.ext, fun b o h _ nt => kp b o h nt, .refl _ _, fun b o h => ?_, fun b o h => ?_⟩
  · rcases f.new b o h with z | z
    · exact R.new b o z
    · exact .inr (z.imp (fun z => R.h0_none (none_of z)) id)
  · obtain ⟨v, hs, hr⟩ := R.val i d e hm
    exact ⟨v, hs, Rep.mono f.ext _ _ hr⟩
  · obtain ⟨e2, v, z, hs, hr⟩ := R.box i d e hc hm
    exact ⟨e2, v, z, hs, hr.imp (Rep.mono f.ext _ _) id⟩
  · obtain ⟨a, hs, hva, hn, hc⟩ := R.own i d e hm
    obtain ⟨⟨u, hu⟩, _, nt⟩ := R.own_some ⟨i, d, hm, e, hs⟩
    refine ⟨a, hs, ?_, hn, hc.mono f.ext ((kp a u hu nt).trans hu.symm)⟩
    cases q : Hv' a with
    | none => rfl
    | some o =>
      rcases f.new a o q with z | z | ⟨ws, z⟩
      · rw [hva] at z; cases z
      · rw [(up hu).1] at z; cases z
      · have h1 := f.sub a o q
        rw [kp a u hu nt, z] at h1
        cases h1
        exact (hc.not_tup hu).elim
  · by_cases ht : b ∈ B.G.tabs
    · obtain ⟨⟨ps, e, _⟩, _⟩ := f.tab b ht
      exact ⟨_, e⟩
    · exact ⟨o, kp b o h ht⟩
  · rcases f.new b o h with z | z
    · exact .inl z
    · exact .inr (.inl (z.imp none_of id))
theorem start_make (R : Rel B fr σ H Hv) {x dx : Addr} {c : Nat} (hx : H x = none) (hdx : H dx = none) (ne : dx ≠ x) (r : RepL B.G Hv ds vs) : Start B.G (true :: List.replicate ds.length false) (.obj c [] [] :: ds) (.ref x :: vs) (upd (upd H dx (.own x)) x (.ins (B.G.cls c) dx [])) Hv where
  sub := fun b u h => by
    have := R.sub b u h
    rw [upd_ne (ne_of_none this hx), upd_ne (ne_of_none this hdx)]
    exact this
  tab := fun P hP => by
    obtain ⟨⟨ps, e, t⟩, v⟩ := R.tab P hP
    exact ⟨⟨ps, by rw [upd_ne (ne_of_none e hx), upd_ne (ne_of_none e hdx)]; exact e, t⟩, v⟩
  lend := by simp
  lenv := by simp [r.length]
  val := fun i d hm hd => by
    cases i with
    | zero => cases hm
    | succ i => exact r.get hd
  own := fun i d hm hd => by
    cases i with
    | zero =>
      have e : D.obj c [] [] = d := Option.some.inj hd
      subst e
      exact ⟨x, rfl, R.hv_none hx, dx, [], upd_same, rfl, .nil⟩
    | succ i =>
      rw [List.getElem?_cons_succ, List.getElem?_replicate] at hm
      split at hm <;> cases hm
  sep := fun i j a hij hi hj => by
    have z : ∀ {i : Nat}, (true :: List.replicate ds.length false)[i]? = some true → i = 0 := fun {i} h => by
      cases i with
      | zero => rfl
      | succ i =>
        rw [List.getElem?_cons_succ, List.getElem?_replicate] at h
        split at h <;> cases h
    exact absurd ((z hi).trans (z hj).symm) hij
variable {X : Cx} {W : WX} {e : Expr} {es : List Expr} {g : Av} {k : Nat} {f : Addr} {fd : FuncData} {ps : List Str} {F : Fn} {x : Str} {p pos : Pos} {c : Nat}
theorem d_make (n : Nat) (M : Mk X.K (B.G.cls c) f) (Fk : FnOk X.prog X.w X.K X.mg X.base (L2N.CX X.prog X.w) k f fd ps (spOf B.G (true :: List.replicate n false) false F)) (hn : ∀ fr ds fr1, g fr = .ok ds fr1 → ds.length = n) (hr : Room (k + 1) X.A) (hm : X.mg x = some (.ref (B.G.cls c))) (hb : Binds X.K fd ps []) (tk : ∀ σ, PassesAt (L2N.CX X.prog X.w) X σ (WE W σ))
    (ha : DA X B W (e :: es) g) (hg : Gl X x := by rfl) (hdb : (x == ("__debug__" : Str)) = false := by decide) (he : starEach (e :: es) X.env = (false, eval e X.env) :: starEach es X.env := by rfl) (hpl : (backTo pos (starEach es X.env)).any (·.1) = false := by rfl) :
    DF X B W (.Call (.Name x p) (e :: es) [] pos) (eMake c F g) := by
  refine pe_imp (pe_makeS M Fk hr hg hm hb tk ha hdb he hpl) fun σ H Q h => ?_
  obtain ⟨fr, Hv, R, h⟩ := h
  refine ⟨fr, Hv, R, ?_⟩
  unfold eMake at h
  cases hgf : g fr with
  | bad => rw [hgf] at h; exact h.elim
  | exc c fs fr1 => rw [hgf] at h; exact h
  | ok ds fr1 =>
    have hlen := hn _ _ _ hgf
    rw [hgf] at h
    dsimp only [Res.bind] at h
    intro vs H1 Hv1 n1 rws x dx hx hdx ne
    split at h
    · next hp =>
      have rl := pers_repL rws hp
      rw [List.append_nil]
      refine ⟨.obj c [] [] :: ds, Hv1, by rw [← hlen]; exact start_make n1.rel hx hdx ne rl, ?_⟩
      split at h
      · next o outs hF =>
        rw [hF]
        intro v H' Hv' fin ret
        have ret : Rep B.G Hv' .non v := by
          unfold RetR at ret
          rwa [if_neg Bool.false_ne_true] at ret
        refine ⟨Rep.non_iff.mp ret, ?_⟩
        obtain ⟨h1, d, hd, hcell⟩ := fin.io 0 x rfl rfl
        cases hd
        exact h x H' Hv' (n1.trans (nxt_make n1.rel hx hdx fin)) (n1.none R hx) h1 hcell
      · next k fs outs hF =>
        rw [hF]
        intro dd H' Hv' fin ex
        exact h dd H' Hv' (n1.trans (nxt_make n1.rel hx hdx fin)) ex
      · exact (h : False).elim
    · exact (h : False).elim
end
def putN (n : Nat) (d : D) : List Nat → List D → List Nat × List D
  | [], _ => ([n], [d])
  | m :: ns, e :: fs => if m = n then (m :: ns, d :: fs) else (m :: (putN n d ns fs).1, e :: (putN n d ns fs).2)
  | m :: ns, [] => (m :: ns, [])
def sFldS (i n : Nat) (cs : List Nat) (f : Ev) : Sv := fun fr => (f fr).bind fun d fr1 => if pers d = true then (match fr1[i]? with
  | some (some (.obj c ns fs)) => if c ∈ cs then (if ns.length < 1000 then .ok .nx (fr1.set i (some (.obj c (putN n d ns fs).1 (putN n d ns fs).2))) else .bad) else .bad
  | _ => .bad) else .bad
theorem putN_ok {G : SE} {Hv : Hp} {n : Nat} {d : D} {v : V} (inj : ∀ m, G.fld m = G.fld n → m = n) (hr : Rep G Hv d v) : ∀ {ns : List Nat} {fs : List D} {vs : List V}, ns.length = vs.length → RepL G Hv fs vs →
    ∃ vs', putF (G.fld n) v ((ns.map G.fld).zip vs) = (((putN n d ns fs).1.map G.fld).zip vs') ∧ (putN n d ns fs).1.length = vs'.length ∧ RepL G Hv (putN n d ns fs).2 vs'
  | [], fs, vs, hl, r => by
    have e : vs = [] := List.eq_nil_of_length_eq_zero hl.symm
    subst e
    exact ⟨[v], rfl, rfl, .cons hr .nil⟩
  | m :: ns, [], vs, hl, r => by
    rw [r.nil_inv] at hl
    cases hl
  | m :: ns, e :: fs, vs, hl, r => by
    obtain ⟨u, t, rfl, h1, h2⟩ := r.cons_inv
    by_cases q : m = n
    · subst q
      refine ⟨v :: t, ?_, ?_, ?_⟩
      · rw [List.map_cons, List.zip_cons_cons, putF, if_pos rfl, putN, if_pos rfl]
        rfl
      · rw [putN, if_pos rfl]
        simpa using hl
      · rw [putN, if_pos rfl]
        exact .cons hr h2
    · obtain ⟨vs', e1, e2, e3⟩ := putN_ok inj hr (by simpa using hl) h2
      refine ⟨u :: vs', ?_, ?_, ?_⟩
      · rw [List.map_cons, List.zip_cons_cons, putF, if_neg (fun z => q (inj m z)), putN, if_neg q, e1]
        rfl
      · rw [putN, if_neg q]
        simpa using e2
      · rw [putN, if_neg q]
        exact .cons h1 e3
section
variable {X : Cx} {B : Bd} {W : WX} {rf : Bool} {e : Expr} {f : Ev} {pos pos' np : Pos} {i n : Nat} {x y : Str} {cs : List Nat}
theorem s_fldS (hi : i ∈ B.M) (he : DE X B W e f) (hx : x = B.G.fld n) (inj : ∀ m, B.G.fld m = B.G.fld n → m = n) (hc : ∀ c ∈ cs, Cls X.K (B.G.cls c) ∧ NoAttr X.K (B.G.cls c) x) (hN : X.N[i]? = some y := by rfl) (hv : Vis X.env.scope y := by first | exact Or.inl rfl | exact Or.inr (Or.inl rfl) | exact Or.inr (Or.inr rfl)) (hd : (y == ("__debug__" : Str)) = false := by decide) (hcd : (y == ("__classdict__" : Str)) = false := by decide)
    (hs : swapsWith e (some (.Attribute (.Name y np) x pos')) pos.line X.env = pure false := by rfl) : DS X B W rf (.Assign [.Attribute (.Name y np) x pos'] e pos) (sFldS i n cs f) := by
  refine ps_imp (ps_fld (pe_var hN hv hd hcd) he hs) fun D σ H hh => ?_
  obtain ⟨fr, Hv, R, hh⟩ := hh
  refine ⟨fr, Hv, R, ?_⟩
  unfold sFldS at hh
  cases hg : f fr with
  | bad => rw [hg] at hh; exact hh.elim
  | exc c fs fr1 =>
    rw [hg] at hh
    exact fun dd H' Hv' m => hh dd σ H' Hv' m.rel m.ext
  | ok d fr1 =>
    rw [hg] at hh
    dsimp only [Res.bind] at hh
    intro v H1 Hv1 n1 r
    split at hh
    · next hp =>
      have r := r.rep fun i z => by rw [z] at hp; cases hp
      split at hh
      · next c ns fs ei =>
        split at hh
        · next hcc =>
          split at hh
          · next hlen =>
            obtain ⟨a, hsl, hva, hn, dx, vs, ea, hl, rl⟩ := n1.rel.own i _ ⟨ei, rfl⟩ hi
            obtain ⟨c1, c2⟩ := hc c hcc
            obtain ⟨vs', e1, e2, e3⟩ := putN_ok inj r hl rl
            refine ⟨_, hsl, a, _, dx, _, rfl, ea, c1, c2, ?_, ?_⟩
            · rw [List.length_zip, List.length_map]
              omega
            · have hcell : Cell B.G (upd H1 a (.ins (B.G.cls c) dx (putF x v ((ns.map B.G.fld).zip vs)))) Hv1 a (.obj c (putN n d ns fs).1 (putN n d ns fs).2) := ⟨dx, vs', by rw [upd_same, hx, e1], e2, e3⟩
              have m := n1.rel.mut hi ⟨ei, rfl⟩ hsl hcell
              exact hh σ _ Hv1 m.rel (n1.ext.trans m.ext)
          · exact (hh : False).elim
        · exact (hh : False).elim
      · exact (hh : False).elim
    · exact (hh : False).elim
end
theorem passLN {X : Cx} : Passes (L2N.CX X.prog X.w) X (fun _ _ _ => False) := fun _ _ _ _ _ _ _ h => by
  obtain ⟨_, _, _, _, _, _, _, _, _, _, _, _, z⟩ := h
  exact z.elim
theorem takes0N {X : Cx} : L2N.Takes X (fun _ _ _ _ => False) := fun u s' x => by
  obtain ⟨_, _, _, _, _, _, _, _, _, _, _, _, _, _, _, _, w⟩ := x
  exact False.elim w
section
variable {X : Cx} {e : Expr} {es : List Expr} {ta : TA} {p pos : Pos}
/-- an own exception made: its context is None -/
theorem pmk_oexN {CX : CXT} {x : Str} {C fI : Addr} {k : Nat} {fd : FuncData} {ps : List Str} {sp : Sp} {ds : List Value} {dvs : List V} (T : OexC X.K C) (iC : PySem.W.findIn X.K (.ref C) "__init__" = some (some (.ref fI))) (tI : PySem.W.typeIn X.K (.ref fI) = some (.type "function"))
    (F1 : FnOk X.prog X.w X.K X.mg X.base CX k fI fd ps sp) (hr : Room (k + 1) X.A) (hb : Binds X.K fd ps ds) (hd : Vals dvs ds) (hx : Passes CX X (fun _ _ _ => False)) (hg : Gl X x) (hm : X.mg x = some (.ref C)) (ha : PA X (e :: es) ta)
    (hdb : (x == ("__debug__" : Str)) = false := by decide) (he : starEach (e :: es) X.env = (false, eval e X.env) :: starEach es X.env := by rfl) (hpl : (backTo pos (starEach es X.env)).any (·.1) = false := by rfl) :
    L2N.PMk X (.Call (.Name x p) (e :: es) [] pos) (tMkO C sp dvs ta) := by
  intro pins s σ H Q I h
  obtain ⟨nm, q, N, bs, bm, sn, sub, ab, col, dd, k0, k1, k2, k3, k5, hC, hbm⟩ := T.cls
  refine wpAny_Call_Name_kw (ld_glob I hg hm ?_ hdb)
  refine PySem.W.callWith_K (h₀ := X.base) I.ok.mod.kin T.kC (thn (ha.run pos pins s σ H _ I h) fun us s1 ⟨vs, H1, I1, r1, hz, q1⟩ => ⟨I1.kIn, ?_⟩) he hpl
  show wpAny _ _ (call (.ref C) us) _ _ _
  obtain ⟨hp, g, dr, tk, os⟩ := s1
  have hsz : hp.objs.size ≤ hp.objs.size + 1 := Nat.le_succ _
  have hn : H1 (hp.objs.size + 1) = none := I1.hok.fresh hsz
  have hq := q1 (hp.objs.size + 1) hn
  have kk : ∀ b o, hp.get? b = some o → ((hp.push (PySem.W.kdv_tup us)).push (PySem.HandSPX.excO C hp.objs.size)).get? b = some o := fun b o e => Heap.get?_push_of_some _ (Heap.get?_push_of_some _ e)
  have hget : ((hp.push (PySem.W.kdv_tup us)).push (PySem.HandSPX.excO C hp.objs.size)).get? (hp.objs.size + 1) = some (PySem.HandSPX.excO C hp.objs.size) := by heap_get
  have I2 : Inv X pins σ (upd H1 (hp.objs.size + 1) (exo (hp.objs.size + 1) C none)) ⟨(hp.push (PySem.W.kdv_tup us)).push (PySem.HandSPX.excO C hp.objs.size), g, dr, tk, os⟩ :=
    I1.laid (t' := tk) (a := hp.objs.size + 1) (o := exo (hp.objs.size + 1) C none) (h' := (hp.push (PySem.W.kdv_tup us)).push (PySem.HandSPX.excO C hp.objs.size)) kk hsz (exo_ok hget)
  have r2 : Vals (V.ref (hp.objs.size + 1) :: (vs ++ dvs)) (Value.ref (hp.objs.size + 1) :: (us ++ ds)) := .cons rfl (r1.append hd)
  have hl : (Value.ref (hp.objs.size + 1) :: us ++ ds).length = ps.length := by
    have e := r2.length
    rw [F1.len _ _ _ _ hq] at e
    exact e.symm
  have hus : us.length ≤ sizeLine := by
    rw [← Paired.length r1, sizeLine_eq]
    omega
  refine wpAny_call (PySem.HandSPX.call_own PySem.F.excBase_ValueError (fun Y => PySem.HandSPX.refsVE_contains Y bm hbm) (I1.kIn _ _ hC) (PySem.W.looks_findIn I1.kIn iC) (fun self => PySem.W.bind_fn I1.kIn self tI) hus
    (codeAny_mono (F1.run _ X.stack _ _ ⟨Value.ref (hp.objs.size + 1) :: us, []⟩ (Value.ref (hp.objs.size + 1) :: (us ++ ds)) _ _ (fun _ _ _ => False) (hr.make C us []) (I2.env0.make C us []) (hb _ (Value.ref (hp.objs.size + 1) :: us) I2.kIn hl) r2 hq) fun r s' hq' => ?_))
  cases r with
  | error er => exact hx pins σ _ _ er s' I2 hq'
  | ok fl =>
    cases fl with
    | ret u =>
      obtain ⟨v, H2, os2, bare2, un2, hok2, rv, ev, d, fs, ea, ed, hd1, q2⟩ := hq'
      subst ev
      obtain ⟨h2, g2, d2, t2, os'⟩ := s'
      obtain ⟨t0, G, J, kG, ge, hoe, na⟩ := mk_end0 (d2 := d2) (t2 := t2) I1 hsz kk un2 hok2 os2 bare2 ea ed hd1
      exact ⟨rv, ⟨_, _, _, ⟨G, g2, d2, t2, os'⟩, _, .ref C, some d, rfl, J, kG, ge, hoe, ⟨rfl, rfl, fun vs e => by cases e; rfl⟩, rfl, rfl, na, rfl, bare2, raises_own T.exC T.tyC, q2⟩⟩
    | next => exact False.elim hq'
    | brk => exact False.elim hq'
    | cont => exact False.elim hq'
end
/-- what the __init__ of an exception's class gives: its fields in its dict -/
def oexSp (C : Addr) (nms : List Str) : Sp := fun vs H Q E => ∃ a ws, vs = .ref a :: ws ∧ ws.length = nms.length ∧ H a = some (exo a C none) ∧
  ∀ d l, H d = none → d ≠ a → (∀ (k : Nat) (n : Str) (v : V), nms[k]? = some n → ws[k]? = some v → l.lookup n = some v) → Q .non (upd (upd H d (exd d l)) a (exo a C (some d)))
def sRaise (c n : Nat) (g : Av) : Sv := fun fr => (g fr).bind fun ds fr1 => if ds.all pers = true ∧ ds.length = n then .exc c ds fr1 else .bad
section
variable {X : Cx} {B : Bd} {W : WX} {rf : Bool} {e : Expr} {es : List Expr} {g : Av} {k : Nat} {f : Addr} {fd : FuncData} {ps : List Str} {x : Str} {p pos cpos : Pos} {c n : Nat}
theorem s_raise (T : OexC X.K (B.G.ecls c)) (iC : PySem.W.findIn X.K (.ref (B.G.ecls c)) "__init__" = some (some (.ref f))) (tI : PySem.W.typeIn X.K (.ref f) = some (.type "function")) (Fk : FnOk X.prog X.w X.K X.mg X.base (L2N.CX X.prog X.w) k f fd ps (oexSp (B.G.ecls c) (B.G.efld c))) (hr : Room (k + 1) X.A) (hb : Binds X.K fd ps []) (hm : X.mg x = some (.ref (B.G.ecls c)))
    (hn : (B.G.efld c).length = n) (hn9 : n ≤ 900) (hc : X.calm = true) (tk : L2N.Takes X W) (ha : DA X B W (e :: es) g) (hg : Gl X x := by rfl) (hdb : (x == ("__debug__" : Str)) = false := by decide) (he : starEach (e :: es) X.env = (false, eval e X.env) :: starEach es X.env := by rfl) (hpl : (backTo cpos (starEach es X.env)).any (·.1) = false := by rfl) :
    DS X B W rf (.Raise (some (.Call (.Name x p) (e :: es) [] cpos)) none pos) (sRaise c n g) := by
  refine ps_imp (L2N.ps_raise hc tk (pmk_oexN T iC tI Fk hr hb .nil passLN hg hm ha hdb he hpl)) fun D σ H hh => ?_
  obtain ⟨fr, Hv, R, hh⟩ := hh
  refine ⟨fr, Hv, R, ?_⟩
  unfold sRaise at hh
  cases hgf : g fr with
  | bad => rw [hgf] at hh; exact hh.elim
  | exc c fs fr1 =>
    rw [hgf] at hh
    exact fun dd H' Hv' m => hh dd σ H' Hv' m.rel m.ext
  | ok ds fr1 =>
    rw [hgf] at hh
    dsimp only [Res.bind] at hh
    intro vs H1 Hv1 n1 rws
    split at hh
    · next hp =>
      have rl := pers_repL rws hp.1
      have hvl := rl.length
      refine ⟨by omega, fun a hna => ⟨a, vs, by rw [List.append_nil], by omega, upd_same, fun d l hd hda hl => ⟨rfl, d, l, upd_same, ?_, ?_, ?_⟩⟩⟩
      · rw [upd_ne hda, upd_same]
      · rw [upd_ne hda] at hd
        exact hd
      · have hdn : H1 d = none := by rw [upd_ne hda] at hd; exact hd
        have key : upd (del (upd (upd (upd H1 a (exo a (B.G.ecls c) none)) d (exd d l)) a (exo a (B.G.ecls c) (some d))) a) d (.xd l) = upd H1 d (.xd l) := by
          funext b
          by_cases hbd : b = d
          · rw [hbd, upd_same, upd_same]
          · rw [upd_ne hbd, upd_ne hbd]
            by_cases hba : b = a
            · rw [hba, del_same, hna]
            · rw [del_ne hba, upd_ne hba, upd_ne hbd, upd_ne hba]
        rw [key]
        refine hh d σ _ Hv1 (n1.rel.lay hdn) n1.ext ⟨l, upd_same, by omega, fun k nm dk e1 e2 => ?_⟩
        obtain ⟨v, h1, h2⟩ := rl.get e2
        exact ⟨v, hl k nm v e1 h1, h2⟩
    · exact (hh : False).elim
end
end KS
namespace KS
open PySem PySem.Spec PyProof.Rows L2
open PySem.W (EachIs AllAlike Sortable list_sort_data dataLe dataLe_ii alike alikeAll)
abbrev PP := Int × Int
def leP (p q : PP) : Bool := decide (p.1 < q.1 ∨ (p.1 = q.1 ∧ p.2 ≤ q.2))
theorem eachIs_get {α β : Type} {R : α → β → Prop} : ∀ {l : List α} {m : List β}, l.length = m.length → (∀ (i : Nat) (a : α) (b : β), l[i]? = some a → m[i]? = some b → R a b) → EachIs R l m
  | [], [], _, _ => .nil
  | a :: l, b :: m, hl, h => .cons (h 0 a b rfl rfl) (eachIs_get (by simpa using hl) fun i a b e f => h (i + 1) a b (by simpa using e) (by simpa using f))
  | [], _ :: _, hl, _ => by simp at hl
  | _ :: _, [], hl, _ => by simp at hl
theorem get_eachIs {α β : Type} {R : α → β → Prop} {l : List α} {m : List β} (h : EachIs R l m) : ∀ (i : Nat) (a : α) (b : β), l[i]? = some a → m[i]? = some b → R a b := by
  induction h with
  | nil => intro i a b e; simp at e
  | cons h t ih =>
    intro i a b e f
    cases i with
    | zero => cases e; cases f; exact h
    | succ i => exact ih i a b (by simpa using e) (by simpa using f)
end KS
namespace KS
open PySem PySem.Spec L2
def toKey : D → Option L2.Key
  | .int i => some (.inl i)
  | .str s => some (.inr s)
  | _ => none
def toKeys : List D → Option (List L2.Key)
  | [] => some []
  | d :: ds => match toKey d, toKeys ds with
    | some k, some ks => some (k :: ks)
    | _, _ => none
abbrev TD := List (List L2.Key × D)
def dTm (kvs : TD) : D := .dct (.bl true :: kvs.map fun p => .tup (p.1.map kD)) (kvs.map (·.2))
def zipT : List D → List D → Option TD
  | [], [] => some []
  | .tup ds :: ks, v :: vs => match toKeys ds, zipT ks vs with
    | some k, some r => some ((k, v) :: r)
    | _, _ => none
  | _, _ => none
def unT : D → Option TD
  | .dct (.bl true :: ks) vs => zipT ks vs
  | _ => none
theorem toKeys_kD : ∀ k : List L2.Key, toKeys (k.map kD) = some k
  | [] => rfl
  | .inl i :: k => by simp [toKeys, kD, toKey, toKeys_kD k]
  | .inr i :: k => by simp [toKeys, kD, toKey, toKeys_kD k]
theorem zipT_map : ∀ kvs : TD, zipT (kvs.map fun p => .tup (p.1.map kD)) (kvs.map (·.2)) = some kvs
  | [] => rfl
  | (k, v) :: r => by simp [zipT, toKeys_kD, zipT_map r]
@[simp] theorem unT_dTm (kvs : TD) : unT (dTm kvs) = some kvs := zipT_map kvs
def valV' (kvs : TD) (k : List L2.Key) : Option D := (kvs.find? fun kv => decide (kv.1 = k)).map (·.2)
def putK' (kvs : TD) (k : List L2.Key) (v : D) : TD := if (kvs.any fun kv => decide (kv.1 = k)) = true then kvs.map (fun kv => if kv.1 = k then (kv.1, v) else kv) else kvs ++ [(k, v)]
def dropK' (kvs : TD) (k : List L2.Key) : TD := kvs.filter fun kv => decide (kv.1 ≠ k)
inductive KP (G : SE) (Hv : Hp) : TD → List (List L2.Key × V) → Prop where
  | nil : KP G Hv [] []
  | cons {k : List L2.Key} {d : D} {v : V} {r : TD} {s : List (List L2.Key × V)} (h : Rep G Hv d v) (t : KP G Hv r s) : KP G Hv ((k, d) :: r) ((k, v) :: s)
theorem KP.cell {G : SE} {H Hv : Hp} {a : Addr} {kvs : TD} {us : List (List L2.Key × V)} (h : KP G Hv kvs us) (e : H a = some (.dT us)) : Cell G H Hv a (dTm kvs) := by
  have z : kvs.map (fun p => D.tup (p.1.map kD)) = us.map (fun p => D.tup (p.1.map kD)) ∧ RepL G Hv (kvs.map (·.2)) (us.map (·.2)) := by
    clear e
    induction h with
    | nil => exact ⟨rfl, .nil⟩
    | cons h t ih => exact ⟨by rw [List.map_cons, List.map_cons, ih.1], .cons h ih.2⟩
  exact ⟨_, .inl ⟨us, e, by rw [z.1], rfl⟩, z.2⟩
theorem KP.length {G : SE} {Hv : Hp} {kvs : TD} {us : List (List L2.Key × V)} (h : KP G Hv kvs us) : us.length = kvs.length := by
  induction h with
  | nil => rfl
  | cons h t ih => rw [List.length_cons, List.length_cons, ih]
theorem KP.val {G : SE} {Hv : Hp} {kvs : TD} {us : List (List L2.Key × V)} (h : KP G Hv kvs us) (k : List L2.Key) : (valV' kvs k).isSome = (valV us k).isSome ∧ ∀ d, valV' kvs k = some d → ∃ v, valV us k = some v ∧ Rep G Hv d v := by
  induction h with
  | nil => exact ⟨rfl, fun d e => by cases e⟩
  | @cons k' d v r s h t ih =>
    by_cases e : k' = k
    · exact ⟨by simp [valV', valV, e], fun d' e' => by
        have : d = d' := by simpa [valV', e] using e'
        subst this
        exact ⟨v, by simp [valV, e], h⟩⟩
    · have e1 : valV' ((k', d) :: r) k = valV' r k := by simp [valV', e]
      have e2 : valV ((k', v) :: s) k = valV s k := by simp [valV, e]
      rw [e1, e2]
      exact ih
theorem KP.any {G : SE} {Hv : Hp} {kvs : TD} {us : List (List L2.Key × V)} (h : KP G Hv kvs us) (k : List L2.Key) : (kvs.any fun kv => decide (kv.1 = k)) = us.any fun kv => decide (kv.1 = k) := by
  induction h with
  | nil => rfl
  | cons h t ih => rw [List.any_cons, List.any_cons, ih]
theorem KP.put {G : SE} {Hv : Hp} {kvs : TD} {us : List (List L2.Key × V)} (h : KP G Hv kvs us) {k : List L2.Key} {d : D} {v : V} (r : Rep G Hv d v) : KP G Hv (putK' kvs k d) (putK us k v) := by
  unfold putK' putK
  rw [h.any k]
  split
  · rename_i hh0
    clear hh0
    induction h with
    | nil => exact .nil
    | @cons k' d' v' r' s' h t ih =>
      rw [List.map_cons, List.map_cons]
      by_cases e : k' = k
      · simp only [e, if_true]
        exact .cons r ih
      · simp only [e, if_false]
        exact .cons h ih
  · rename_i hh0
    clear hh0
    induction h with
    | nil => exact .cons r .nil
    | cons h t ih => exact .cons h ih
theorem KP.drop {G : SE} {Hv : Hp} {kvs : TD} {us : List (List L2.Key × V)} (h : KP G Hv kvs us) (k : List L2.Key) : KP G Hv (dropK' kvs k) (dropK us k) := by
  unfold dropK' dropK
  induction h with
  | nil => exact .nil
  | @cons k' d' v' r' s' h t ih =>
    by_cases e : k' = k
    · rw [List.filter_cons_of_neg (by simp [e]), List.filter_cons_of_neg (by simp [e])]
      exact ih
    · rw [List.filter_cons_of_pos (by simp [e]), List.filter_cons_of_pos (by simp [e])]
      exact .cons h ih
end KS
namespace KS
open PySem PySem.Spec L2
theorem KP.keys {G : SE} {Hv : Hp} {kvs : TD} {us : List (List L2.Key × V)} (h : KP G Hv kvs us) : us.map (·.1) = kvs.map (·.1) := by
  induction h with
  | nil => rfl
  | cons h t ih => rw [List.map_cons, List.map_cons, ih]
end KS
namespace KS
open PySem PySem.Spec L2
def tOexs (K : PySem.W.Frag) : Nat → List Str → TS
  | _, [] => tNext
  | k, n :: ns => tSeq (tOst K n (tVar 0) (tVar k)) (tOexs K (k + 1) ns)
theorem oexs_go {K : PySem.W.Frag} {C a d : Addr} {σ : L2.St} {D : Ends} (T : OexC K C) (hs : σ[0]? = some (some (.ref a))) (hda : d ≠ a) : ∀ (ns : List Str) (k : Nat) (ws : List V) (l : List (Str × V)) (H : Hp), H a = some (exo a C (some d)) → H d = some (exd d l) → ws.length = ns.length → l.length + ns.length ≤ 900 → ns.Nodup →
    (∀ n ∈ ns, PySem.W.findIn K (.ref C) n = some none) → (∀ i v, ws[i]? = some v → σ[k + i]? = some (some v)) →
    (∀ l', (∀ (i : Nat) (n : Str) (v : V), ns[i]? = some n → ws[i]? = some v → l'.lookup n = some v) → (∀ n, n ∉ ns → l'.lookup n = l.lookup n) → D.nx σ (upd H d (exd d l'))) → tOexs K k ns D σ H
  | [], k, ws, l, H, ha, hd, hl, hz, nd, hn, hv, q => by
    show D.nx σ H
    have e : upd H d (exd d l) = H := by
      funext b
      by_cases h : b = d
      · rw [h, upd_same, hd]
      · rw [upd_ne h]
    rw [← e]
    exact q l (fun i n v h => by simp at h) fun n _ => rfl
  | n :: ns, k, [], l, H, ha, hd, hl, hz, nd, hn, hv, q => by simp at hl
  | n :: ns, k, w :: ws, l, H, ha, hd, hl, hz, nd, hn, hv, q => by
    refine ⟨w, by have := hv 0 w rfl; simpa using this, _, hs, a, C, rfl, T, hn n (List.mem_cons_self ..), .inr ⟨d, l, ha, hd, by simp at hz; omega, ?_⟩⟩
    rw [List.nodup_cons] at nd
    refine oexs_go T hs hda ns (k + 1) ws ((n, w) :: l) _ (by rw [upd_ne (Ne.symm hda)]; exact ha) upd_same (by simpa using hl) (by simp at hz ⊢; omega) nd.2 (fun m hm => hn m (List.mem_cons_of_mem _ hm)) (fun i v h => by
      have := hv (i + 1) v (by simpa using h)
      rwa [show k + (i + 1) = k + 1 + i by omega] at this) fun l' h1 h2 => ?_
    have e : upd (upd H d (exd d ((n, w) :: l))) d (exd d l') = upd H d (exd d l') := by
      funext b
      by_cases h : b = d
      · rw [h, upd_same, upd_same]
      · rw [upd_ne h, upd_ne h, upd_ne h]
    rw [e]
    refine q l' (fun i m v e1 e2 => ?_) fun m hm => ?_
    · cases i with
      | zero =>
        cases e1
        cases e2
        rw [h2 n nd.1]
        simp [List.lookup]
      | succ i => exact h1 i m v (by simpa using e1) (by simpa using e2)
    · rw [List.mem_cons, not_or] at hm
      rw [h2 m hm.2]
      have : (m == n) = false := by simpa using hm.1
      simp [List.lookup, this]
theorem fn_oex {P : Program} {w : World} {K : PySem.W.Frag} {mg : Str → Option Value} {base : Heap} {x qual : Str} {st : Stmt} {f C : Addr} {fd : FuncData} {N ps nms : List Str} (k : Nat) (F : Fun K x qual st f fd) (S : FnScope N ps (defScope st)) (hlen : ps.length = nms.length + 1) (hNl : ps.length ≤ N.length) (T : OexC K C)
    (h1 : 1 ≤ nms.length) (h9 : nms.length ≤ 900) (nd : nms.Nodup) (hn : ∀ n ∈ nms, PySem.W.findIn K (.ref C) n = some none)
    (hbody : ∀ (cdv : Value) (A : Around) (outer : List Env) (s : Shared) (H : Hp) (E : XK), PSs (cxOf (L2N.CX P w) P w K mg base N qual (defScope st) f cdv A outer s H E) (defBody st) (tOexs K 1 nms)) :
    FnOk P w K mg base (L2N.CX P w) (k + 1) f fd ps (oexSp C nms) := by
  refine okXN F S (fun vs H Q E h => ?_) (fun cdv A outer s H vs Q E hr h => ⟨_, hbody cdv A outer s H E, ?_⟩)
  · obtain ⟨a, ws, rfl, hl, _⟩ := h
    rw [List.length_cons, hl, hlen]
  · obtain ⟨a, ws, rfl, hl, ha, q⟩ := h
    have get : ∀ (i : Nat) (v : V), (V.ref a :: ws)[i]? = some v → (L2.start N (V.ref a :: ws))[i]? = some (some v) := fun i v e => (start_get (by rw [List.length_cons, hl, ← hlen]; exact hNl)).mpr e
    cases nms with
    | nil => simp at h1
    | cons n ns =>
      cases ws with
      | nil => simp at hl
      | cons w ws =>
        have g0 := get 0 _ rfl
        rw [List.nodup_cons] at nd
        refine ⟨w, get 1 w rfl, _, g0, a, C, rfl, T, hn n (List.mem_cons_self ..), .inl ⟨ha, fun d hd hda => ?_⟩⟩
        refine oexs_go T g0 hda ns 2 ws [(n, w)] _ upd_same (by rw [upd_ne hda]; exact upd_same) (by simpa using hl) (by simp at h9 ⊢; omega) nd.2 (fun m hm => hn m (List.mem_cons_of_mem _ hm)) (fun i v e => by
          have := get (i + 2) v (by simpa using e)
          rwa [show i + 2 = 2 + i by omega] at this) fun l' e1 e2 => ?_
        have e : upd (upd (upd H d (exd d [(n, w)])) a (exo a C (some d))) d (exd d l') = upd (upd H d (exd d l')) a (exo a C (some d)) := by
          funext b
          by_cases hb : b = d
          · rw [hb, upd_same, upd_ne hda, upd_same]
          · rw [upd_ne hb]
            by_cases hb2 : b = a
            · rw [hb2, upd_same, upd_same]
            · rw [upd_ne hb2, upd_ne hb, upd_ne hb2, upd_ne hb]
        show Q .non _
        rw [e]
        refine q d l' hd hda fun i m v g1 g2 => ?_
        cases i with
        | zero =>
          cases g1
          cases g2
          rw [e2 n nd.1]
          simp [List.lookup]
        | succ i => exact e1 i m v (by simpa using g1) (by simpa using g2)
end KS
namespace KS
open PySem PySem.Spec L2
def orF (F G : D → D → Option D) : D → D → Option D := fun a b => match F a b with
  | some z => some z
  | none => G a b
theorem OpS.or {B : Bd} {r r' : R2} {F F' : D → D → Option D} (h : OpS B r F) (h' : OpS B r' F') : OpS B (fun x y H Q => r x y H Q ∨ r' x y H Q) (orF F F') := by
  intro fr σ H Hv x y dx dy a b z Q R rx ry hx hy hz k
  unfold orF at hz
  split at hz
  · next w e =>
    cases hz
    exact .inl (h fr σ H Hv x y dx dy a b _ Q R rx ry hx hy e k)
  · exact .inr (h' fr σ H Hv x y dx dy a b _ Q R rx ry hx hy hz k)
def leTs (ns ms : List Int) : Bool := Ob.lexAt (fun j => decide (ns.getD j 0 = ms.getD j 0)) (fun j => decide (ns.getD j 0 ≤ ms.getD j 0)) (decide (ns.length ≤ ms.length)) 0 (min ns.length ms.length)
def leTF : D → D → Option D
  | .tup ds, .tup es => match intsOf ds, intsOf es with
    | some ns, some ms => some (.bl (leTs ns ms))
    | _, _ => none
  | _, _ => none
section
variable {X : Cx} {B : Bd}
theorem ops_leT (hK : X.K = B.G.K) : OpS B (rLeT X.K) leTF := by
  intro fr σ H Hv x y dx dy a b z Q R rx ry hx hy hz k
  unfold leTF at hz
  split at hz
  · split at hz
    · next ns ms h1 h2 =>
      cases hz
      obtain ⟨p, vs, rfl, q, _, r⟩ := R.tup_of rx hx
      obtain ⟨p2, vs2, rfl, q2, _, r2⟩ := R.tup_of ry hy
      have e1 := ints_rep r h1
      have e2 := ints_rep r2 h2
      subst e1 e2
      exact ⟨p, p2, ns, ms, rfl, rfl, by rw [hK]; exact q, by rw [hK]; exact q2, k _ H Hv (.refl R) repB⟩
    · cases hz
  · cases hz
abbrev leA : D → D → Option D := orF leF leTF
theorem ops_leA (hK : X.K = B.G.K := by rfl) : OpS B (fun x y H Q => rI0 (fun i j => .bl (decide (i ≤ j))) x y H Q ∨ rLeT X.K x y H Q) leA := ops_le.or (ops_leT hK)
theorem op_leA (hu : X.A.units < cLine) : OpR X (compareOp .LtE) (fun x y H Q => rI0 (fun i j => .bl (decide (i ≤ j))) x y H Q ∨ rLeT X.K x y H Q) := op_le.or (op_leT hu)
def inSF : D → D → Option D
  | .str i, .str j => some (.bl (!(Builtin.Str.occurrences j i 0 j.length 1).isEmpty))
  | _, _ => none
theorem ops_inS : OpS B (fun x y H Q => ∃ i j, x = .str i ∧ y = .str j ∧ Q (.bl (!(Builtin.Str.occurrences j i 0 j.length 1).isEmpty)) H) inSF := by
  intro fr σ H Hv x y dx dy a b z Q R rx ry hx hy hz k
  unfold inSF at hz
  split at hz
  · cases hz
    rw [R.str_of rx hx, R.str_of ry hy]
    exact ⟨_, _, rfl, rfl, k _ H Hv (.refl R) repB⟩
  · cases hz
abbrev inA : D → D → Option D := orF inF inSF
theorem ops_inA (hK : X.K = B.G.K := by rfl) : OpS B (fun x y H Q => rInD X.K x y H Q ∨ (∃ i j, x = .str i ∧ y = .str j ∧ Q (.bl (!(Builtin.Str.occurrences j i 0 j.length 1).isEmpty)) H)) inA := (ops_ing hK V.bl D.bl fun _ _ => repB).or ops_inS
theorem op_inA (hu : X.A.units + 65 < cLine) : OpR X (compareOp .In) (fun x y H Q => rInD X.K x y H Q ∨ (∃ i j, x = .str i ∧ y = .str j ∧ Q (.bl (!(Builtin.Str.occurrences j i 0 j.length 1).isEmpty)) H)) := (op_inD hu).or op_in_str
theorem ops_notIn (hK : X.K = B.G.K := by rfl) : OpS B (rNotInD X.K) notInF := ops_ing hK (fun k => V.bl (!k)) (fun k => D.bl (!k)) fun _ _ => repB
theorem ops_eqA (hK : X.K = B.G.K := by rfl) : OpS B (fun x y H Q => rEq x y H Q ∨ rEqD X.K x y H Q) eqF := ops_eq hK
theorem ops_neA (hK : X.K = B.G.K := by rfl) : OpS B (fun x y H Q => rNe x y H Q ∨ rNeD X.K x y H Q) neF := ops_ne hK
end
theorem u0 {k : Nat} {A : Around} (r : Room k A) : A.units < cLine := by have := r.un; omega
theorem u1 {k : Nat} {A : Around} (r : Room k A) : A.units + 1 < cLine := by have := r.un; omega
theorem u16 {k : Nat} {A : Around} (r : Room k A) : A.units + 16 < cLine := by have := r.un; omega
theorem u64 {k : Nat} {A : Around} (r : Room k A) : A.units + 64 < cLine := by have := r.un; omega
theorem u65 {k : Nat} {A : Around} (r : Room k A) : A.units + 65 < cLine := by have := r.un; omega
theorem op_eqA {X : Cx} (hu : X.A.units + 64 < cLine) : OpR X (compareOp .Eq) (fun x y H Q => rEq x y H Q ∨ rEqD X.K x y H Q) := op_eq.or (op_eqD hu)
theorem op_neA {X : Cx} (hu : X.A.units + 64 < cLine) : OpR X (compareOp .NotEq) (fun x y H Q => rNe x y H Q ∨ rNeD X.K x y H Q) := op_ne.or (op_neD hu)
theorem io_ne {ms : List Bool} {io : List (Nat × Addr)} {i : Nat} (h : ∀ p ∈ io, ms[p.1]? = some true) (hi : ms[i]? ≠ some true) : ∀ p ∈ io, p.1 ≠ i := fun p hp z => hi (by rw [← z]; exact h p hp)
theorem fnok_bad {G : SE} {k : Nat} {f : Addr} {fd : FuncData} {ps : List Str} {ms : List Bool} {rf : Bool} : FnOk G.P G.w G.K G.mg G.base (L2N.CX G.P G.w) k f fd ps (spOf G ms rf fun _ => .bad) :=
  ⟨fun vs H Q E h => by obtain ⟨_, _, _, z⟩ := h; exact z.elim, fun A outer s H args us vs Q E _ _ _ _ h => by obtain ⟨_, _, _, z⟩ := h; exact z.elim⟩
theorem pts1 {X : Cx} {c : Expr} {t : TT} (h : PT X c t) : PTs X [c] t := pts_one h
end KS
namespace KS
open PySem PySem.Spec L2
theorem d_globE {X : Cx} {B : Bd} {W : WX} {x : Str} {v : V} {d : D} {pos : Pos} (h : ∃ u, X.mg x = some u ∧ RelV v u) (hr : Rep B.G (fun _ => none) d v) (hg : Gl X x := by rfl) (hd : (x == ("__debug__" : Str)) = false := by decide) : DE X B W (.Name x pos) (eC d) := by
  obtain ⟨u, hm, r⟩ := h
  exact d_glob hr hm r hg hd
theorem aLenN : ∀ fr ds fr1, aNil fr = .ok ds fr1 → ds.length = 0 := fun fr ds fr1 h => by cases h; rfl
theorem aLenC {f : Ev} {g : Av} {n : Nat} (k : ∀ fr ds fr1, g fr = .ok ds fr1 → ds.length = n) : ∀ fr ds fr1, aCons f g fr = .ok ds fr1 → ds.length = n + 1 := by
  intro fr ds fr1 h
  unfold aCons at h
  cases hf : f fr with
  | ok d fr2 =>
    rw [hf] at h
    dsimp only [Res.bind] at h
    cases hg : g fr2 with
    | ok es fr3 =>
      rw [hg] at h
      cases h
      rw [List.length_cons, k _ _ _ hg]
    | exc => rw [hg] at h; cases h
    | bad => rw [hg] at h; cases h
  | exc => rw [hf] at h; cases h
  | bad => rw [hf] at h; cases h
end KS
namespace KS
end KS
namespace KS
open PySem
@[simp] theorem bind_ok {σ α β : Type} (a : α) (s : σ) (k : α → σ → Res σ β) : (Res.ok a s).bind k = k a s := rfl
@[simp] theorem bind_exc {σ α β : Type} (c : Nat) (fs : List D) (s : σ) (k : α → σ → Res σ β) : (Res.exc c fs s).bind k = .exc c fs s := rfl
@[simp] theorem bind_bad {σ α β : Type} (k : α → σ → Res σ β) : (Res.bad).bind k = .bad := rfl
end KS
namespace KS
def Ends (r : Res Fr Fl) (P : Fl → Fr → Prop) : Prop := ∃ fl fr, r = .ok fl fr ∧ P fl fr
theorem Ends.mk {fl : Fl} {fr : Fr} {P : Fl → Fr → Prop} (h : P fl fr) : Ends (.ok fl fr) P := ⟨fl, fr, rfl, h⟩
theorem Ends.imp {r : Res Fr Fl} {P Q : Fl → Fr → Prop} (h : Ends r P) (k : ∀ fl fr, P fl fr → Q fl fr) : Ends r Q := by
  obtain ⟨fl, fr, e, p⟩ := h
  exact ⟨fl, fr, e, k fl fr p⟩
end KS
namespace KS
@[simp] theorem ends_ok {fl : Fl} {fr : Fr} {P : Fl → Fr → Prop} : Ends (.ok fl fr) P ↔ P fl fr := ⟨fun ⟨_, _, e, p⟩ => by cases e; exact p, fun p => ⟨_, _, rfl, p⟩⟩
end KS
namespace KS
end KS
namespace KS
open PySem
theorem outs_len {k : Nat} {fr : Fr} : (outsOf k fr).length = k := by simp [outsOf]
end KS
namespace KS
open PySem
end KS
namespace KS
open PySem PySem.Spec L2
end KS
namespace KS
open PySem PySem.Spec PyProof.Rows L2
open PySem.W (EachIs AllAlike Sortable dataLe alike alikeAll)
def encR (r : List Int) : PyData := .tuple (r.map .int)
def leR (p q : List Int) : Bool := decide (p ≤ q)
theorem enc_depth (r : List Int) : (encR r).depth ≤ 8 := by
  unfold encR
  rw [PyData.depth]
  suffices h : PyData.depthAll (r.map .int) ≤ 4 by omega
  induction r with
  | nil => simp [PyData.depthAll]
  | cons x r ih =>
    rw [List.map_cons, PyData.depthAll]
    have : (PyData.int x).depth ≤ 4 := by simp [PyData.depth]
    omega
theorem dataLe_rowsT : dataLe false encR = leR := by
  funext p q
  show (!PySem.W.dataLt (.tuple (q.map .int)) (.tuple (p.map .int))) = _
  rw [PySem.W.dataLt_tuple]
  show (!PySem.W.rowLt (q.map .int) (p.map .int)) = _
  rw [PySem.W.dataLt_ints]
  unfold leR
  by_cases h : q < p
  · have h' : ¬ p ≤ q := fun r => List.not_lt.mpr r h
    simp [h, h']
  · have h' : p ≤ q := List.not_lt.mp h
    simp [h, h']
def rSortR (K : PySem.W.Frag) : List V → Hp → VK → Prop := fun vs H Q => ∃ (a : Addr) (xs : List V) (rs : List (List Int)) (P : Addr → List Int → Prop), vs = [.ref a] ∧ SqL K H a xs ∧ xs.length = rs.length ∧ (∀ r ∈ rs, r ≠ []) ∧
  (∀ (i : Nat) (x : V) (r : List Int), xs[i]? = some x → rs[i]? = some r → ∃ q, x = .ref q ∧ SqT K H q (r.map V.int) ∧ P q r) ∧
  ∀ (qs : List Addr) (p : Addr), H p = none → qs.length = rs.length → (∀ (i : Nat) (q : Addr) (r : List Int), qs[i]? = some q → (rs.mergeSort leR)[i]? = some r → P q r) → Q (.ref p) (upd H p (.lst (qs.map V.ref)))
theorem reads_ints {h : Heap} : ∀ {r : List Int} {u : List Value}, Vals (r.map V.int) u → ReadsAll h u (r.map .int) []
  | [], _, .nil => .nil
  | x :: r, _, .cons h1 t => by
    obtain ⟨t1, rfl⟩ := h1
    have k := reads_ints (h := h) t
    exact .cons (as := []) (bs := []) (.int _ _) k
theorem cr_sortR {X : Cx} (hu : X.A.units + 16 < cLine) : CallR X (.builtin "sorted") (rSortR X.K) := by
  intro pins s σ H vs us Q I r h
  obtain ⟨a, xs, rs, P, rfl, hs, hl, hne, hx, q⟩ := h
  obtain ⟨its, rv, hli, hz⟩ := I.list hs
  rw [Vals.ref1 r]
  have hal : its.length = rs.length := by rw [← rv.length]; exact hl
  have key : ∀ (i : Nat) (v : Value) (r : List Int), its[i]? = some v → rs[i]? = some r → ∃ qa : Addr, v = .ref qa ∧ SqT X.K H qa (r.map V.int) ∧ P qa r := by
    intro i v r e1 e2
    have hi : i < xs.length := by
      have := (List.getElem?_eq_some_iff.mp e2).1
      omega
    obtain ⟨u, h1, h2⟩ := rv.get (List.getElem?_eq_getElem hi)
    rw [e1] at h1
    cases h1
    obtain ⟨qa, h3, h4, h5⟩ := hx i _ r (List.getElem?_eq_getElem hi) e2
    rw [h3] at h2
    cases h2
    exact ⟨qa, rfl, h4, h5⟩
  have hR : EachIs (fun (v : Value) (r : List Int) => ∃ qa : Addr, v = .ref qa ∧ P qa r) its rs := eachIs_get hal fun i v r e1 e2 => by
    obtain ⟨qa, h1, _, h2⟩ := key i v r e1 e2
    exact ⟨qa, h1, h2⟩
  have hrd : EachIs (fun (v : Value) (r : List Int) => ∃ as, Reads s.heap v (encR r) as) its rs := eachIs_get hal fun i v r e1 e2 => by
    obtain ⟨qa, rfl, h1, _⟩ := key i v r e1 e2
    obtain ⟨its2, rv2, ⟨o, ho, hc, n, hd⟩, _⟩ := I.tuple h1
    exact ⟨[], .tuple ho hc hd (by simpa using reads_ints rv2)⟩
  have hal2 : AllAlike (rs.map encR) := AllAlike.of fun b b' => by
    unfold encR
    simp only [alike]
    exact PySem.W.alike_ints _ _
  have hsr : Sortable (rs.map encR) := .inl fun d hd => by
    obtain ⟨b, hb, rfl⟩ := List.mem_map.mp hd
    cases b with
    | nil => exact absurd rfl (hne _ hb)
    | cons x r => exact ⟨.int x, r.map .int, rfl⟩
  refine PySem.W.sorted_data hli.isList hR hrd hal2 hsr (by rw [← hl]; exact hz) (fun b _ => ?_) fun out g1 g2 => ?_
  · have := enc_depth b
    show X.A.units + 2 + (encR b).depth < cLine
    omega
  rw [dataLe_rowsT] at g2
  obtain ⟨qs, rfl⟩ : ∃ qs : List Addr, out = qs.map Value.ref := by
    clear g1
    generalize rs.mergeSort leR = m at g2
    induction g2 with
    | nil => exact ⟨[], rfl⟩
    | cons h t ih =>
      obtain ⟨qa, rfl, _⟩ := h
      obtain ⟨qs, rfl⟩ := ih
      exact ⟨qa :: qs, rfl⟩
  obtain ⟨ep, he'⟩ := PyProof.Rows.sortedAll_at s.heap its (qs.map Value.ref).toArray
  have hlen : (qs.map V.ref).length ≤ sizeLine := by
    rw [List.length_map] at g1 ⊢
    omega
  have rv' : Vals (qs.map V.ref) (qs.map Value.ref) := by
    clear he' g1 g2 hlen
    induction qs with
    | nil => exact .nil
    | cons q qs ih => exact .cons rfl ih
  refine ⟨.ref _, upd H (s.heap.objs.size + 1) (.lst (qs.map V.ref)), I.laid (t' := s.toks) (fun _ _ => PyProof.Rows.sortedAll_old) (Nat.le_succ _) ⟨hlen, qs.map Value.ref, ep, rv', he'⟩, rfl, q qs _ (I.hok.fresh (Nat.le_succ _)) (by simpa using g1) fun i qa r e1 e2 => ?_⟩
  obtain ⟨q', e3, e4⟩ := get_eachIs g2 i (.ref qa) r (by rw [List.getElem?_map, e1]; rfl) e2
  cases e3
  exact e4
end KS
namespace KS
open PySem PySem.Spec PyProof.Rows L2
open PySem.W (EachIs AllAlike Sortable list_sort_data dataLe alike alikeAll)
section
variable {prog : Program} {w : World} {A : Around} {s : Shared} {E : Value → Shared → Prop}
theorem collect_tup {l : Addr} {us : List Value} {R : List Value → Shared → Prop} (hl : IsTup s.heap l us.toArray)
    (k : R us { s with heap := (s.heap.push (seqObj "list" #[] 0)).update s.heap.objs.size (Obj.mapSeq (· ++ us.toArray)) }) (hz : us.length ≤ sizeLine) : wpAny (model prog w) A (collect (.ref l)) R E s := by
  obtain ⟨o, ho, hc, n, hd⟩ := id hl
  unfold collect
  refine wpAny_bind (wpAny_runValue (codeAny_builtin entry_proto_collect' ?_)); show wpAny _ _ (do again (.builtin "list.__iadd__" ⟨[← newList [], .ref l], []⟩)) _ _ s
  refine wpAny_bind (wpAny_newList (wpAny_pure ⟨Code.quiet_builtin _ (by decide +kernel), codeAny_builtin entry_list_iadd' ?_⟩)); show wpAny _ _ (Builtin.List.listExtendWith (.ref s.heap.objs.size) (.ref l) (.ref s.heap.objs.size)) _ _ { s with heap := s.heap.push (seqObj "list" #[] 0) }
  unfold Builtin.List.listExtendWith
  have ho1 : (s.heap.push (seqObj "list" #[] 0)).get? l = some o := Heap.get?_push_of_some _ ho
  refine wpAny_bind (wpAny_typeOf (T := "tuple") ⟨o, ho1, hc⟩ ?_)
  rw [if_pos (by simp)]
  refine wpAny_bind (listItems_at ho1 hd (wpAny_bind (listItems_at (n := 0) (xs := #[]) (Heap.get?_push_size _ rfl) rfl ?_)))
  rw [if_neg (by simp)]
  refine wpAny_bind (listUpdate_at (n := 0) (xs := #[]) (Heap.get?_push_size _ rfl) rfl (wpAny_pure ?_) (Nat.zero_le _) (by show (#[] ++ us.toArray).size ≤ sizeLine + 1; rw [Array.size_append, List.size_toArray]; show 0 + us.length ≤ _; omega))
  refine wpAny_bind (wpAny_load (get?_update_seq (Heap.get?_push_size _ rfl) _) ?_)
  have e : ((#[] : Array Value) ++ us.toArray).toList = us := by simp
  show wpAny _ _ (pure ((#[] : Array Value) ++ us.toArray).toList) R E _
  rw [e]
  exact wpAny_pure k
end
def rSortT' (K : PySem.W.Frag) : List V → Hp → VK → Prop := fun vs H Q => ∃ (a : Addr) (xs : List V) (rs : List (List Int)) (P : Addr → List Int → Prop), vs = [.ref a] ∧ SqT K H a xs ∧ xs.length = rs.length ∧ (∀ r ∈ rs, r ≠ []) ∧
  (∀ (i : Nat) (x : V) (r : List Int), xs[i]? = some x → rs[i]? = some r → ∃ q, x = .ref q ∧ SqT K H q (r.map V.int) ∧ P q r) ∧
  ∀ (qs : List Addr) (p : Addr), H p = none → qs.length = rs.length → (∀ (i : Nat) (q : Addr) (r : List Int), qs[i]? = some q → (rs.mergeSort leR)[i]? = some r → P q r) → Q (.ref p) (upd H p (.lst (qs.map V.ref)))
theorem cr_sortRT {X : Cx} (hu : X.A.units + 16 < cLine) : CallR X (.builtin "sorted") (rSortT' X.K) := by
  intro pins s σ H vs us Q I r h
  obtain ⟨a, xs, rs, P, rfl, hs, hl, hne, hx, q⟩ := h
  obtain ⟨its, rv, hli, hz⟩ := I.tuple hs
  rw [Vals.ref1 r]
  have hal : its.length = rs.length := by rw [← rv.length]; exact hl
  have key : ∀ (i : Nat) (v : Value) (r : List Int), its[i]? = some v → rs[i]? = some r → ∃ qa : Addr, v = .ref qa ∧ SqT X.K H qa (r.map V.int) ∧ P qa r := by
    intro i v r e1 e2
    have hi : i < xs.length := by
      have := (List.getElem?_eq_some_iff.mp e2).1
      omega
    obtain ⟨u, h1, h2⟩ := rv.get (List.getElem?_eq_getElem hi)
    rw [e1] at h1
    cases h1
    obtain ⟨qa, h3, h4, h5⟩ := hx i _ r (List.getElem?_eq_getElem hi) e2
    rw [h3] at h2
    cases h2
    exact ⟨qa, rfl, h4, h5⟩
  have hzi : its.length ≤ sizeLine := by rw [← rv.length]; exact hz
  refine Calls.call_function_entry PyProof.Rows.kind_sorted PyProof.Rows.plain_sorted PyProof.Rows.entry_sorted (PyProof.Rows.args_sorted1 _) ?_
  unfold Builtin.«sorted»
  refine wpAny_bind (m := checkCount "sorted" 1 1 _) (wpAny_pure ?_)
  refine wpAny_bind (collect_tup hli ?_ hzi)
  have hk : ∀ b o, s.heap.get? b = some o → ((s.heap.push (seqObj "list" #[] 0)).update s.heap.objs.size (Obj.mapSeq (· ++ its.toArray))).get? b = some o := fun b o e => by
    rw [Heap.get?_update_ne _ _ _ _ (Nat.ne_of_lt (Heap.lt_size e))]
    exact Heap.get?_push_of_some _ e
  generalize (s.heap.push (seqObj "list" #[] 0)).update s.heap.objs.size (Obj.mapSeq (· ++ its.toArray)) = h' at hk
  have I1 : Inv X pins σ H { s with heap := h' } := I.kept (t' := s.toks) hk
  refine wpAny_bind (wpAny_newList ?_ hzi)
  have hoL : (h'.push (seqObj "list" its.toArray 0)).get? h'.objs.size = some (seqObj "list" its.toArray 0) := Heap.get?_push_size _ rfl
  show wpAny _ _ _ _ _ { s with heap := h'.push (seqObj "list" its.toArray 0) }
  have hR : EachIs (fun (v : Value) (r : List Int) => ∃ qa : Addr, v = .ref qa ∧ P qa r) its rs := eachIs_get hal fun i v r e1 e2 => by
    obtain ⟨qa, h1, _, h2⟩ := key i v r e1 e2
    exact ⟨qa, h1, h2⟩
  have hrd : EachIs (fun (v : Value) (r : List Int) => ∃ as, Reads (h'.push (seqObj "list" its.toArray 0)) v (encR r) as ∧ h'.objs.size ∉ as) its rs := eachIs_get hal fun i v r e1 e2 => by
    obtain ⟨qa, rfl, h1, _⟩ := key i v r e1 e2
    obtain ⟨its2, rv2, ⟨o, ho, hc, n, hd⟩, _⟩ := I1.tuple h1
    exact ⟨[], .tuple (Heap.get?_push_of_some _ ho) hc hd (by simpa using reads_ints rv2), by simp⟩
  have hal2 : AllAlike (rs.map encR) := AllAlike.of fun b b' => by
    unfold encR
    simp only [alike]
    exact PySem.W.alike_ints _ _
  have hsr : Sortable (rs.map encR) := .inl fun d hd => by
    obtain ⟨b, hb, rfl⟩ := List.mem_map.mp hd
    cases b with
    | nil => exact absurd rfl (hne _ hb)
    | cons x r => exact ⟨.int x, r.map .int, rfl⟩
  refine wpAny_bind (wpAny_holding (list_sort_data (s := { s with heap := h'.push (seqObj "list" its.toArray 0) }) hoL hR hrd hal2 hsr (by omega) (fun b _ => ?_) fun out g1 g2 => ?_))
  · have e1 := enc_depth b
    have e2 : X.A.in1.units = X.A.units + 1 := rfl
    show X.A.in1.units + 1 + (encR b).depth < cLine
    omega
  obtain ⟨e', he'⟩ := PyProof.Rows.sortedHeap_at (vs := its) (out := out.toArray) hoL
  rw [dataLe_rowsT] at g2
  obtain ⟨qs, rfl⟩ : ∃ qs : List Addr, out = qs.map Value.ref := by
    clear he' g1
    generalize rs.mergeSort leR = m at g2
    induction g2 with
    | nil => exact ⟨[], rfl⟩
    | cons h t ih =>
      obtain ⟨qa, rfl, _⟩ := h
      obtain ⟨qs, rfl⟩ := ih
      exact ⟨qa :: qs, rfl⟩
  have hlen : (qs.map V.ref).length ≤ sizeLine := by
    rw [List.length_map] at g1 ⊢
    omega
  have rv' : Vals (qs.map V.ref) (qs.map Value.ref) := by
    clear he' g1 g2 hlen
    induction qs with
    | nil => exact .nil
    | cons q qs ih => exact .cons rfl ih
  refine wpAny_pure ⟨_, rfl, .ref h'.objs.size, upd H h'.objs.size (.lst (qs.map V.ref)), I1.laid (t' := s.toks) (fun b u e => ?_) (Nat.le_refl _)
    (show ObjOk X.prog X.w _ _ _ (.lst (qs.map V.ref)) from ⟨hlen, qs.map Value.ref, e', rv', he'⟩), rfl, q qs _ (I1.hok.fresh (Nat.le_refl _)) (by simpa using g1) fun i qa r e1 e2 => ?_⟩
  · have hb : b < h'.objs.size := Heap.lt_size e
    rw [PyProof.Rows.sortedHeap_old (Nat.ne_of_lt hb) (by rw [size_push']; exact Nat.lt_succ_of_lt hb)]
    exact Heap.get?_push_of_some _ e
  · obtain ⟨q', e3, e4⟩ := get_eachIs g2 i (.ref qa) r (by rw [List.getElem?_map, e1]; rfl) e2
    cases e3
    exact e4
end KS
namespace KS
open PySem PySem.Spec L2
def rowsOf : List D → Option (List (List Int))
  | [] => some []
  | .tup es :: ds => match intsOf es, rowsOf ds with
    | some r, some rs => some (r :: rs)
    | _, _ => none
  | _ => none
def dRow (r : List Int) : D := .tup (r.map D.int)
def leI (i j : Int) : Bool := decide (i ≤ j)
def sortRs (ds : List D) : Option D := match rowsOf ds with
  | some rs => if rs.all (fun r => !r.isEmpty) = true then some (.lst ((rs.mergeSort leR).map dRow)) else none
  | none => none
def sortF : D → Option D
  | .lst ds => match intsOf ds with
    | some ns => some (.lst ((ns.mergeSort leI).map D.int))
    | none => sortRs ds
  | .tup ds => sortRs ds
  | _ => none
theorem ints_inv : ∀ {ds : List D} {ns : List Int}, intsOf ds = some ns → ds = ns.map D.int
  | [], ns, h => by cases h; rfl
  | d :: ds, ns, h => by
    cases d with
    | int i =>
      simp only [intsOf, Option.map_eq_some_iff] at h
      obtain ⟨r, h1, rfl⟩ := h
      rw [ints_inv h1]
      rfl
    | _ => simp [intsOf] at h
theorem ints_map : ∀ ns : List Int, intsOf (ns.map D.int) = some ns
  | [] => rfl
  | n :: ns => by rw [List.map_cons, intsOf, ints_map ns]; rfl
theorem rows_inv : ∀ {ds : List D} {rs : List (List Int)}, rowsOf ds = some rs → ds = rs.map dRow
  | [], rs, h => by cases h; rfl
  | d :: ds, rs, h => by
    cases d with
    | tup es =>
      unfold rowsOf at h
      split at h
      · next r rs' h1 h2 =>
        cases h
        rw [rows_inv h2, ints_inv h1]
        rfl
      · cases h
    | _ => simp [rowsOf] at h
theorem repL_ints {G : SE} {Hv : Hp} : ∀ ns : List Int, RepL G Hv (ns.map D.int) (ns.map V.int)
  | [] => .nil
  | n :: ns => .cons (Rep.int_iff.mpr rfl) (repL_ints ns)
theorem repL_rows {G : SE} {Hv : Hp} : ∀ {rs : List (List Int)} {qs : List Addr}, qs.length = rs.length → (∀ (i : Nat) (q : Addr) (r : List Int), qs[i]? = some q → rs[i]? = some r → Rep G Hv (dRow r) (.ref q)) → RepL G Hv (rs.map dRow) (qs.map V.ref)
  | [], [], _, _ => .nil
  | r :: rs, q :: qs, hl, h => .cons (h 0 q r rfl rfl) (repL_rows (by simpa using hl) fun i q r e1 e2 => h (i + 1) q r (by simpa using e1) (by simpa using e2))
  | [], _ :: _, hl, _ => by simp at hl
  | _ :: _, [], hl, _ => by simp at hl
theorem sort_ints {ns ns' : List Int} (hp : ns'.Perm ns) (hw : ns'.Pairwise (· ≤ ·)) : ns' = ns.mergeSort leI := by
  have h1 : (ns.mergeSort leI).Pairwise fun a b => leI a b = true := List.pairwise_mergeSort (fun a b c h1 h2 => by
    unfold leI at *
    simp only [decide_eq_true_eq] at *
    omega) (fun a b => by
    unfold leI
    simp only [Bool.or_eq_true, decide_eq_true_eq]
    omega) ns
  refine List.Perm.eq_of_pairwise (le := fun a b : Int => a ≤ b) (fun a b _ _ h1 h2 => Int.le_antisymm h1 h2) hw (h1.imp fun {a b} h => by unfold leI at h; exact of_decide_eq_true h) (hp.trans (List.mergeSort_perm ns leI).symm)
def rSortA (K : PySem.W.Frag) : List V → Hp → VK → Prop := fun vs H Q => rSortedI K vs H Q ∨ rSortR K vs H Q ∨ rSortT' K vs H Q
theorem cr_sortA {X : Cx} (hu : X.A.units + 16 < cLine) : CallR X (.builtin "sorted") (rSortA X.K) := by
  intro pins s σ H vs us Q I r h
  rcases h with h | h | h
  · exact cr_sortedI pins s σ H vs us Q I r h
  · exact cr_sortR hu pins s σ H vs us Q I r h
  · exact cr_sortRT hu pins s σ H vs us Q I r h
section
variable {X : Cx} {B : Bd}
theorem rows_el {fr : Fr} {σ : L2.St} {H Hv : Hp} (R : Rel B fr σ H Hv) {rs : List (List Int)} {vs : List V} (r : RepL B.G Hv (rs.map dRow) vs) (hK : X.K = B.G.K) (i : Nat) (x : V) (c : List Int) (e1 : vs[i]? = some x) (e2 : rs[i]? = some c) : ∃ q, x = .ref q ∧ SqT X.K H q (c.map V.int) ∧ Rep B.G Hv (dRow c) (.ref q) := by
  obtain ⟨d, h1, h2⟩ := r.getV e1
  rw [List.getElem?_map, e2] at h1
  have e : dRow c = d := Option.some.inj h1
  subst e
  obtain ⟨a, us, rfl, q, rl⟩ := Rep.tup_inv h2
  rw [ints_rep rl (ints_map c)] at q
  exact ⟨a, rfl, by rw [hK]; exact R.sub.sqt q, h2⟩
theorem caf_sort (hK : X.K = B.G.K) : CaF1 B (rSortA X.K) sortF := by
  intro fr σ H Hv x dx a z Q R rx hx hz k
  unfold sortF at hz
  split at hz
  · next ds =>
    obtain ⟨p, vs, rfl, q, r⟩ := R.list_of rx hx
    split at hz
    · next ns hn =>
      cases hz
      rw [ints_rep r hn] at q
      refine .inl ⟨p, ns, rfl, SqL.of q, fun ns' l hp hw hl => ?_⟩
      rw [sort_ints hp hw]
      exact lay_own R hl (repL_ints _) k
    · unfold sortRs at hz
      split at hz
      · next rs hrs =>
        split at hz
        · next hne =>
          cases hz
          rw [rows_inv hrs] at r
          refine .inr (.inl ⟨p, vs, rs, fun q c => Rep B.G Hv (dRow c) (.ref q), rfl, SqL.of q, by rw [r.length, List.length_map], fun c hc z => ?_, rows_el R r hK, fun qs l hl hlen hP => lay_own R hl (repL_rows (by rw [List.length_mergeSort]; exact hlen) hP) k⟩)
          have := List.all_eq_true.mp hne c hc
          rw [z] at this
          cases this
        · cases hz
      · cases hz
  · next ds =>
    obtain ⟨p, vs, rfl, q, _, r⟩ := R.tup_of rx hx
    unfold sortRs at hz
    split at hz
    · next rs hrs =>
      split at hz
      · next hne =>
        cases hz
        rw [rows_inv hrs] at r
        refine .inr (.inr ⟨p, vs, rs, fun q c => Rep B.G Hv (dRow c) (.ref q), rfl, by rw [hK]; exact q, by rw [r.length, List.length_map], fun c hc z => ?_, rows_el R r hK, fun qs l hl hlen hP => lay_own R hl (repL_rows (by rw [List.length_mergeSort]; exact hlen) hP) k⟩)
        have := List.all_eq_true.mp hne c hc
        rw [z] at this
        cases this
      · cases hz
    · cases hz
  · cases hz
end
end KS
namespace KS
open PySem PySem.Spec PyProof.Rows L2
open PySem.SeqAt (dataPlace remove_list_data)
def rRemD (K : PySem.W.Frag) : V → List V → Hp → VK → Prop := fun x xs H Q => ∃ (a : Addr) (y : V) (d : PyData) (ds : List PyData) (vs : List V) (j : Nat), x = .ref a ∧ xs = [y] ∧ H a = some (.lst vs) ∧ Dp K H (.ref a) (.list ds) ∧ Dp K H y d ∧
  PyData.plainAll ds = true ∧ d.plain = true ∧ d.depth ≤ 60 ∧ dataPlace ds d = some j ∧ Q .non (upd H a (.lst (vs.eraseIdx j)))
theorem mt_removeD {X : Cx} (hu : X.A.units + 65 < cLine) : MtR X "list.remove" (rRemD X.K) := by
  intro pins s σ H x xs v us Q I rx rxs h
  obtain ⟨a, y, d, ds, vs, j, rfl, rfl, hH, hl, hy, pl, pd, hdep, hp, q⟩ := h
  cases rx
  obtain ⟨u, rfl, ru⟩ := rxs.one
  obtain ⟨z, its, n, r, hle, e⟩ := I.lstM hH
  obtain ⟨bs, r1⟩ := Dp.reads I d y u hy ru
  cases hl with
  | lst hs ha =>
    have e2 := I.list_inj (SqL.of hH) hs
    subst e2
    obtain ⟨as, h4⟩ := Dp.readsAll I ds _ its ha r
    refine remove_list_data (vs := its.toArray) ⟨_, e, rfl, n, rfl⟩ (show ReadsAll s.heap its.toArray.toList ds as from h4) r1 pl pd (by have := Nat.min_le_right (PyData.depthAll ds) d.depth; omega) hp (by rw [List.size_toArray]; omega) ?_
    refine ⟨.non, _, I.lset (its' := its.eraseIdx j) (t' := s.toks) hH e ?_ (r.eraseIdx j) ?_, rfl, q⟩
    · show its.toArray.eraseIdxIfInBounds j = (its.eraseIdx j).toArray
      rw [List.eraseIdxIfInBounds_toArray]
    · have : (vs.eraseIdx j).length ≤ vs.length := List.length_eraseIdx_le vs j
      omega
def remM : Mu := fun c bs => match c, bs with
  | .lst ds, [b] => match pyOfL ds, pyOf b with
    | some ps, some p => if PyData.plainAll ps = true ∧ p.plain = true ∧ p.depth ≤ 60 then (match dataPlace ps p with
      | some j => some (.non, .lst (ds.eraseIdx j))
      | none => none) else none
    | _, _ => none
  | _, _ => none
theorem mus_remove {X : Cx} {B : Bd} (hK : X.K = B.G.K) : MuS B (rRemD X.K) true remM := by
  intro fr σ H Hv a c ys bs vs res c' Q R hc hva rws hb hp hF k
  obtain ⟨rl, rfl⟩ := hp rfl
  unfold remM at hF
  split at hF
  · next ds b =>
    split at hF
    · next ps p h1 h2 =>
      split at hF
      · next hz =>
        split at hF
        · next j hj =>
          cases hF
          obtain ⟨us, e, r⟩ := hc
          obtain ⟨v, t, rfl, g1, g2⟩ := rl.cons_inv
          rw [g2.nil_inv, hK]
          exact ⟨a, v, p, ps, us, j, rfl, rfl, e, .lst (SqL.of e) (dpL_of R.sub ds us ps r h1), dp_of R.sub _ _ _ g1 h2, hz.1, hz.2.1, hz.2.2, hj, k .non _ ⟨_, upd_same, r.eraseIdx j⟩ (Rep.non_iff.mpr rfl)⟩
        · cases hF
      · cases hF
    · cases hF
  · cases hF
end KS
namespace KS
open PySem PySem.Spec L2
end KS
namespace KS
open PySem PySem.Spec L2
end KS
namespace KS
open PySem PySem.Spec L2
/-- the slots that the mask tells are let go -/
def killF : Fr → List Bool → Fr
  | x :: fr, m :: ms => (match m with | true => none | false => x) :: killF fr ms
  | fr, [] => fr
  | [], _ :: _ => []
/-- .. behind it, where it runs through, breaks or continues -/
def sK (js : List Bool) (g : Sv) : Sv := fun fr => (g fr).bind fun fl fr1 => match fl with
  | .ret d => .ok (.ret d) fr1
  | fl => .ok fl (killF fr1 js)
/-- .. behind it, where it runs through -/
def sKn (js : List Bool) (g : Sv) : Sv := fun fr => (g fr).bind fun fl fr1 => match fl with
  | .nx => .ok .nx (killF fr1 js)
  | fl => .ok fl fr1
def iK (js : List Bool) (h : Iv) : Iv := fun fr => (h fr).bind fun ds fr1 => .ok ds (killF fr1 js)
section
variable {X : Cx} {B : Bd} {W : WX} {rf : Bool} {st : Stmt} {ss : List Stmt} {g : Sv} {js : List Bool} {fr : Fr} {σ : L2.St} {H Hv : Hp}
theorem killF_at : ∀ (fr : Fr) (js : List Bool) (i : Nat), (killF fr js)[i]? = if js[i]? = some true then (fr[i]?).map (fun _ => none) else fr[i]?
  | [], [], i => by simp [killF]
  | x :: fr, [], i => by simp [killF]
  | [], _ :: _, i => by simp [killF]
  | x :: fr, m :: ms, 0 => by cases m <;> simp [killF]
  | x :: fr, m :: ms, i + 1 => by
    have := killF_at fr ms i
    simpa [killF] using this
theorem killF_get (js : List Bool) {fr : Fr} {i : Nat} {d : D} (h : (killF fr js)[i]? = some (some d)) : fr[i]? = some (some d) := by
  rw [killF_at] at h
  split at h
  · cases e : fr[i]? with
    | none => rw [e] at h; cases h
    | some x => rw [e] at h; cases h
  · exact h
theorem killF_len (fr : Fr) (js : List Bool) : (killF fr js).length = fr.length := by
  induction fr generalizing js with
  | nil => cases js <;> rfl
  | cons x fr ih => cases js with
    | nil => rfl
    | cons m ms => simp [killF, ih]
theorem Rel.weak {fr fr' : Fr} (R : Rel B fr σ H Hv) (hl : fr'.length = fr.length) (h : ∀ (i : Nat) (d : D), fr'[i]? = some (some d) → fr[i]? = some (some d)) (hio : ∀ p ∈ B.io, fr'[p.1]? = fr[p.1]?) : Rel B fr' σ H Hv where
  sub := R.sub
  ext0 := R.ext0
  new := R.new
  keep := R.keep
  len := by rw [hl]; exact R.len
  val := fun j d e hm => R.val j d (h j d e) hm
  box := fun j d e hc hm => R.box j d (h j d e) hc hm
  own := fun j d e hm => R.own j d ⟨h j d e.1, e.2⟩ hm
  sep := fun j k a dj dk hj hk hjk e1 e2 => R.sep j k a dj dk hj hk hjk ⟨h _ _ e1.1, e1.2⟩ ⟨h _ _ e2.1, e2.2⟩
  io := fun p hp => by
    obtain ⟨h1, ⟨d, h2, h3⟩, h4⟩ := R.io p hp
    exact ⟨h1, ⟨d, by rw [hio p hp]; exact h2, h3⟩, h4⟩
  tab := R.tab
theorem Rel.kill (js : List Bool) {fr : Fr} (R : Rel B fr σ H Hv) (h : ∀ p ∈ B.io, js[p.1]? ≠ some true) : Rel B (killF fr js) σ H Hv :=
  R.weak (killF_len fr js) (fun _ _ => killF_get js) fun p hp => by rw [killF_at, if_neg (h p hp)]
theorem Nxt.kill {fr1 : Fr} {H1 Hv1 : Hp} (n : Nxt B fr σ H Hv fr1 H1 Hv1) (hio : ∀ p ∈ B.io, js[p.1]? ≠ some true) : Nxt B fr σ H Hv (killF fr1 js) H1 Hv1 :=
  ⟨n.rel.kill js hio, n.ext, n.keep, fun i d hi h => n.shp i d hi ⟨killF_get js h.1, h.2⟩, n.alive, n.newv⟩
theorem tS_sK {D : L2.Ends} (hio : ∀ p ∈ B.io, js[p.1]? ≠ some true) (h : dTS B W rf (sK js g) D σ H) : dTS B W rf g D σ H := by
  obtain ⟨fr, Hv, R, h⟩ := h
  refine ⟨fr, Hv, R, ?_⟩
  unfold sK at h
  cases hg : g fr with
  | bad => rw [hg] at h; exact h.elim
  | exc c fs fr1 => rw [hg] at h; exact h
  | ok fl fr1 =>
    rw [hg] at h
    dsimp only [Res.bind] at h
    cases fl with
    | ret d => exact h
    | nx => exact fun σ' H' Hv' R' s => h σ' H' Hv' (R'.kill js hio) s
    | brk => exact fun σ' H' Hv' R' s => h σ' H' Hv' (R'.kill js hio) s
    | cnt => exact fun σ' H' Hv' R' s => h σ' H' Hv' (R'.kill js hio) s
theorem tS_sKn {D : L2.Ends} (hio : ∀ p ∈ B.io, js[p.1]? ≠ some true) (h : dTS B W rf (sKn js g) D σ H) : dTS B W rf g D σ H := by
  obtain ⟨fr, Hv, R, h⟩ := h
  refine ⟨fr, Hv, R, ?_⟩
  unfold sKn at h
  cases hg : g fr with
  | bad => rw [hg] at h; exact h.elim
  | exc c fs fr1 => rw [hg] at h; exact h
  | ok fl fr1 =>
    rw [hg] at h
    dsimp only [Res.bind] at h
    cases fl with
    | ret d => exact h
    | nx => exact fun σ' H' Hv' R' s => h σ' H' Hv' (R'.kill js hio) s
    | brk => exact h
    | cnt => exact h
theorem s_sKn (hio : ∀ p ∈ B.io, js[p.1]? ≠ some true) (h : DS X B W rf st g) : DS X B W rf st (sKn js g) := ps_imp h fun _ _ _ q => tS_sKn hio q
theorem ss_sK (hio : ∀ p ∈ B.io, js[p.1]? ≠ some true) (h : DSs X B W rf ss g) : DSs X B W rf ss (sK js g) := pss_imp h fun _ _ _ q => tS_sK hio q
theorem i_iK {tg it : Expr} {h : Iv} (hio : ∀ p ∈ B.io, js[p.1]? ≠ some true) (hi : DI X B W tg it h) : DI X B W tg it (iK js h) := by
  refine pi_imp hi fun σ H R q => ?_
  obtain ⟨fr, Hv, Rl, q⟩ := q
  refine ⟨fr, Hv, Rl, ?_⟩
  unfold iK at q
  cases hg : h fr with
  | bad => rw [hg] at q; exact q.elim
  | exc c fs fr1 => rw [hg] at q; exact q
  | ok ds fr1 =>
    rw [hg] at q
    exact fun J H1 Hv1 n w => q J H1 Hv1 (n.kill hio) w
theorem io_not {ms : List Bool} {io : List (Nat × Addr)} (h : ∀ p ∈ io, ms[p.1]? = some true) (d : ((ms.zip js).all fun p => !(p.1 && p.2)) = true) : ∀ p ∈ io, js[p.1]? ≠ some true := fun p hp e => by
  have h1 := h p hp
  have : (true, true) ∈ ms.zip js := List.mem_iff_getElem?.mpr ⟨p.1, by rw [List.getElem?_zip_eq_some]; exact ⟨h1, e⟩⟩
  have := List.all_eq_true.mp d _ this
  cases this
end
end KS
namespace KS
open PySem PySem.Spec L2
def inTB (a b : D) : Option Bool := match pyOf a, pyOf b with
  | some p, some (.tuple qs) => if SeqAt.shaped p && SeqAt.shaped (.tuple qs) then some (qs.any fun z => PyData.eqv z p) else none
  | _, _ => none
def inTF (a b : D) : Option D := (inTB a b).map D.bl
def notInTF (a b : D) : Option D := (inTB a b).map fun k => D.bl (!k)
def rInTD (K : PySem.W.Frag) : R2 := fun x y H Q => ∃ d ds, Dp K H x d ∧ Dp K H y (.tuple ds) ∧ SeqAt.shaped d = true ∧ SeqAt.shaped (.tuple ds) = true ∧ Q (.bl (ds.any fun z => PyData.eqv z d)) H
def rNotInTD (K : PySem.W.Frag) : R2 := fun x y H Q => ∃ d ds, Dp K H x d ∧ Dp K H y (.tuple ds) ∧ SeqAt.shaped d = true ∧ SeqAt.shaped (.tuple ds) = true ∧ Q (.bl (!ds.any fun z => PyData.eqv z d)) H
section
variable {X : Cx} {B : Bd}
theorem op_inTD (hu : X.A.units + 65 < cLine) : OpR X (compareOp .In) (rInTD X.K) := by
  intro pins s σ H x y v u Q I rx ry h
  obtain ⟨d, ds, hd, he, sd, se, q⟩ := h
  obtain ⟨as, r1⟩ := Dp.reads I d x v hd rx
  obtain ⟨bs, r2⟩ := Dp.reads I (.tuple ds) y u he ry
  exact SeqAt.in_tuple_reads r2 r1 (SeqAt.canLay_of_shaped se) (SeqAt.canLay_of_shaped sd) (PyProof.Rows.room_in_shaped sd hu) ⟨.bl _, H, I, rfl, q⟩
theorem op_notInTD (hu : X.A.units + 65 < cLine) : OpR X (compareOp .NotIn) (rNotInTD X.K) := by
  intro pins s σ H x y v u Q I rx ry h
  obtain ⟨d, ds, hd, he, sd, se, q⟩ := h
  obtain ⟨as, r1⟩ := Dp.reads I d x v hd rx
  obtain ⟨bs, r2⟩ := Dp.reads I (.tuple ds) y u he ry
  exact SeqAt.notIn_tuple_reads r2 r1 (SeqAt.canLay_of_shaped se) (SeqAt.canLay_of_shaped sd) (PyProof.Rows.room_in_shaped sd hu) ⟨.bl _, H, I, rfl, q⟩
theorem ops_inTg (hK : X.K = B.G.K) (r : Bool → V) (rr : Bool → D) (hr : ∀ k H, Rep B.G H (rr k) (r k)) : OpS B (fun x y H Q => ∃ d ds, Dp X.K H x d ∧ Dp X.K H y (.tuple ds) ∧ SeqAt.shaped d = true ∧ SeqAt.shaped (.tuple ds) = true ∧ Q (r (ds.any fun z => PyData.eqv z d)) H) (fun a b => (inTB a b).map rr) := by
  intro fr σ H Hv x y dx dy a b z Q R rx ry hx hy hz k
  simp only [Option.map_eq_some_iff] at hz
  obtain ⟨m, hz, rfl⟩ := hz
  unfold inTB at hz
  split at hz
  · next p qs ep eq =>
    split at hz
    · next c =>
      cases hz
      have c' := Bool.and_eq_true_iff.mp c
      refine ⟨p, qs, ?_, ?_, c'.1, c'.2, k _ H Hv (.refl R) (hr _ _)⟩
      · rw [hK]; exact dp_look R rx hx ep
      · rw [hK]; exact dp_look R ry hy eq
    · cases hz
  · cases hz
abbrev inA2 : D → D → Option D := orF inA inTF
abbrev notInA2 : D → D → Option D := orF notInF notInTF
theorem ops_inA2 (hK : X.K = B.G.K := by rfl) : OpS B (fun x y H Q => (rInD X.K x y H Q ∨ (∃ i j, x = .str i ∧ y = .str j ∧ Q (.bl (!(Builtin.Str.occurrences j i 0 j.length 1).isEmpty)) H)) ∨ rInTD X.K x y H Q) inA2 := (ops_inA hK).or (ops_inTg hK V.bl D.bl fun _ _ => repB)
theorem op_inA2 (hu : X.A.units + 65 < cLine) : OpR X (compareOp .In) (fun x y H Q => (rInD X.K x y H Q ∨ (∃ i j, x = .str i ∧ y = .str j ∧ Q (.bl (!(Builtin.Str.occurrences j i 0 j.length 1).isEmpty)) H)) ∨ rInTD X.K x y H Q) := (op_inA hu).or (op_inTD hu)
theorem ops_notInA2 (hK : X.K = B.G.K := by rfl) : OpS B (fun x y H Q => rNotInD X.K x y H Q ∨ rNotInTD X.K x y H Q) notInA2 := (ops_notIn hK).or (ops_inTg hK (fun k => V.bl (!k)) (fun k => D.bl (!k)) fun _ _ => repB)
theorem op_notInA2 (hu : X.A.units + 65 < cLine) : OpR X (compareOp .NotIn) (fun x y H Q => rNotInD X.K x y H Q ∨ rNotInTD X.K x y H Q) := (op_notInD hu).or (op_notInTD hu)
end
end KS
namespace KS
open PySem PySem.Spec PyProof.Rows L2
/-- a clause: the class, the name's slot, the suite's reading -/
structure Cl where
  c : Value
  nm : Option Nat
  ts : Addr → Value → Option Addr → TS
def endsN (D : L2.Ends) : Option Nat → L2.Ends
  | none => D
  | some i => { nx := fun σ' H' => D.nx (σ'.set i none) H', rt := D.rt, bk := fun σ' H' => D.bk (σ'.set i none) H', ct := fun σ' H' => D.ct (σ'.set i none) H' }
def setN (σ : L2.St) (a : Addr) : Option Nat → L2.St
  | none => σ
  | some i => σ.set i (some (.ref a))
def wClauses (K : PySem.W.Frag) (Wout : WX) (D : L2.Ends) : List Cl → WX
  | [] => Wout
  | ⟨c, nm, ts⟩ :: r => fun cls d σ H => ∃ b, PySem.W.exmOne K cls c = some b ∧ (b = true → ∀ a, H a = none → ts a cls d (endsN D nm) (setN σ a nm) H) ∧ (b = false → wClauses K Wout D r cls d σ H)
inductive ClsOk (X : Cx) : List ExceptHandler → List Cl → Prop
  | nil : ClsOk X [] []
  | plain {x : Str} {c : Value} {ts : Addr → Value → Option Addr → TS} {b₀ : Stmt} {suite : List Stmt} {np pos' : Pos} {hds : List ExceptHandler} {l : List Cl} (hc : Names X x c)
      (hsu : ∀ (a : Addr) (oe : Obj) (cls : Value) (d : Option Addr) (pn : List (Addr × Obj)), L2N.Zn cls d oe → (∃ vs, oe.data = .fields vs) → PSs (X.suite a ((a, oe) :: pn)) (b₀ :: suite) (ts a cls d)) (r : ClsOk X hds l) :
      ClsOk X (.ExceptHandler (some (.Name x np)) none (b₀ :: suite) pos' :: hds) (⟨c, none, ts⟩ :: l)
  | named {x n : Str} {i : Nat} {c : Value} {ts : Addr → Value → Option Addr → TS} {b₀ : Stmt} {suite : List Stmt} {np pos' : Pos} {hds : List ExceptHandler} {l : List Cl} (hc : Names X x c) (hi : X.N[i]? = some n) (hln : X.env.kindOf n = some .local)
      (hsu : ∀ (a : Addr) (oe : Obj) (cls : Value) (d : Option Addr) (pn : List (Addr × Obj)), L2N.Zn cls d oe → (∃ vs, oe.data = .fields vs) → PSs (X.suite a ((a, oe) :: pn)) (b₀ :: suite) (ts a cls d)) (r : ClsOk X hds l) :
      ClsOk X (.ExceptHandler (some (.Name x np)) (some n) (b₀ :: suite) pos' :: hds) (⟨c, some i, ts⟩ :: l)
section
variable {X : Cx} {body : List Stmt} {h₀ : ExceptHandler} {hds : List ExceptHandler} {l : List Cl} {pos : Pos} {tb : WX → TS} {Wout : WX}
theorem ps_tryN (hs : X.stack = X.env :: X.outer) (hf : X.env.frame = some X.env.locals) (hN : X.N.Nodup) (tk : L2N.Takes X Wout)
    (hb : ∀ (W : WX) (pn : List (Addr × Obj)) (xe : Value → Shared → Prop), L2N.Takes (X.tr pn xe) W → PassesOwn (model X.prog X.w) X.A X.env xe → PSs (X.tr pn xe) body (tb W))
    (hh : ClsOk X (h₀ :: hds) l) : PS X (.Try body (h₀ :: hds) [] [] pos) (fun D σ H => tb (wClauses X.K Wout D l) D σ H) := by
  refine ⟨fun pins s σ H D I h => ?_⟩
  have ok := I.ok
  have hfr : X.A.frames = some (X.env :: X.outer) := by rw [ok.frames, hs]
  refine wpAny_Try_except ?_
  refine wpAny_mono ((hb (wClauses X.K Wout D l) (X.pn ++ pins) (fun e s₁ => wpAny (model X.prog X.w) X.A (noteFrame e X.env) (fun _ s₂ => wpAny (model X.prog X.w) X.A (setFlight e none) (fun _ s₃ =>
    wpAny (model X.prog X.w) X.A (handleBy e X.env (h₀ :: hds)) (SP X pins D) X.xe s₃) X.xe s₂) X.xe s₁) (fun u s' xx => ?_) PassesOwn.looking).run [] s σ H D (I.toTry _) h) (fun f s1 hsp => ?_) (fun e s1 he => he)
  · obtain ⟨a, B, sI, pins', σ', H', cls, d, rfl, J', nb, up, sky, na, os, ag, w⟩ := xx
    have J : Inv X pins σ' H' sI := J'.ofTry ok
    have sky' : Sky B (X.env :: X.outer) a (L2N.Zn cls d) X.env.locals s'.heap := by rw [← hs]; exact sky
    show wpAny (model X.prog X.w) X.A (noteFrame (.ref a) X.env) _ _ _
    refine L2N.Sky.land L2N.Zn.steady hfr hf sky' fun h3 fl3 up3 => ?_
    have J3 : Inv X pins σ' H' { s' with heap := h3 } := J.landed nb fl3.1 (up.trans up3) os ag
    obtain ⟨oe3, vs3, he3, hz3, hd3⟩ := fl3.there
    have notFr : ∀ {h : Heap} {o : Obj} {vs : Array Value}, h.FunFrames B (X.env :: X.outer) → h.get? a = some o → o.data = .fields vs → a ∉ frs (X.env :: X.outer) := fun {h o vs} ff e dd hm => by
      obtain ⟨_, o', e', hnf⟩ := ff.mem hm
      rw [e] at e'; cases e'
      exact hnf _ dd
    have nfr := notFr fl3.2.2.1 he3 hd3
    have nL : a ≠ X.env.locals := fun z => nfr (List.mem_filterMap.mpr ⟨X.env, List.mem_cons_self, by rw [hf, z]⟩)
    have nF : a ∉ X.fs := fun hm => by
      obtain ⟨e, he, q⟩ := List.mem_filterMap.mp hm
      exact nfr (List.mem_filterMap.mpr ⟨e, List.mem_cons_of_mem _ he, q⟩)
    have S3 := J3.suite he3 hd3 na nL nF
    have LT : PySem.W.Looks (model X.prog X.w) h3 (typeOf (.ref a)) cls := fun A Q E s k q => wpAny_typeOf_ref (k _ _ he3) (by rw [hz3.1]; exact q)
    have go : ∀ {hds' : List ExceptHandler} {l' : List Cl}, ClsOk X hds' l' → wClauses X.K Wout D l' cls d σ' H' →
        wpAny (model X.prog X.w) X.A (handleBy (.ref a) X.env hds') (SP X pins D) X.xe { s' with heap := h3 } := by
      intro hds' l' hk
      induction hk with
      | nil =>
        intro w
        refine wpAny_handleBy_nil ?_
        obtain ⟨k1, k2, k3, oe, vs, T, oT, ts', he, hz, hd, h1, hr⟩ := id fl3
        unfold PySem.passOn
        refine wpAny_bind (wpAny_field he hd h1 ?_)
        rw [if_neg (show ¬ ((Value.ref T == Value.none) = true) from by simp)]
        have fin : wpAny (model X.prog X.w) X.A (setFlight (.ref a) X.env.frame) (fun _ s4 => wpAny (model X.prog X.w) X.A (throw (.ref a) : Sem Flow) (SP X pins D) X.xe s4) X.xe { s' with heap := h3 } := by
          rw [hf]
          refine HandSPX.setFlight_upZ fl3 fun h4 hh4 up4 => wpAny_throw (tk _ _ ?_)
          exact ⟨a, B, sI, pins, σ', H', cls, d, rfl, J, nb, (up.trans up3).trans up4, .inr (.inr (by rw [hs]; exact hh4)), na, os, ag, w⟩
        first
          | exact wpAny_bind (wpAny_pure (wpAny_bind fin))
          | exact wpAny_bind fin
      | @plain x c ts b₀ suite np pos' hds2 l2 hc hsu r ih =>
        intro w
        obtain ⟨b, hb1, hyes, hno⟩ := w
        refine wpAny_handleBy_cons (codeAny_handlers_test ?_) (by intro q; cases q)
        have LM := PySem.W.exm_one (M := model X.prog X.w) (J3.kIn) LT hb1
        have test : ∀ {Q : Value → Shared → Prop} {E : Value → Shared → Prop}, Q c { s' with heap := h3 } → wpAny (model X.prog X.w) (X.A.mark (some (.ref a))) (eval (.Name x np) X.env) Q E { s' with heap := h3 } := fun {Q E} q => by
          obtain ⟨hg, hdbg, hm | ⟨hm, hv, hnn⟩⟩ := hc
          · exact ld_glob (X := X.suite a ((a, oe3) :: (X.pn ++ pins))) S3 hg hm q hdbg
          · exact ld_blt (X := X.suite a ((a, oe3) :: (X.pn ++ pins))) S3 hg hm hv q hnn hdbg
        refine test (LM.here ?_)
        cases b with
        | true =>
          refine codeAny_handlers_suite ?_
          refine HandSPX.lands_againZ fl3 fun h4 fl4 up4 => ?_
          have J4 : Inv X pins σ' H' { s' with heap := h4 } := J.landed nb fl4.1 ((up.trans up3).trans up4) os ag
          obtain ⟨oe4, vs4, he4, hz4, hd4⟩ := fl4.there
          have S4 := J4.suite he4 hd4 na nL nF
          refine wpAny_mono ((hsu a oe4 cls d (X.pn ++ pins) hz4 ⟨_, hd4⟩).run [] _ _ H' _ S4 (hyes rfl a na)) (fun f s6 hsp => ?_) (fun _ _ z => False.elim z)
          cases f with
          | next =>
            obtain ⟨σ6, H6, S6, q6⟩ := hsp
            exact ⟨_, _, S6.unsuite ok, q6⟩
          | brk =>
            obtain ⟨σ6, H6, S6, q6⟩ := hsp
            exact ⟨_, _, S6.unsuite ok, q6⟩
          | cont =>
            obtain ⟨σ6, H6, S6, q6⟩ := hsp
            exact ⟨_, _, S6.unsuite ok, q6⟩
          | ret u =>
            obtain ⟨v6, σ6, H6, S6, r6, q6⟩ := hsp
            exact ⟨_, _, _, S6.unsuite ok, r6, q6⟩
        | false =>
          show wpAny _ X.A (handleBy (.ref a) X.env hds2) _ _ _
          exact ih (hno rfl)
      | @named x n i c ts b₀ suite np pos' hds2 l2 hc hi hln hsu r ih =>
        intro w
        obtain ⟨b, hb1, hyes, hno⟩ := w
        refine wpAny_handleBy_cons (codeAny_handlers_test ?_) (by intro q; cases q)
        have LM := PySem.W.exm_one (M := model X.prog X.w) (J3.kIn) LT hb1
        have hloc : Loc X.env.scope n := .inl hln
        have test : ∀ {Q : Value → Shared → Prop} {E : Value → Shared → Prop}, Q c { s' with heap := h3 } → wpAny (model X.prog X.w) (X.A.mark (some (.ref a))) (eval (.Name x np) X.env) Q E { s' with heap := h3 } := fun {Q E} q => by
          obtain ⟨hg, hdbg, hm | ⟨hm, hv, hnn⟩⟩ := hc
          · exact ld_glob (X := X.suite a ((a, oe3) :: (X.pn ++ pins))) S3 hg hm q hdbg
          · exact ld_blt (X := X.suite a ((a, oe3) :: (X.pn ++ pins))) S3 hg hm hv q hnn hdbg
        refine test (LM.here ?_)
        cases b with
        | true =>
          refine codeAny_handlers_suite_as ?_
          refine HandSPX.lands_againZ fl3 fun h4 fl4 up4 => ?_
          have J4 : Inv X pins σ' H' { s' with heap := h4 } := J.landed nb fl4.1 ((up.trans up3).trans up4) os ag
          obtain ⟨oe4, vs4, he4, hz4, hd4⟩ := fl4.there
          have S4 := J4.suite he4 hd4 na nL nF
          refine store_ok (X := X.suite a ((a, oe4) :: (X.pn ++ pins))) (v := .ref a) S4 hN hi hloc rfl (fun s5 S5 => ?_) (.inr hln)
          refine wpAny_mono ((hsu a oe4 cls d (X.pn ++ pins) hz4 ⟨_, hd4⟩).run [] s5 _ H' _ S5 (hyes rfl a na)) (fun f s6 hsp => ?_) (fun _ _ z => False.elim z)
          have end_ : ∀ {σ6 : L2.St} {H6 : Hp} {Q : Shared → Prop}, Inv (X.suite a ((a, oe4) :: (X.pn ++ pins))) [] σ6 H6 s6 → (∀ s7, Inv X pins (σ6.set i none) H6 s7 → Q s7) →
              wpAny (model X.prog X.w) X.A (do bindName X.env n .none; unbindBehindTheSuite X.env n pos') (fun _ s7 => Q s7) X.xe s6 := fun {σ6 H6 Q} S6 hq => gone_ok (S6.unsuite ok) hN hi hln hq
          cases f with
          | next =>
            obtain ⟨σ6, H6, S6, q6⟩ := hsp
            exact end_ S6 fun s7 J7 => ⟨_, _, J7, q6⟩
          | brk =>
            obtain ⟨σ6, H6, S6, q6⟩ := hsp
            exact end_ S6 fun s7 J7 => ⟨_, _, J7, q6⟩
          | cont =>
            obtain ⟨σ6, H6, S6, q6⟩ := hsp
            exact end_ S6 fun s7 J7 => ⟨_, _, J7, q6⟩
          | ret u =>
            obtain ⟨v6, σ6, H6, S6, r6, q6⟩ := hsp
            exact end_ S6 fun s7 J7 => ⟨_, _, _, J7, r6, q6⟩
        | false =>
          show wpAny _ X.A (handleBy (.ref a) X.env hds2) _ _ _
          exact ih (hno rfl)
    exact go hh w
  · cases f with
    | next =>
      obtain ⟨σ', H', J', q⟩ := hsp
      exact wpAny_execs_nil ⟨σ', H', J'.ofTry ok, q⟩
    | brk =>
      obtain ⟨σ', H', J', q⟩ := hsp
      exact ⟨σ', H', J'.ofTry ok, q⟩
    | cont =>
      obtain ⟨σ', H', J', q⟩ := hsp
      exact ⟨σ', H', J'.ofTry ok, q⟩
    | ret u =>
      obtain ⟨v, σ', H', J', r, q⟩ := hsp
      exact ⟨v, σ', H', J'.ofTry ok, r, q⟩
end
end KS
namespace KS
open PySem PySem.Spec PyProof.Rows L2
/-- a clause: which classes it takes, its name's slot, its suite (by the class and the fields) -/
structure Hd where
  t : Nat → Bool
  nm : Option Nat
  g : Nat → List D → Sv
def inN (fr : Fr) : Option Nat → Fr
  | none => fr
  | some i => fr.set i (some (.tup [.var i]))
def outN (fr : Fr) : Option Nat → Fr
  | none => fr
  | some i => fr.set i none
def suiteE (h : Hd) (c : Nat) (fs : List D) (fr : Fr) : Res Fr Fl := match h.g c fs (inN fr h.nm) with
  | .ok fl fr' => .ok fl (outN fr' h.nm)
  | _ => .bad
def hand : List Hd → Nat → List D → Fr → Res Fr Fl
  | [], c, fs, fr => .exc c fs fr
  | h :: r, c, fs, fr => if h.t c = true then suiteE h c fs fr else hand r c fs fr
def sTry (n : Nat) (g : Sv) (hs : List Hd) : Sv := fun fr => match g fr with
  | .exc c fs fr1 => if c < n then hand hs c fs fr1 else .bad
  | r => r
/-- the suite's boundary: the exception's dict and its fields' values stay as they are -/
def Bd.hot (B : Bd) (H Hv : Hp) (dd : Addr) (ex : Option (Nat × Addr)) : Bd := { B with H0 := fun b => if b = dd then H dd else B.H0 b, Hv0 := Hv, ex := ex }
section
variable {B : Bd} {fr : Fr} {σ : L2.St} {H Hv : Hp} {dd : Addr} {l : List (Str × V)}
theorem hot_H0 {ex : Option (Nat × Addr)} {b : Addr} (h : (B.hot H Hv dd ex).H0 b = none) (hd : H dd = some (.xd l)) : b ≠ dd ∧ B.H0 b = none := by
  have h : (if b = dd then H dd else B.H0 b) = none := h
  split at h
  · rw [hd] at h; cases h
  · next c => exact ⟨c, h⟩
theorem Cell.noxd {G : SE} {a : Addr} {d : D} (hd : H a = some (.xd l)) : ¬ Cell G H Hv a d := by
  intro c
  cases d <;> first | exact c.elim | skip
  · obtain ⟨vs, e, _⟩ := c
    rw [hd] at e; cases e
  · obtain ⟨dx, vs, e, _⟩ := c
    rw [hd] at e; cases e
  · obtain ⟨us, e, _⟩ := c
    rcases e with ⟨kvs, e, _⟩ | ⟨kvs, e, _⟩ <;> (rw [hd] at e; cases e)
theorem Rel.xd_notab (R : Rel B fr σ H Hv) (hd : H dd = some (.xd l)) : dd ∉ B.G.tabs := fun hm => by
  obtain ⟨⟨ps, e, _⟩, _⟩ := R.tab dd hm
  rw [hd] at e; cases e
theorem Rel.xd_noio (R : Rel B fr σ H Hv) (hd : H dd = some (.xd l)) : ∀ p ∈ B.io, p.2 ≠ dd := fun p hp z => by
  obtain ⟨h1, ⟨d, h2⟩, h3⟩ := R.io p hp
  obtain ⟨a, s1, _, _, c⟩ := R.own p.1 d h2 h1
  rw [h3] at s1
  cases s1
  rw [z] at c
  exact Cell.noxd hd c
/-- into the suite -/
theorem Rel.hot (R : Rel B fr σ H Hv) (hd : H dd = some (.xd l)) (hex : B.ex = none) (ex : Option (Nat × Addr)) : Rel (B.hot H Hv dd ex) fr σ H Hv where
  sub := R.sub
  ext0 := .refl _
  new := fun b o h => .inl h
  keep := fun b o h h1 h2 => by
    have h : (if b = dd then H dd else B.H0 b) = some o := h
    split at h
    · next c => rw [c]; exact h
    · exact R.keep b o h h1 h2
  len := R.len
  val := R.val
  box := fun i d h1 h2 h3 => by
    obtain ⟨e, v, h4, h5, h6⟩ := R.box i d h1 h2 h3
    refine ⟨e, v, h4, h5, ?_⟩
    rcases h6 with h6 | ⟨_, a, h7, _⟩
    · exact .inl h6
    · rw [hex] at h7; cases h7
  own := fun i d h1 h2 => by
    obtain ⟨a, h3, h4, h5, h6⟩ := R.own i d h1 h2
    refine ⟨a, h3, h4, ?_, h6⟩
    rcases h5 with h5 | h5
    · exact .inl h5
    · refine .inr ?_
      show (if a = dd then H dd else B.H0 a) = none
      split
      · next c =>
        rw [c] at h6
        exact absurd h6 (Cell.noxd hd)
      · exact h5
  sep := R.sep
  io := R.io
  tab := R.tab
/-- the name is set to the exception -/
theorem Rel.exset {a : Addr} {i : Nat} (R : Rel B fr σ H Hv) (hi : i ∈ B.M) (hio : ∀ q ∈ B.io, q.1 ≠ i) (hl : i < fr.length) (he : B.ex = some (i, a)) : Rel B (fr.set i (some (.tup [.var i]))) (σ.set i (some (.ref a))) H Hv where
  sub := R.sub
  ext0 := R.ext0
  new := R.new
  keep := R.keep
  len := by rw [List.length_set, List.length_set]; exact R.len
  val := fun j e hf hm => by
    have hj : j ≠ i := fun z => hm (z ▸ hi)
    rw [List.getElem?_set_ne (Ne.symm hj)] at hf
    obtain ⟨u, h1, h2⟩ := R.val j e hf hm
    exact ⟨u, by rw [List.getElem?_set_ne (Ne.symm hj)]; exact h1, h2⟩
  box := fun j e hf hcl hm => by
    by_cases hj : j = i
    · subst hj
      rw [List.getElem?_set_self hl] at hf
      cases hf
      exact ⟨_, _, rfl, List.getElem?_set_self (by rw [← R.len]; exact hl), .inr ⟨rfl, a, he, rfl⟩⟩
    · rw [List.getElem?_set_ne (Ne.symm hj)] at hf
      obtain ⟨e2, u, h0, h1, h2⟩ := R.box j e hf hcl hm
      exact ⟨e2, u, h0, by rw [List.getElem?_set_ne (Ne.symm hj)]; exact h1, h2⟩
  own := fun j e hf hm => by
    by_cases hj : j = i
    · subst hj
      obtain ⟨h1, h2⟩ := hf
      rw [List.getElem?_set_self hl] at h1
      cases h1
      cases h2
    · rw [List.getElem?_set_ne (Ne.symm hj)] at hf
      obtain ⟨b, h1, h2⟩ := R.own j e hf hm
      exact ⟨b, by rw [List.getElem?_set_ne (Ne.symm hj)]; exact h1, h2⟩
  sep := fun j k b dj dk hj hk hjk e1 e2 s1 => by
    by_cases hj' : j = i
    · subst hj'
      obtain ⟨h1, h2⟩ := e1
      rw [List.getElem?_set_self hl] at h1
      cases h1
      cases h2
    by_cases hk' : k = i
    · subst hk'
      obtain ⟨h1, h2⟩ := e2
      rw [List.getElem?_set_self hl] at h1
      cases h1
      cases h2
    rw [List.getElem?_set_ne (Ne.symm hj')] at e1 s1
    rw [List.getElem?_set_ne (Ne.symm hk')] at e2 ⊢
    exact R.sep j k b dj dk hj hk hjk e1 e2 s1
  io := fun q hq => by
    obtain ⟨h1, h2, h3⟩ := R.io q hq
    have hj : q.1 ≠ i := hio q hq
    exact ⟨h1, by rw [List.getElem?_set_ne (Ne.symm hj)]; exact h2, by rw [List.getElem?_set_ne (Ne.symm hj)]; exact h3⟩
  tab := R.tab
/-- the name is gone -/
theorem Rel.exgone {i : Nat} (R : Rel B fr σ H Hv) (hio : ∀ q ∈ B.io, q.1 ≠ i) : Rel B (fr.set i none) (σ.set i none) H Hv where
  sub := R.sub
  ext0 := R.ext0
  new := R.new
  keep := R.keep
  len := by rw [List.length_set, List.length_set]; exact R.len
  val := fun j e hf hm => by
    rcases get_set hf with ⟨_, z⟩ | ⟨hj, hf⟩
    · cases z
    obtain ⟨u, h1, h2⟩ := R.val j e hf hm
    exact ⟨u, by rw [List.getElem?_set_ne (Ne.symm hj)]; exact h1, h2⟩
  box := fun j e hf hcl hm => by
    rcases get_set hf with ⟨_, z⟩ | ⟨hj, hf⟩
    · cases z
    obtain ⟨e2, u, h0, h1, h2⟩ := R.box j e hf hcl hm
    exact ⟨e2, u, h0, by rw [List.getElem?_set_ne (Ne.symm hj)]; exact h1, h2⟩
  own := fun j e hf hm => by
    rcases get_set hf.1 with ⟨_, z⟩ | ⟨hj, h1⟩
    · cases z
    obtain ⟨b, h3, h2⟩ := R.own j e ⟨h1, hf.2⟩ hm
    exact ⟨b, by rw [List.getElem?_set_ne (Ne.symm hj)]; exact h3, h2⟩
  sep := fun j k b dj dk hj hk hjk e1 e2 s1 => by
    rcases get_set e1.1 with ⟨_, z⟩ | ⟨hj', h1⟩
    · cases z
    rcases get_set e2.1 with ⟨_, z⟩ | ⟨hk', h2⟩
    · cases z
    rw [List.getElem?_set_ne (Ne.symm hj')] at s1
    rw [List.getElem?_set_ne (Ne.symm hk')]
    exact R.sep j k b dj dk hj hk hjk ⟨h1, e1.2⟩ ⟨h2, e2.2⟩ s1
  io := fun q hq => by
    obtain ⟨h1, h2, h3⟩ := R.io q hq
    have hj : q.1 ≠ i := hio q hq
    exact ⟨h1, by rw [List.getElem?_set_ne (Ne.symm hj)]; exact h2, by rw [List.getElem?_set_ne (Ne.symm hj)]; exact h3⟩
  tab := R.tab
variable {fr' : Fr} {σ' : L2.St} {H' Hv' : Hp} {ex : Option (Nat × Addr)}
/-- out of the suite: no slot bears the exception any more -/
theorem Rel.cool (R' : Rel (B.hot H Hv dd ex) fr' σ' H' Hv') (R : Rel B fr σ H Hv) (hd : H dd = some (.xd l)) (hn : ∀ i a, ex = some (i, a) → ∀ d, fr'[i]? = some (some d) → False) : Rel B fr' σ' H' Hv' where
  sub := R'.sub
  ext0 := R.ext0.trans R'.ext0
  new := fun b o h => by
    rcases R'.new b o h with h1 | h1 | h1
    · exact R.new b o h1
    · exact .inr (.inl (hot_H0 h1 hd).2)
    · exact .inr (.inr h1)
  keep := fun b o h h1 h2 => R'.keep b o (by
    show (if b = dd then H dd else B.H0 b) = some o
    split
    · next c => rw [← c]; exact R.keep b o h h1 h2
    · exact h) h1 h2
  len := R'.len
  val := R'.val
  box := fun i d h1 h2 h3 => by
    obtain ⟨e, v, h4, h5, h6⟩ := R'.box i d h1 h2 h3
    refine ⟨e, v, h4, h5, ?_⟩
    rcases h6 with h6 | ⟨_, a, h7, _⟩
    · exact .inl h6
    · exact (hn i a h7 d h1).elim
  own := fun i d h1 h2 => by
    obtain ⟨a, h3, h4, h5, h6⟩ := R'.own i d h1 h2
    refine ⟨a, h3, h4, ?_, h6⟩
    rcases h5 with h5 | h5
    · exact .inl h5
    · exact .inr (hot_H0 h5 hd).2
  sep := R'.sep
  io := R'.io
  tab := R'.tab
theorem FinB.cool {fr2 : Fr} (R' : FinB (B.hot H Hv dd ex) fr' H' Hv') (R : Rel B fr σ H Hv) (hd : H dd = some (.xd l)) (hn : ∀ q ∈ B.io, fr2[q.1]? = fr'[q.1]?) : FinB B fr2 H' Hv' where
  sub := R'.sub
  ext0 := R.ext0.trans R'.ext0
  new := fun b o h => by
    rcases R'.new b o h with h1 | h1 | h1
    · exact R.new b o h1
    · exact .inr (.inl (hot_H0 h1 hd).2)
    · exact .inr (.inr h1)
  keep := fun b o h h1 h2 => R'.keep b o (by
    show (if b = dd then H dd else B.H0 b) = some o
    split
    · next c => rw [← c]; exact R.keep b o h h1 h2
    · exact h) h1 h2
  tab := R'.tab
  io := fun q hq => by
    obtain ⟨h1, d, h2, h3⟩ := R'.io q hq
    exact ⟨h1, d, by rw [hn q hq]; exact h2, h3⟩
theorem RetR.cool {rf : Bool} {d : D} {v : V} (h : RetR rf B.G (B.hot H Hv dd ex).H0 H' Hv' d v) (hd : H dd = some (.xd l)) : RetR rf B.G B.H0 H' Hv' d v := by
  unfold RetR at h ⊢
  split at h
  · next c =>
    rw [if_pos c]
    obtain ⟨p, h1, h2, h3⟩ := h
    exact ⟨p, h1, (hot_H0 h2 hd).2, h3⟩
  · next c =>
    rw [if_neg c]
    exact h
end
/-- the context bears the exception at a: its class c, its fields fs -/
structure HotX (X : Cx) (B : Bd) (n c : Nat) (fs : List D) (a dd : Addr) (oe : Obj) : Prop where
  pin : (a, oe) ∈ X.pn
  z : L2N.Zn (.ref (B.G.ecls c)) (some dd) oe
  dat : ∃ vs, oe.data = .fields vs
  cn : c < n
  atx : ExcAt B.G B.H0 B.Hv0 c fs dd
  noio : ∀ p ∈ B.io, p.2 ≠ dd
  notab : dd ∉ B.G.tabs
  hot : L2H.Hot1 X.A (a, oe)
/-- what a suite's rule must give -/
def SuOk (X : Cx) (B : Bd) (n : Nat) (h : Hd) (rf : Bool) (su : List Stmt) : Prop :=
  ∀ (c : Nat) (fs : List D) (a dd : Addr) (oe : Obj) (pn : List (Addr × Obj)) (H Hv : Hp), h.t c = true → HotX (X.suite a ((a, oe) :: pn)) (B.hot H Hv dd (h.nm.map fun i => (i, a))) n c fs a dd oe →
    DSs (X.suite a ((a, oe) :: pn)) (B.hot H Hv dd (h.nm.map fun i => (i, a))) (fun _ _ _ _ => False) rf su (h.g c fs)
inductive HdsOk (X : Cx) (B : Bd) (n : Nat) (rf : Bool) : List ExceptHandler → List Hd → Prop
  | nil : HdsOk X B n rf [] []
  | plain {x : Str} {cv : Value} {b₀ : Stmt} {suite : List Stmt} {np pos' : Pos} {hds : List ExceptHandler} {h : Hd} {hs : List Hd} (hc : Names X x cv) (hm : h.nm = none) (ht : ∀ c, c < n → PySem.W.exmOne X.K (.ref (B.G.ecls c)) cv = some (h.t c))
      (hsu : SuOk X B n h rf (b₀ :: suite)) (r : HdsOk X B n rf hds hs) : HdsOk X B n rf (.ExceptHandler (some (.Name x np)) none (b₀ :: suite) pos' :: hds) (h :: hs)
  | named {x nm : Str} {i : Nat} {cv : Value} {b₀ : Stmt} {suite : List Stmt} {np pos' : Pos} {hds : List ExceptHandler} {h : Hd} {hs : List Hd} (hc : Names X x cv) (hm : h.nm = some i) (hi : X.N[i]? = some nm) (hln : X.env.kindOf nm = some .local) (hM : i ∈ B.M) (hio : ∀ q ∈ B.io, q.1 ≠ i)
      (ht : ∀ c, c < n → PySem.W.exmOne X.K (.ref (B.G.ecls c)) cv = some (h.t c))
      (hsu : SuOk X B n h rf (b₀ :: suite)) (r : HdsOk X B n rf hds hs) : HdsOk X B n rf (.ExceptHandler (some (.Name x np)) (some nm) (b₀ :: suite) pos' :: hds) (h :: hs)
/-- a suite's reading, over all that it may be handed -/
def tSu (B : Bd) (n : Nat) (h : Hd) (rf : Bool) : Addr → Value → Option Addr → TS := fun a cls d D σ H1 =>
  ∃ (c : Nat) (fs : List KS.D) (dd : Addr) (H Hv : Hp), (c < n ∧ h.t c = true ∧ cls = .ref (B.G.ecls c) ∧ d = some dd ∧ ExcAt B.G H Hv c fs dd ∧ (∀ p ∈ B.io, p.2 ≠ dd) ∧ dd ∉ B.G.tabs) ∧ dTS (B.hot H Hv dd (h.nm.map fun i => (i, a))) (fun _ _ _ _ => False) rf (h.g c fs) D σ H1
theorem su_run {X : Cx} {B : Bd} {n : Nat} {h : Hd} {rf : Bool} {su : List Stmt} (hsu : SuOk X B n h rf su) (a : Addr) (oe : Obj) (cls : Value) (d : Option Addr) (pn : List (Addr × Obj)) (hz : L2N.Zn cls d oe) (hf : ∃ vs, oe.data = .fields vs) : PSs (X.suite a ((a, oe) :: pn)) su (tSu B n h rf a cls d) := by
  refine ⟨fun pins s σ H D I hh => ?_⟩
  obtain ⟨c, fs, dd, H1, Hv1, ⟨h1, h2, rfl, rfl, h5, h6, h7⟩, hh⟩ := hh
  have h5' : ExcAt B.G (B.hot H1 Hv1 dd (h.nm.map fun i => (i, a))).H0 Hv1 c fs dd := by
    obtain ⟨l, e, r⟩ := h5
    exact ⟨l, by show (if dd = dd then H1 dd else B.H0 dd) = _; rw [if_pos rfl]; exact e, r⟩
  exact (hsu c fs a dd oe pn H1 Hv1 h2 ⟨List.mem_cons_self, hz, hf, h1, h5', h6, h7, rfl, hf.imp fun vs e => ⟨e, hz.2.2 vs e⟩⟩).run pins s σ H D I hh
section
variable {X : Cx} {B : Bd} {W : WX} {rf : Bool} {n : Nat} {g : Sv} {body : List Stmt} {h₀ : ExceptHandler} {hds : List ExceptHandler} {hs : List Hd} {pos : Pos}
theorem hds_cls {hds : List ExceptHandler} (k : HdsOk X B n rf hds hs) : ∃ l : List Cl, ClsOk X hds l ∧ (B.ex = none → ∀ (Wo : WX) (D : L2.Ends) (c : Nat) (fs : List KS.D) (fr : Fr) (Hv0 : Hp), c < n →
    PostS B Wo rf Hv0 (hand hs c fs fr) D → ∀ (dd : Addr) (σ : L2.St) (H Hv : Hp), Rel B fr σ H Hv → Sub Hv0 Hv → ExcAt B.G H Hv c fs dd → wClauses X.K Wo D l (.ref (B.G.ecls c)) (some dd) σ H) := by
  induction k with
  | nil => exact ⟨[], .nil, fun _ Wo D c fs fr Hv0 _ h dd σ H Hv R s ex => h dd σ H Hv R s ex⟩
  | @plain x cv b₀ suite np pos' hds h hs hc hm ht hsu r ih =>
    obtain ⟨l, hl, hw⟩ := ih
    refine ⟨⟨cv, none, tSu B n h rf⟩ :: l, .plain hc (fun a oe cls d pn hz hf => su_run hsu a oe cls d pn hz hf) hl, ?_⟩
    intro hex Wo D c fs fr Hv0 hcn hp dd σ H Hv R s ex
    refine ⟨h.t c, ht c hcn, fun hb a ha => ?_, fun hb => hw hex Wo D c fs fr Hv0 hcn (by
      have e : hand (h :: hs) c fs fr = hand hs c fs fr := by
        show (if h.t c = true then _ else _) = _
        rw [hb]; rfl
      rw [e] at hp; exact hp) dd σ H Hv R s ex⟩
    have e : hand (h :: hs) c fs fr = suiteE h c fs fr := by
      show (if h.t c = true then _ else _) = _
      rw [hb]; rfl
    rw [e] at hp
    unfold suiteE at hp
    rw [hm] at hp
    obtain ⟨l0, hd, _⟩ := id ex
    refine ⟨c, fs, dd, H, Hv, ⟨hcn, hb, rfl, rfl, ex, R.xd_noio hd, R.xd_notab hd⟩, fr, Hv, R.hot hd hex _, ?_⟩
    rw [hm]
    have cool : ∀ {fr' σ' H' Hv'}, Rel (B.hot H Hv dd none) fr' σ' H' Hv' → Rel B fr' σ' H' Hv' := fun R' => R'.cool R hd (fun _ _ z => by cases z)
    dsimp only [inN, outN, endsN, Option.map] at hp ⊢
    cases hg : h.g c fs fr with
    | bad => rw [hg] at hp; exact hp.elim
    | exc c' fs' fr' => rw [hg] at hp; exact hp.elim
    | ok fl fr' =>
      rw [hg] at hp
      cases fl with
      | nx => exact fun σ' H' Hv' R' s' => hp σ' H' Hv' (cool R') (s.trans s')
      | brk => exact fun σ' H' Hv' R' s' => hp σ' H' Hv' (cool R') (s.trans s')
      | cnt => exact fun σ' H' Hv' R' s' => hp σ' H' Hv' (cool R') (s.trans s')
      | ret d => exact fun v H' Hv' F r => hp v H' Hv' (F.cool R hd fun _ _ => rfl) (r.cool hd)
  | @named x nm i cv b₀ suite np pos' hds h hs hc hm hi hln hM hio ht hsu r ih =>
    obtain ⟨l, hl, hw⟩ := ih
    refine ⟨⟨cv, some i, tSu B n h rf⟩ :: l, .named hc hi hln (fun a oe cls d pn hz hf => su_run hsu a oe cls d pn hz hf) hl, ?_⟩
    intro hex Wo D c fs fr Hv0 hcn hp dd σ H Hv R s ex
    refine ⟨h.t c, ht c hcn, fun hb a ha => ?_, fun hb => hw hex Wo D c fs fr Hv0 hcn (by
      have e : hand (h :: hs) c fs fr = hand hs c fs fr := by
        show (if h.t c = true then _ else _) = _
        rw [hb]; rfl
      rw [e] at hp; exact hp) dd σ H Hv R s ex⟩
    have e : hand (h :: hs) c fs fr = suiteE h c fs fr := by
      show (if h.t c = true then _ else _) = _
      rw [hb]; rfl
    rw [e] at hp
    unfold suiteE at hp
    rw [hm] at hp
    obtain ⟨l0, hd, _⟩ := id ex
    have gone : ∀ {fr' : Fr} {σ' H' Hv'}, Rel (B.hot H Hv dd (some (i, a))) fr' σ' H' Hv' → Rel B (fr'.set i none) (σ'.set i none) H' Hv' := fun R' => (R'.exgone (B := B.hot H Hv dd (some (i, a))) hio).cool R hd (fun j b z d q => by
      cases z
      rcases get_set q with ⟨_, z⟩ | ⟨z, _⟩
      · cases z
      · exact z rfl)
    refine ⟨c, fs, dd, H, Hv, ⟨hcn, hb, rfl, rfl, ex, R.xd_noio hd, R.xd_notab hd⟩, inN fr (some i), Hv, ?_, ?_⟩
    · rw [hm]
      by_cases hl : i < fr.length
      · exact (R.hot hd hex (some (i, a))).exset hM hio hl rfl
      · have e1 : inN fr (some i) = fr := List.set_eq_of_length_le (by omega)
        have e2 : setN σ a (some i) = σ := List.set_eq_of_length_le (by rw [← R.len]; omega)
        rw [e1, e2]
        exact R.hot hd hex _
    · rw [hm]
      dsimp only [inN, outN, endsN, Option.map] at hp ⊢
      cases hg : h.g c fs (fr.set i (some (.tup [.var i]))) with
      | bad => rw [hg] at hp; exact hp.elim
      | exc c' fs' fr' => rw [hg] at hp; exact hp.elim
      | ok fl fr' =>
        rw [hg] at hp
        cases fl with
        | nx => exact fun σ' H' Hv' R' s' => hp (σ'.set i none) H' Hv' (gone R') (s.trans s')
        | brk => exact fun σ' H' Hv' R' s' => hp (σ'.set i none) H' Hv' (gone R') (s.trans s')
        | cnt => exact fun σ' H' Hv' R' s' => hp (σ'.set i none) H' Hv' (gone R') (s.trans s')
        | ret d => exact fun v H' Hv' F r => hp v H' Hv' (F.cool R hd fun q hq => List.getElem?_set_ne (Ne.symm (hio q hq))) (r.cool hd)
/-- THE RULE for try -/
theorem s_try (hst : X.stack = X.env :: X.outer) (hf : X.env.frame = some X.env.locals) (hN : X.N.Nodup) (tk : L2N.Takes X W) (hex : B.ex = none)
    (hb : ∀ (W' : WX) (pn : List (Addr × Obj)) (xe : Value → Shared → Prop), L2N.Takes (X.tr pn xe) W' → PassesOwn (model X.prog X.w) X.A X.env xe → DSs (X.tr pn xe) B W' rf body g)
    (hh : HdsOk X B n rf (h₀ :: hds) hs) : DS X B W rf (.Try body (h₀ :: hds) [] [] pos) (sTry n g hs) := by
  obtain ⟨l, hl, hw⟩ := hds_cls hh
  refine ps_imp (ps_tryN (Wout := W) hst hf hN tk (tb := fun W' => dTS B W' rf g) hb hl) fun D σ H hh => ?_
  obtain ⟨fr, Hv, R, hh⟩ := hh
  refine ⟨fr, Hv, R, ?_⟩
  unfold sTry at hh
  cases hg : g fr with
  | bad => rw [hg] at hh; exact hh.elim
  | ok fl fr1 => rw [hg] at hh; cases fl <;> exact hh
  | exc c fs fr1 =>
    rw [hg] at hh
    dsimp only at hh
    split at hh
    · next hcn => exact fun dd σ' H' Hv' R' s ex => hw hex W D c fs fr1 Hv hcn hh dd σ' H' Hv' R' s ex
    · exact hh.elim
end
end KS
namespace KS
open PySem PySem.Spec PyProof.Rows L2 L2H
/-- e.f, e the exception that the context's pin holds -/
theorem pe_xfP {X : Cx} {a C : Addr} {oe : Obj} {cls : Value} {d : Option Addr} {e : Expr} {te : TE} {pos : Pos} {n : Str} (hp : (a, oe) ∈ X.pn) (T : XfC X.K C) (hno : PySem.W.findIn X.K (.ref C) n = some none)
    (hz : Zc cls d oe) (hf : ∃ vs, oe.data = .fields vs) (he : PE X e te) (hb : attributeBase e n X.env (eval e X.env) = eval e X.env := by rfl) :
    PE X (.Attribute e n pos) (tXf a cls d C n te) := by
  refine ⟨fun pins s σ H Q I h => ?_⟩
  refine attr_of hb (thn (he.run pins s σ H _ I h) fun u s1 hh => ?_)
  obtain ⟨x, H1, I1, rx, ex, ec, dd, fs, v, ed, ea, l, q⟩ := hh
  subst ex
  obtain rfl : u = Value.ref a := rx
  subst ec
  subst ed
  obtain ⟨ha, _⟩ := I1.pin (a, oe) (List.mem_append_left _ hp)
  obtain ⟨vs, hd⟩ := hf
  have hx : ObjOk X.prog X.w H1 s1.heap dd (.xd fs) := I1.hok dd _ ea
  obtain ⟨mA, hns, hr⟩ := hx
  obtain ⟨od, ho, hl⟩ := lookIn_ns hns
  obtain ⟨u, hu, ru⟩ := RelO.some_of (v := v) (o := mA n) (by rw [← l]; exact hr n)
  have J : PySem.W.InstAt s1.heap a oe C (some od) := ⟨ha, hz.1, by unfold PySem.W.notCls; rw [hd] <;> rfl, by rw [hz.2]; exact ho⟩
  exact HandSPX.exc_get I1.kIn J T.ga T.gg T.exC (PySem.W.findObj_own T.hdC hno rfl (by rw [hl, hu])) (handed_of ru) ⟨v, H1, I1.tok _, ru, q⟩
/-- isinstance(e, c), e the pinned exception: its class D has the answer for c -/
theorem kit_pin {X : Cx} {pins : List (Addr × Obj)} {σ : L2.St} {H : Hp} {s : Shared} {a D : Addr} {oe : Obj} {dd : Addr} {l : List (Str × V)} (hp : (a, oe) ∈ X.pn) (C : ExcC X.K D) (hz : Zc (.ref D) (some dd) oe) (hf : ∃ vs, oe.data = .fields vs) (I : Inv X pins σ H s) (hd : H dd = some (.xd l)) :
    ∃ od, PySem.W.KitX X.K (.ref a) (.ref D) (fun h => PySem.W.InstAt h a oe D od) ∧ PySem.W.InstAt s.heap a oe D od := by
  obtain ⟨ha, _⟩ := I.pin (a, oe) (List.mem_append_left _ hp)
  obtain ⟨vs, hv⟩ := hf
  have hx : ObjOk X.prog X.w H s.heap dd (.xd l) := I.hok dd _ hd
  obtain ⟨mA, hns, hr⟩ := hx
  obtain ⟨od, ho, hl⟩ := lookIn_ns hns
  have J : PySem.W.InstAt s.heap a oe D (some od) := ⟨ha, hz.1, by unfold PySem.W.notCls; rw [hv] <;> rfl, by rw [hz.2]; exact ho⟩
  obtain ⟨cd, hc, _⟩ := PySem.W.any_some C.hd
  exact ⟨some od, PySem.W.kitx_exc (by rw [hc]; rfl) C.hg C.hk C.hs C.ha C.hn C.ht C.hm, J⟩
def rIsP (K : PySem.W.Frag) (D a dd : Addr) : List V → Hp → VK → Prop := fun xs H Q => ∃ (c : V) (cv : Value) (b : Bool) (l : List (Str × V)), xs = [.ref a, c] ∧ ClsV c cv ∧ H dd = some (.xd l) ∧ PySem.W.kitOne K (.ref D) cv = some b ∧ Q (.bl b) H
theorem call_isP {X : Cx} {a D dd : Addr} {oe : Obj} (hp : (a, oe) ∈ X.pn) (C : ExcC X.K D) (hz : Zc (.ref D) (some dd) oe) (hf : ∃ vs, oe.data = .fields vs) : CallR X (.builtin "isinstance") (rIsP X.K D a dd) := by
  intro pins s σ H xs us Q I r h
  obtain ⟨c, cv, b, l, rfl, k, hd, e, q⟩ := h
  obtain ⟨u1, u2, rfl, r1, r2⟩ := vals2 r
  have e2 := k.eq r2
  subst e2
  cases (show u1 = Value.ref a from r1)
  obtain ⟨od, Z, J⟩ := kit_pin hp C hz hf I hd
  exact PySem.W.kia_one Z I.kIn J e (fun z => nomatch z) fun tk => ⟨.bl b, H, I.tok tk, rfl, q⟩
def rIsPT (K : PySem.W.Frag) (D a dd : Addr) : List V → Hp → VK → Prop := fun xs H Q => ∃ (tp : Addr) (cs : List V) (us : List Value) (b : Bool) (l : List (Str × V)), xs = [.ref a, .ref tp] ∧ H tp = some (.tup cs) ∧ Paired ClsV cs us ∧ H dd = some (.xd l) ∧ PySem.W.kitAny K (.ref D) us = some b ∧ Q (.bl b) H
theorem call_isPT {X : Cx} {a D dd : Addr} {oe : Obj} (hp : (a, oe) ∈ X.pn) (C : ExcC X.K D) (hz : Zc (.ref D) (some dd) oe) (hf : ∃ vs, oe.data = .fields vs) : CallR X (.builtin "isinstance") (rIsPT X.K D a dd) := by
  intro pins s σ H xs us Q I r h
  obtain ⟨tp, cs, ws, b, l, rfl, hT, k, hd, e, q⟩ := h
  obtain ⟨u1, u2, rfl, r1, r2⟩ := vals2 r
  cases (show u1 = Value.ref a from r1)
  cases (show u2 = Value.ref tp from r2)
  obtain ⟨od, Z, J⟩ := kit_pin hp C hz hf I hd
  obtain ⟨_, its, rv, o, h1, h2, n, h3⟩ := (show ObjOk X.prog X.w H s.heap tp (.tup cs) from I.hok tp _ hT)
  have e3 := ClsV.all k rv
  subst e3
  obtain ⟨oc, od', dt, sl⟩ := o
  simp only at h2 h3
  subst h2 h3
  exact PySem.W.kia_tup Z I.kIn J h1 e (fun z => nomatch z) fun tk => ⟨.bl b, H, I.tok tk, rfl, q⟩
/-- slot i holds the exception -/
def exIn (i : Nat) (fr : Fr) : Bool := match fr[i]? with
  | some (some (.tup [.var j])) => j == i
  | _ => false
def eXf (i : Nat) (ko : Option Nat) (fs : List D) : Ev := fun fr => if exIn i fr = true then (match ko.bind (fs[·]?) with
  | some d => .ok d fr
  | none => .bad) else .bad
def eIsE (i : Nat) (b : Bool) : Ev := fun fr => if exIn i fr = true then .ok (.bl b) fr else .bad
theorem exIn_at {B : Bd} {fr : Fr} {σ : L2.St} {H Hv : Hp} (R : Rel B fr σ H Hv) {i : Nat} {a : Addr} (hi : i ∈ B.M) (hex : B.ex = some (i, a)) (h : exIn i fr = true) : σ[i]? = some (some (.ref a)) := by
  unfold exIn at h
  split at h
  · next j e =>
    cases (beq_iff_eq.mp h)
    obtain ⟨e', v, z, hs, hr⟩ := R.box _ _ e rfl hi
    cases z
    rcases hr with hr | ⟨_, b, e2, rfl⟩
    · exact hr.elim
    · rw [hex] at e2
      cases e2
      exact hs
  · cases h
section
variable {X : Cx} {B : Bd} {W : WX} {n c : Nat} {fs : List D} {a dd : Addr} {oe : Obj} {i : Nat} {x : Str} {p q pos : Pos}
theorem HotX.now {fr : Fr} {σ : L2.St} {H Hv : Hp} (h : HotX X B n c fs a dd oe) (R : Rel B fr σ H Hv) : ExcAt B.G H Hv c fs dd := by
  obtain ⟨l, e, hl, r⟩ := h.atx
  refine ⟨l, R.keep dd _ e h.noio h.notab, hl, fun k nm d e1 e2 => ?_⟩
  obtain ⟨v, e3, e4⟩ := r k nm d e1 e2
  exact ⟨v, e3, Rep.mono R.ext0 _ _ e4⟩
/-- e.f in the suite -/
theorem d_xf (h : HotX X B n c fs a dd oe) (hex : B.ex = some (i, a)) (hi : i ∈ B.M) {f : Str} {k : Nat → Option Nat} (hk : ∀ c j, c < n → k c = some j → (B.G.efld c)[j]? = some f ∧ XfC X.K (B.G.ecls c) ∧ PySem.W.findIn X.K (.ref (B.G.ecls c)) f = some none)
    (hN : X.N[i]? = some x := by rfl) (hv : Vis X.env.scope x := by first | exact Or.inl rfl | exact Or.inr (Or.inl rfl) | exact Or.inr (Or.inr rfl)) (hd : (x == ("__debug__" : Str)) = false := by decide)
    (hcd : (x == ("__classdict__" : Str)) = false := by decide) (hb : attributeBase (.Name x p) f X.env (eval (.Name x p) X.env) = eval (.Name x p) X.env := by rfl) : DE X B W (.Attribute (.Name x p) f pos) (eXf i (k c) fs) := by
  cases hkc : k c with
  | none =>
    refine ⟨fun pins s σ H Q I hh => ?_⟩
    obtain ⟨fr, Hv, R, hh⟩ := hh
    unfold eXf at hh
    split at hh
    · exact hh.elim
    · exact hh.elim
  | some j =>
    obtain ⟨h1, h2, h3⟩ := hk c j h.cn hkc
    refine pe_imp (pe_xfP h.pin h2 h3 h.z.zc h.dat (pe_var hN hv hd hcd) hb) fun σ H Q hh => ?_
    obtain ⟨fr, Hv, R, hh⟩ := hh
    unfold eXf at hh
    split at hh
    · next ci =>
      split at hh
      · next d hd' =>
        obtain ⟨l, e1, _, e2⟩ := h.now R
        obtain ⟨v, e3, e4⟩ := e2 j f d h1 hd'
        exact ⟨_, exIn_at R hi hex ci, rfl, rfl, dd, l, v, rfl, e1, e3, hh v H Hv (.refl R) (.of e4)⟩
      · exact hh.elim
    · exact hh.elim
/-- the names of classes -/
inductive NmC (X : Cx) : List Expr → List V → List Value → Prop
  | nil : NmC X [] [] []
  | own {x : Str} {p : Pos} {C : Addr} {es : List Expr} {vs : List V} {us : List Value} (hg : Gl X x) (hm : X.mg x = some (.ref C)) (hd : (x == ("__debug__" : Str)) = false) (r : NmC X es vs us) : NmC X (.Name x p :: es) (.ref C :: vs) (.ref C :: us)
theorem NmC.pair {es : List Expr} {vs : List V} {us : List Value} (h : NmC X es vs us) : Paired ClsV vs us := by
  induction h with
  | nil => exact .nil
  | own _ _ _ _ ih => exact .cons (.own _) ih
theorem NmC.pa {es : List Expr} {vs : List V} {us : List Value} (h : NmC X es vs us) : PA X es (fun σ H Q => Q vs H) := by
  induction h with
  | nil => exact pa_nil
  | own hg hm hd _ ih => exact pa_cons (pe_glob hg hm (show RelV (.ref _) (.ref _) from rfl) hd) ih
/-- isinstance(e, C), C a class of the program or a built-in one -/
theorem d_isE (h : HotX X B n c fs a dd oe) (hex : B.ex = some (i, a)) (hi : i ∈ B.M) {y : Str} {cv : Value} {t : Nat → Bool} (hy : (X.mg y = some cv ∧ ∃ C, cv = .ref C) ∨ (X.mg y = none ∧ bootBuiltins y = some cv ∧ y ≠ "__name__" ∧ ∃ T, cv = .type T)) (ht : ∀ c, c < n → ExcC X.K (B.G.ecls c) ∧ PySem.W.kitOne X.K (.ref (B.G.ecls c)) cv = some (t c))
    (hm : X.mg "isinstance" = none) (hN : X.N[i]? = some x := by rfl) (hv : Vis X.env.scope x := by first | exact Or.inl rfl | exact Or.inr (Or.inl rfl) | exact Or.inr (Or.inr rfl)) (hd : (x == ("__debug__" : Str)) = false := by decide)
    (hcd : (x == ("__classdict__" : Str)) = false := by decide) (hg : Gl X "isinstance" := by rfl) (hgy : Gl X y := by rfl) (hbv : bootBuiltins "isinstance" = some (.builtin "isinstance") := by decide +kernel) (hn : (("isinstance" : String) : Str) ≠ "__name__" := by decide) (hdb : ((("isinstance" : String) : Str) == ("__debug__" : Str)) = false := by decide) (hdy : (y == ("__debug__" : Str)) = false := by decide)
    (he2 : starEach [.Name y q] X.env = (false, eval (.Name y q) X.env) :: starEach [] X.env := by rfl) (he : starEach [.Name x p, .Name y q] X.env = (false, eval (.Name x p) X.env) :: starEach [.Name y q] X.env := by rfl) (hpl : (backTo pos (starEach [.Name y q] X.env)).any (·.1) = false := by rfl) {ip : Pos} :
    DE X B W (.Call (.Name "isinstance" ip) [.Name x p, .Name y q] [] pos) (eIsE i (t c)) := by
  obtain ⟨hC, hkt⟩ := ht c h.cn
  have key : ∃ v, ClsV v cv ∧ PE X (.Name y q) (tC v) := by
    rcases hy with ⟨h1, C, rfl⟩ | ⟨h1, h2, h3, T, rfl⟩
    · exact ⟨_, .own C, pe_glob hgy h1 (show RelV (.ref C) (.ref C) from rfl) hdy⟩
    · exact ⟨_, .ty T, pe_bltn hgy h1 h2 (show RelV (.ty T) (.type T) from rfl) h3 hdy⟩
  obtain ⟨v, hv1, hv2⟩ := key
  refine pe_imp (pe_callB (call_isP h.pin hC h.z.zc h.dat) hg hm hbv (pa_cons (pe_var hN hv hd hcd) (pa_cons hv2 pa_nil he2) he) hn hdb he hpl) fun σ H Q hh => ?_
  obtain ⟨fr, Hv, R, hh⟩ := hh
  unfold eIsE at hh
  split at hh
  · next ci =>
    obtain ⟨l, e1, _⟩ := h.now R
    exact ⟨_, exIn_at R hi hex ci, v, cv, t c, l, rfl, hv1, e1, hkt, hh (.bl (t c)) H Hv (.refl R) (.of repB)⟩
  · exact hh.elim
/-- isinstance(e, (C, ..)), classes of the program -/
theorem d_isET (h : HotX X B n c fs a dd oe) (hex : B.ex = some (i, a)) (hi : i ∈ B.M) {es : List Expr} {vs : List V} {us : List Value} {t : Nat → Bool} (hes : NmC X es vs us) (hsz : vs.length ≤ sizeLine) (ht : ∀ c, c < n → ExcC X.K (B.G.ecls c) ∧ PySem.W.kitAny X.K (.ref (B.G.ecls c)) us = some (t c))
    (hm : X.mg "isinstance" = none) {tpos : Pos} {k1 : Nat} (hN : X.N[i]? = some x := by rfl) (hv : Vis X.env.scope x := by first | exact Or.inl rfl | exact Or.inr (Or.inl rfl) | exact Or.inr (Or.inr rfl)) (hd : (x == ("__debug__" : Str)) = false := by decide)
    (hcd : (x == ("__classdict__" : Str)) = false := by decide) (hg : Gl X "isinstance" := by rfl) (hbv : bootBuiltins "isinstance" = some (.builtin "isinstance") := by decide +kernel) (hn : (("isinstance" : String) : Str) ≠ "__name__" := by decide) (hdb : ((("isinstance" : String) : Str) == ("__debug__" : Str)) = false := by decide)
    (he2 : starEach [.Tuple es k1 tpos] X.env = (false, eval (.Tuple es k1 tpos) X.env) :: starEach [] X.env := by rfl) (he : starEach [.Name x p, .Tuple es k1 tpos] X.env = (false, eval (.Name x p) X.env) :: starEach [.Tuple es k1 tpos] X.env := by rfl) (hpl : (backTo pos (starEach [.Tuple es k1 tpos] X.env)).any (·.1) = false := by rfl) {ip : Pos} :
    DE X B W (.Call (.Name "isinstance" ip) [.Name x p, .Tuple es k1 tpos] [] pos) (eIsE i (t c)) := by
  obtain ⟨hC, hkt⟩ := ht c h.cn
  refine pe_imp (pe_callB (call_isPT h.pin hC h.z.zc h.dat) hg hm hbv (pa_cons (pe_var hN hv hd hcd) (pa_cons (pe_tup hes.pa) pa_nil he2) he) hn hdb he hpl) fun σ H Q hh => ?_
  obtain ⟨fr, Hv, R, hh⟩ := hh
  unfold eIsE at hh
  split at hh
  · next ci =>
    refine ⟨_, exIn_at R hi hex ci, hsz, fun T hT => ?_⟩
    have nx : Nxt B fr σ H Hv fr (upd H T (.tup vs)) Hv := ⟨R.lay hT, .refl _, fun b u h _ _ => by rw [upd_ne (ne_of_none h hT)]; exact h, .refl _ _, fun b u h => ⟨u, by rw [upd_ne (ne_of_none h hT)]; exact h⟩, fun b u h => .inl h⟩
    obtain ⟨l, e1, _⟩ := h.now nx.rel
    exact ⟨T, vs, us, t c, l, rfl, upd_same, hes.pair, e1, hkt, hh (.bl (t c)) _ Hv nx (.of repB)⟩
  · exact hh.elim
end
end KS
namespace KS
open PySem PySem.Spec PyProof.Rows L2 L2H
/-- as FnOk, where no repr is under way -/
structure FnG (P : Program) (w : World) (K : PySem.W.Frag) (mg : Str → Option Value) (base : Heap) (CX : CXT) (k : Nat) (f : Addr) (fd : FuncData) (ps : List Str) (sp : Sp) : Prop where
  len : ∀ vs H Q E, sp vs H Q E → vs.length = ps.length
  run : ∀ (A : Around) (outer : List Env) (s : Shared) (H : Hp) (args : Args) (us : List Value) (vs : List V) (Q : VK) (E : XK), Room k A → A.guards = some [] → Env0 P w K mg base A outer s H → BindsTo s fd args (ps.zip us) → Vals vs us → sp vs H Q E →
    codeAny (model P w) A (.call (.ref f) args) (CR CX outer P w H s Q E) s
theorem FnG.mono {P : Program} {w : World} {K : PySem.W.Frag} {mg : Str → Option Value} {base : Heap} {CX : CXT} {j k : Nat} {f : Addr} {fd : FuncData} {ps : List Str} {sp : Sp} (F : FnG P w K mg base CX j f fd ps sp) (h : j ≤ k) :
    FnG P w K mg base CX k f fd ps sp := ⟨F.len, fun A outer s H args us vs Q E hr => F.run A outer s H args us vs Q E (hr.mono h)⟩
theorem FnG.imp {P : Program} {w : World} {K : PySem.W.Frag} {mg : Str → Option Value} {base : Heap} {CX : CXT} {k : Nat} {f : Addr} {fd : FuncData} {ps : List Str} {sp sp' : Sp} (F : FnG P w K mg base CX k f fd ps sp)
    (h : ∀ vs H Q E, sp' vs H Q E → sp vs H Q E) : FnG P w K mg base CX k f fd ps sp' :=
  ⟨fun vs H Q E q => F.len vs H Q E (h _ _ _ _ q), fun A outer s H args us vs Q E hr hg he hb hv hs => F.run A outer s H args us vs Q E hr hg he hb hv (h _ _ _ _ hs)⟩
theorem FnG.of {P : Program} {w : World} {K : PySem.W.Frag} {mg : Str → Option Value} {base : Heap} {CX : CXT} {k : Nat} {f : Addr} {fd : FuncData} {ps : List Str} {sp : Sp} (F : FnOk P w K mg base CX k f fd ps sp) : FnG P w K mg base CX k f fd ps sp :=
  ⟨F.len, fun A outer s H args us vs Q E hr hg he hb hv hs => F.run A outer s H args us vs Q E hr he hb hv hs⟩
/-- a def by its body, there -/
theorem fn_ofG {CX : CXT} {P : Program} {w : World} {K : PySem.W.Frag} {mg : Str → Option Value} {base : Heap} {k : Nat} {x qual : Str} {st : Stmt} {f : Addr} {fd : FuncData} {N ps : List Str} {sp : Sp} (F : Fun K x qual st f fd) (S : FnScope N ps (defScope st))
    (len : ∀ vs H Q E, sp vs H Q E → vs.length = ps.length)
    (hbody : ∀ (cdv : Value) (A : Around) (outer : List Env) (s : Shared) (H : Hp) (vs : List V) (Q : VK) (E : XK), A.guards = some [] → Room k (A.deeper (envOfC qual (defScope st) s.heap.objs.size f cdv)) → sp vs H Q E →
      ∃ t, PSs (cxOf CX P w K mg base N qual (defScope st) f cdv A outer s H E) (defBody st) t ∧ t { nx := fun _ H' => Q .non H', rt := Q } (L2.start N vs) H) :
    FnG P w K mg base CX (k + 1) f fd ps sp := by
  obtain ⟨oc, od, kV, doc, pm, an, cdv, ct, osl, rfl, lk, hcd⟩ := F.ex
  refine ⟨len, fun A outer s H args us vs Q E hr hgd e0 hb r hsp => ?_⟩
  -- at this A alone: the promise of fn_of, for the reading that only this call has
  have hl := len _ _ _ _ hsp
  have KX : K.In s.heap := e0.mod.kin.keeps fun b o e => (e0.bs b o e).1
  have lim : s.heap.NoLimit := e0.mod.nolimit.keeps fun b o e => (e0.bs b o e).1
  have hkind : ∀ y ∈ ps.zip us, (defScope st).names.lookup y.1 = some .local ∨ ((defScope st).names.lookup y.1 = some .cell ∧ ((cellsFrom (s.heap.objs.size + 1) (defScope st).names []).lookup y.1).isSome = true) := fun ⟨n, v⟩ hy => by
    rcases S.par n (List.of_mem_zip hy).1 with q | q
    · exact .inl q
    · exact .inr ⟨q, PySem.W.cellsFrom_some _ _ _ (.inl q)⟩
  refine codeAny_call_function hr.depth (KX _ _ lk) rfl S.co S.gen rfl (PySem.W.codeRec_of KX hcd) (hb _ _ _ _ ?_)
  refine wpAny_newFunctionEnv_cells S.kind hkind fun env he s1 x => ?_
  subst he
  refine ⟨lim.keeps x.toInCall.keep, codeAny_func ?_⟩
  obtain ⟨t, ht, hq⟩ := hbody cdv A outer s H vs Q E hgd (hr.deeper _) hsp
  have I : Inv (cxOf CX P w K mg base N qual (defScope st) f cdv A outer s H E) [] (L2.start N vs) H s1 := inv_start S hr.hd e0 hl r x
  refine wpAny_mono (ht.run [] s1 (L2.start N vs) H _ I hq) (fun fl s' hs => ?_) fun e s' hs => hs
  have fin : ∀ {σ' : L2.St} {H' : Hp} {v : V} {u : Value}, Inv (cxOf CX P w K mg base N qual (defScope st) f cdv A outer s H E) [] σ' H' s' → RelV v u → Q v H' → CE outer P w H s Q u s' :=
    fun {σ' H' v u} J rv q => ⟨v, H', J.os, J.bare, J.base, J.hok, rv, q⟩
  cases fl with
  | ret u =>
    obtain ⟨v, σ', H', J, rv, q⟩ := hs
    exact fin J rv q
  | next =>
    obtain ⟨σ', H', J, q⟩ := hs
    exact fin (v := V.non) (u := Value.none) J rfl q
  | brk =>
    obtain ⟨_, _, _, q⟩ := hs
    exact False.elim q
  | cont =>
    obtain ⟨_, _, _, q⟩ := hs
    exact False.elim q
section
variable {G : SE} {ms : List Bool} {M : List Nat} {rf : Bool} {g : Sv} {x qual : Str} {st : Stmt} {f : Addr} {fd : FuncData} {N ps : List Str} {k : Nat}
theorem fng_of (F : Fun G.K x qual st f fd) (S : FnScope N ps (defScope st)) (hlen : ms.length = ps.length) (hM : ∀ i, i < ms.length → (i ∈ M ↔ ms[i]? = some true)) (hret : rf = false ∨ ∀ ds fr, g (startF N.length ds) ≠ .ok .nx fr)
    (hbody : ∀ (cdv : Value) (A : Around) (outer : List Env) (s : Shared) (H : Hp) (E : XK) (io : List (Nat × Addr)) (Hv : Hp), (∀ p ∈ io, ms[p.1]? = some true) → A.guards = some [] → Room k (A.deeper (PyProof.Rows.envOfC qual (defScope st) s.heap.objs.size f cdv)) →
      DSs (cxOf (L2N.CX G.P G.w) G.P G.w G.K G.mg G.base N qual (defScope st) f cdv A outer s H E) ⟨G, M, io, H, Hv, none⟩ (fun cls d _ H => E cls d H) rf (defBody st) g) :
    FnG G.P G.w G.K G.mg G.base (L2N.CX G.P G.w) (k + 1) f fd ps (spOf G ms rf (runFn ms.length N.length g)) := by
  have hNl : ms.length ≤ N.length := by
    have := congrArg List.length S.pre
    rw [List.length_take] at this
    omega
  refine fn_ofG F S (fun vs H Q E h => ?_) (fun cdv A outer s H vs Q E hgd hr h => ?_)
  · obtain ⟨ds, Hv, S', _⟩ := h
    rw [S'.lenv, hlen]
  · obtain ⟨ds, Hv, S', h⟩ := h
    refine ⟨_, hbody cdv A outer s H E (ioOf ms vs) Hv (fun p hp => ((mem_ioOf (a := p.2)).mp hp).1) hgd hr, startF N.length ds, Hv, rel_start S' hNl hM, ?_⟩
    unfold runFn at h
    cases hg : g (startF N.length ds) with
    | bad => rw [hg] at h; exact h.elim
    | exc c fs fr =>
      rw [hg] at h
      exact fun dd σ' H' Hv' R _ ex => h dd H' Hv' (fin_of S'.lenv R.fin) ex
    | ok fl fr =>
      rw [hg] at h
      cases fl with
      | nx =>
        rcases hret with hrf | hrf
        · subst hrf
          refine fun σ' H' Hv' R _ => h .non H' Hv' (fin_of S'.lenv R.fin) ?_
          show if false = true then _ else Rep G Hv' .non .non
          rw [if_neg Bool.false_ne_true]
          exact repN
        · exact absurd hg (hrf ds fr)
      | brk => exact h.elim
      | cnt => exact h.elim
      | ret d => exact fun v H' Hv' f' ret => h v H' Hv' (fin_of S'.lenv f') ret
end
section
variable {X : Cx} {CX : CXT} {k : Nat} {f : Addr} {fd : FuncData} {ps : List Str} {sp : Sp} {E : L2.St → XK} {x : Str} {p pos : Pos} {e : Expr} {es : List Expr} {t : TA}
theorem pe_callG (F : FnG X.prog X.w X.K X.mg X.base CX k f fd ps sp) (hr : Room k X.A) (hgd : X.A.guards = some []) (hg : Gl X x) (hm : X.mg x = some (.ref f)) (hk : PySem.W.keepIn X.K (.ref f) = true) (hb : Binds X.K fd ps []) (hx : ∀ σ, PassesAt CX X σ (E σ))
    (ha : PA X (e :: es) t) (hdb : (x == ("__debug__" : Str)) = false := by decide) (he : starEach (e :: es) X.env = (false, eval e X.env) :: starEach es X.env := by rfl) (hpl : (backTo pos (starEach es X.env)).any (·.1) = false := by rfl) :
    PE X (.Call (.Name x p) (e :: es) [] pos) (tCallSD sp [] E t) := by
  refine ⟨fun pins s σ H Q I h => ?_⟩
  refine wpAny_Call_Name_kw (ld_glob I hg hm ?_ hdb)
  refine PySem.W.callWith_K (h₀ := X.base) I.ok.mod.kin hk (thn (ha.run pos pins s σ H _ I h) fun us s1 ⟨vs, H1, I1, r, q⟩ => ⟨I1.kIn, ?_⟩) he hpl
  dsimp only at q
  rw [List.append_nil] at q
  have hl : (us ++ []).length = ps.length := by rw [List.append_nil, ← r.length]; exact F.len _ _ _ _ q
  have hbt := hb s1 us I1.kIn hl
  rw [List.append_nil] at hbt
  refine wpAny_call (codeAny_mono (F.run X.A X.stack s1 H1 ⟨us, []⟩ us vs Q (E σ) hr hgd I1.env0 hbt r q) fun r s' hq => ?_)
  cases r with
  | error e => exact hx σ pins H1 s1 e s' I1 hq
  | ok fl =>
    cases fl with
    | ret u => exact I1.after hq
    | next => exact False.elim hq
    | brk => exact False.elim hq
    | cont => exact False.elim hq
end
section
variable {X : Cx} {B : Bd} {W : WX} {e : Expr} {es : List Expr} {g : Av} {k : Nat} {f : Addr} {fd : FuncData} {ps : List Str} {ms : List Bool} {F : Fn} {x : Str} {p pos : Pos}
theorem d_callG (Fk : FnG X.prog X.w X.K X.mg X.base (L2N.CX X.prog X.w) k f fd ps (spOf B.G ms false F)) (hr : Room k X.A) (hgd : X.A.guards = some []) (hm : X.mg x = some (.ref f)) (hk : PySem.W.keepIn X.K (.ref f) = true) (hb : Binds X.K fd ps []) (tk : ∀ σ, PassesAt (L2N.CX X.prog X.w) X σ (WE W σ))
    (ha : DA X B W (e :: es) g) (hg : Gl X x := by rfl) (hdb : (x == ("__debug__" : Str)) = false := by decide) (he : starEach (e :: es) X.env = (false, eval e X.env) :: starEach es X.env := by rfl) (hpl : (backTo pos (starEach es X.env)).any (·.1) = false := by rfl) :
    DE X B W (.Call (.Name x p) (e :: es) [] pos) (eCall ms F g) := by
  refine pe_imp (pe_callG Fk hr hgd hg hm hk hb tk ha hdb he hpl) fun σ H Q h => ?_
  obtain ⟨fr, Hv, R, h⟩ := h
  exact entCall (P := fun fr H Hv r => PostE B W fr σ H Hv r Q) R (fun c fs fr' h => h) (fun h => h) (fun d fr' h v H1 Hv1 H' Hv' fr1 n m ret => h v H' Hv' (n.trans m) (.of ret)) h
end
structure FnP (P : Program) (w : World) (K : PySem.W.Frag) (mg : Str → Option Value) (base : Heap) (CX : CXT) (k : Nat) (f : Addr) (fd : FuncData) (ps : List Str) (sp : Addr × Obj → Sp) : Prop where
  len : ∀ p vs H Q E, sp p vs H Q E → vs.length = ps.length
  run : ∀ (A : Around) (outer : List Env) (s : Shared) (H : Hp) (args : Args) (us : List Value) (vs : List V) (Q : VK) (E : XK) (p : Addr × Obj), RoomH k A → A.guards = some [] → Hot1 A p → PinOk outer H s p → Env0 P w K mg base A outer s H → BindsTo s fd args (ps.zip us) → Vals vs us → sp p vs H Q E →
    codeAny (model P w) A (.call (.ref f) args) (CR CX outer P w H s Q E) s
theorem fn_ofP {CX : CXT} {P : Program} {w : World} {K : PySem.W.Frag} {mg : Str → Option Value} {base : Heap} {k : Nat} {x qual : Str} {st : Stmt} {f : Addr} {fd : FuncData} {N ps : List Str} {sp : Addr × Obj → Sp} (F : Fun K x qual st f fd) (S : FnScope N ps (defScope st))
    (len : ∀ p vs H Q E, sp p vs H Q E → vs.length = ps.length)
    (hbody : ∀ (cdv : Value) (A : Around) (outer : List Env) (s : Shared) (H : Hp) (vs : List V) (Q : VK) (E : XK) (p : Addr × Obj), A.guards = some [] → Hot1 A p → RoomH k (A.deeper (envOfC qual (defScope st) s.heap.objs.size f cdv)) → sp p vs H Q E →
      ∃ t, PSs (cxH CX P w K mg base N qual (defScope st) f cdv A outer s H E p) (defBody st) t ∧ t { nx := fun _ H' => Q .non H', rt := Q } (L2.start N vs) H) :
    FnP P w K mg base CX (k + 1) f fd ps sp := by
  obtain ⟨oc, od, kV, doc, pm, an, cdv, ct, osl, rfl, lk, hcd⟩ := F.ex
  refine ⟨len, fun A outer s H args us vs Q E p hr hgd hot hpin e0 hb r hsp => ?_⟩
  have hl := len _ _ _ _ _ hsp
  have KX : K.In s.heap := e0.mod.kin.keeps fun b o e => (e0.bs b o e).1
  have lim : s.heap.NoLimit := e0.mod.nolimit.keeps fun b o e => (e0.bs b o e).1
  have hkind : ∀ y ∈ ps.zip us, (defScope st).names.lookup y.1 = some .local ∨ ((defScope st).names.lookup y.1 = some .cell ∧ ((cellsFrom (s.heap.objs.size + 1) (defScope st).names []).lookup y.1).isSome = true) := fun ⟨n, v⟩ hy => by
    rcases S.par n (List.of_mem_zip hy).1 with q | q
    · exact .inl q
    · exact .inr ⟨q, PySem.W.cellsFrom_some _ _ _ (.inl q)⟩
  refine codeAny_call_function hr.depth (KX _ _ lk) rfl S.co S.gen rfl (PySem.W.codeRec_of KX hcd) (hb _ _ _ _ ?_)
  refine wpAny_newFunctionEnv_cells S.kind hkind fun env he s1 x => ?_
  subst he
  refine ⟨lim.keeps x.toInCall.keep, codeAny_func ?_⟩
  obtain ⟨t, ht, hq⟩ := hbody cdv A outer s H vs Q E p hgd hot (hr.deeper _) hsp
  have I : Inv (cxH CX P w K mg base N qual (defScope st) f cdv A outer s H E p) [] (L2.start N vs) H s1 := inv_startH S hpin e0 hl r x
  refine wpAny_mono (ht.run [] s1 (L2.start N vs) H _ I hq) (fun fl s' hs => ?_) fun e s' hs => hs
  have fin : ∀ {σ' : L2.St} {H' : Hp} {v : V} {u : Value}, Inv (cxH CX P w K mg base N qual (defScope st) f cdv A outer s H E p) [] σ' H' s' → RelV v u → Q v H' → CE outer P w H s Q u s' :=
    fun {σ' H' v u} J rv q => ⟨v, H', J.os, J.bare, J.base, J.hok, rv, q⟩
  cases fl with
  | ret u =>
    obtain ⟨v, σ', H', J, rv, q⟩ := hs
    exact fin J rv q
  | next =>
    obtain ⟨σ', H', J, q⟩ := hs
    exact fin (v := V.non) (u := Value.none) J rfl q
  | brk =>
    obtain ⟨_, _, _, q⟩ := hs
    exact False.elim q
  | cont =>
    obtain ⟨_, _, _, q⟩ := hs
    exact False.elim q
theorem pe_callP {X : Cx} {CX : CXT} {k : Nat} {f : Addr} {fd : FuncData} {ps : List Str} {sp : Addr × Obj → Sp} {E : L2.St → XK} {x : Str} {p pos : Pos} {e : Expr} {es : List Expr} {t : TA} {pr : Addr × Obj} (hpr : pr ∈ X.pn) (hot : Hot1 X.A pr)
    (F : FnP X.prog X.w X.K X.mg X.base CX k f fd ps sp) (hr : RoomH k X.A) (hgd : X.A.guards = some []) (hg : Gl X x) (hm : X.mg x = some (.ref f)) (hk : PySem.W.keepIn X.K (.ref f) = true) (hb : Binds X.K fd ps []) (hx : ∀ σ, PassesAt CX X σ (E σ))
    (ha : PA X (e :: es) t) (hdb : (x == ("__debug__" : Str)) = false := by decide) (he : starEach (e :: es) X.env = (false, eval e X.env) :: starEach es X.env := by rfl) (hpl : (backTo pos (starEach es X.env)).any (·.1) = false := by rfl) :
    PE X (.Call (.Name x p) (e :: es) [] pos) (tCallSD (sp pr) [] E t) := by
  refine ⟨fun pins s σ H Q I h => ?_⟩
  refine wpAny_Call_Name_kw (ld_glob I hg hm ?_ hdb)
  refine PySem.W.callWith_K (h₀ := X.base) I.ok.mod.kin hk (thn (ha.run pos pins s σ H _ I h) fun us s1 ⟨vs, H1, I1, r, q⟩ => ⟨I1.kIn, ?_⟩) he hpl
  dsimp only at q
  rw [List.append_nil] at q
  have hl : (us ++ []).length = ps.length := by rw [List.append_nil, ← r.length]; exact F.len _ _ _ _ _ q
  have hbt := hb s1 us I1.kIn hl
  rw [List.append_nil] at hbt
  have P1 := I1.pin pr (List.mem_append_left _ hpr)
  have hpin : PinOk X.stack H1 s1 pr := ⟨P1.1, P1.2.1, fun hm => (List.mem_cons.mp (I1.stkSub pr.1 hm)).elim P1.2.2.1 P1.2.2.2.1, P1.2.2.2.2⟩
  refine wpAny_call (codeAny_mono (F.run X.A X.stack s1 H1 ⟨us, []⟩ us vs Q (E σ) pr hr hgd hot hpin I1.env0 hbt r q) fun r s' hq => ?_)
  cases r with
  | error e => exact hx σ pins H1 s1 e s' I1 hq
  | ok fl =>
    cases fl with
    | ret u => exact I1.after hq
    | next => exact False.elim hq
    | brk => exact False.elim hq
    | cont => exact False.elim hq
/-- what it answers by the exception's class and fields -/
def runX (n : Nat) (g : Nat → List D → Sv) : Nat → List D → Option D := fun c fs => match g c fs (startF n [.tup [.var 0]]) with
  | .ok .nx _ => some .non
  | .ok (.ret d) _ => some d
  | _ => none
def spP (G : SE) (n : Nat) (F : Nat → List D → Option D) : Addr × Obj → Sp := fun p vs H Q _ =>
  ∃ (c : Nat) (fs : List D) (dd : Addr) (Hv : Hp) (d : D), vs = [.ref p.1] ∧ c < n ∧ L2N.Zn (.ref (G.ecls c)) (some dd) p.2 ∧ (∃ us, p.2.data = .fields us) ∧ Sub Hv H ∧ (∀ P ∈ G.tabs, TabH H P ∧ Hv P = none) ∧ dd ∉ G.tabs ∧ ExcAt G H Hv c fs dd ∧ F c fs = some d ∧
    ∀ v H' Hv', FinC G [false] [] [.ref p.1] H Hv H' Hv' → Rep G Hv' d v → Q v H'
section
variable {G : SE} {M : List Nat} {n : Nat} {g : Nat → List D → Sv} {x qual : Str} {st : Stmt} {f : Addr} {fd : FuncData} {N : List Str} {y : Str} {k : Nat}
theorem fnp_of (F : Fun G.K x qual st f fd) (S : FnScope N [y] (defScope st)) (hM : 0 ∈ M)
    (hbody : ∀ (cdv : Value) (A : Around) (outer : List Env) (s : Shared) (H : Hp) (E : XK) (Hv : Hp) (c : Nat) (fs : List D) (a dd : Addr) (oe : Obj), A.guards = some [] → RoomH k (A.deeper (PyProof.Rows.envOfC qual (defScope st) s.heap.objs.size f cdv)) →
      HotX (cxH (L2N.CX G.P G.w) G.P G.w G.K G.mg G.base N qual (defScope st) f cdv A outer s H E (a, oe)) ⟨G, M, [], H, Hv, some (0, a)⟩ n c fs a dd oe →
      DSs (cxH (L2N.CX G.P G.w) G.P G.w G.K G.mg G.base N qual (defScope st) f cdv A outer s H E (a, oe)) ⟨G, M, [], H, Hv, some (0, a)⟩ (fun _ _ _ _ => False) false (defBody st) (g c fs)) :
    FnP G.P G.w G.K G.mg G.base (L2N.CX G.P G.w) (k + 1) f fd [y] (spP G n (runX N.length g)) := by
  have hNl : 1 ≤ N.length := by
    have := congrArg List.length S.pre
    rw [List.length_take] at this
    have e : ([y] : List Str).length = 1 := rfl
    omega
  refine fn_ofP F S (fun p vs H Q E h => ?_) (fun cdv A outer s H vs Q E p hgd hot hr h => ?_)
  · obtain ⟨c, fs, dd, Hv, d, rfl, _⟩ := h
    rfl
  · obtain ⟨c, fs, dd, Hv, d, rfl, hcn, hz, hf, hsub, htab, hnt, hex, hF, h⟩ := h
    obtain ⟨a, oe⟩ := p
    have hx : HotX (cxH (L2N.CX G.P G.w) G.P G.w G.K G.mg G.base N qual (defScope st) f cdv A outer s H E (a, oe)) ⟨G, M, [], H, Hv, some (0, a)⟩ n c fs a dd oe :=
      ⟨List.mem_singleton.mpr rfl, hz, hf, hcn, hex, fun p hp => absurd hp List.not_mem_nil, hnt, hot.1, hot.2⟩
    have hlen : (startF N.length [D.tup [D.var 0]]).length = N.length := by
      unfold startF
      simp only [List.length_append, List.length_map, List.length_replicate, List.length_cons, List.length_nil]
      omega
    have get : ∀ {i : Nat} {e : D}, (startF N.length [D.tup [D.var 0]])[i]? = some (some e) → i = 0 ∧ e = .tup [.var 0] := fun {i e} q => by
      have q' := (startF_get (ds := [D.tup [D.var 0]]) (n := N.length) (by exact hNl)).mp q
      cases i with
      | zero => cases q'; exact ⟨rfl, rfl⟩
      | succ i => cases q'
    have s0 : (L2.start N [V.ref a])[0]? = some (some (V.ref a)) := (start_get (by exact hNl)).mpr rfl
    have R : Rel ⟨G, M, [], H, Hv, some (0, a)⟩ (startF N.length [D.tup [D.var 0]]) (L2.start N [V.ref a]) H Hv := by
      refine ⟨hsub, .refl _, fun b o h => .inl h, fun b o h _ _ => h, ?_, fun i d e hm => ?_, fun i d e hc hm => ?_, fun i d e hm => ?_, fun i j a di dj hi hj hij e1 e2 s1 s2 => ?_, fun p hp => absurd hp List.not_mem_nil, htab⟩
      · rw [hlen]
        unfold L2.start
        simp only [List.length_append, List.length_map, List.length_replicate, List.length_cons, List.length_nil]
        omega
      · obtain ⟨rfl, rfl⟩ := get e
        exact absurd hM hm
      · obtain ⟨rfl, rfl⟩ := get e
        exact ⟨_, _, rfl, s0, .inr ⟨rfl, a, rfl, rfl⟩⟩
      · obtain ⟨rfl, rfl⟩ := get e.1
        cases e.2
      · obtain ⟨rfl, rfl⟩ := get e1.1
        cases e1.2
    refine ⟨_, hbody cdv A outer s H E Hv c fs a dd oe hgd hr hx, startF N.length [D.tup [D.var 0]], Hv, R, ?_⟩
    have finC : ∀ {fr' : Fr} {H' Hv' : Hp}, FinB ⟨G, M, [], H, Hv, some (0, a)⟩ fr' H' Hv' → FinC G [false] [] [.ref a] H Hv H' Hv' := fun F => ⟨F.sub, F.ext0, F.new, fun b o h _ nt => F.keep b o h (fun p hp => absurd hp List.not_mem_nil) nt, F.tab, fun i b h1 h2 => by
      cases i with
      | zero => cases h1
      | succ i => cases h1⟩
    unfold runX at hF
    cases hg : g c fs (startF N.length [D.tup [D.var 0]]) with
    | bad => rw [hg] at hF; cases hF
    | exc c' fs' fr => rw [hg] at hF; cases hF
    | ok fl fr =>
      rw [hg] at hF
      cases fl with
      | nx =>
        cases hF
        exact fun σ' H' Hv' R _ => h .non H' Hv' (finC R.fin) repN
      | brk => cases hF
      | cnt => cases hF
      | ret d' =>
        cases hF
        exact fun v H' Hv' f' ret => h v H' Hv' (finC f') ret
end
/-- the call f(e), e the handled exception -/
def eCallX (i : Nat) (o : Option D) : Ev := fun fr => if exIn i fr = true then (match o with
  | some d => if pers d = true then .ok d fr else .bad
  | none => .bad) else .bad
theorem d_callX {X : Cx} {B : Bd} {W : WX} {n c : Nat} {fs : List D} {a dd : Addr} {oe : Obj} {i k : Nat} {f : Addr} {fd : FuncData} {y : Str} {F : Nat → List D → Option D} {x z : Str} {p q pos : Pos} (h : HotX X B n c fs a dd oe) (hex : B.ex = some (i, a)) (hi : i ∈ B.M)
    (Fk : FnP X.prog X.w X.K X.mg X.base (L2N.CX X.prog X.w) k f fd [y] (spP B.G n F)) (hr : RoomH k X.A) (hgd : X.A.guards = some []) (hm : X.mg z = some (.ref f)) (hk : PySem.W.keepIn X.K (.ref f) = true) (hb : Binds X.K fd [y] [])
    (hN : X.N[i]? = some x := by rfl) (hv : Vis X.env.scope x := by first | exact Or.inl rfl | exact Or.inr (Or.inl rfl) | exact Or.inr (Or.inr rfl)) (hd : (x == ("__debug__" : Str)) = false := by decide)
    (hcd : (x == ("__classdict__" : Str)) = false := by decide) (hg : Gl X z := by rfl) (hdb : (z == ("__debug__" : Str)) = false := by decide) (he : starEach [.Name x p] X.env = (false, eval (.Name x p) X.env) :: starEach [] X.env := by rfl) (hpl : (backTo pos (starEach [] X.env)).any (·.1) = false := by rfl) :
    DE X B W (.Call (.Name z q) [.Name x p] [] pos) (eCallX i (F c fs)) := by
  refine pe_imp (pe_callP (E := fun _ _ _ _ => False) h.pin h.hot Fk hr hgd hg hm hk hb (fun σ pins H s e s' I z => by
    obtain ⟨_, _, _, _, _, _, _, _, _, _, _, _, z⟩ := z
    exact z.elim) (pa_cons (pe_var hN hv hd hcd) pa_nil he) hdb he hpl) fun σ H Q hh => ?_
  obtain ⟨fr, Hv, R, hh⟩ := hh
  unfold eCallX at hh
  split at hh
  · next ci =>
    split at hh
    · next d hd' =>
      split at hh
      · next hp =>
        have ex := h.now R
        refine ⟨_, exIn_at R hi hex ci, c, fs, dd, Hv, d, rfl, h.cn, h.z, h.dat, R.sub, R.tab, h.notab, ex, hd', fun v H' Hv' fin r => ?_⟩
        have nx : Nxt B fr σ H Hv fr H' Hv' := nxt_call (ms := [false]) (ds := [.int 0]) (vs := [.int 0]) (cs := [.int 0]) (outs := [.int 0]) R ⟨_, _, rfl, .of (Rep.int_iff.mpr rfl), rfl⟩ rfl (by decide) rfl
          ⟨fin.sub, fin.ext, fin.new, fun b o h1 h2 h3 => fin.keep b o h1 (fun ⟨j, h4, h5⟩ => by cases j with | zero => cases h4 | succ j => cases h4) h3, fin.tab, fun j b h4 _ => by cases j with | zero => cases h4 | succ j => cases h4⟩
        exact hh v H' Hv' nx (.of r)
      · exact hh.elim
    · exact hh.elim
  · exact hh.elim
theorem law_callG {P : Program} {w : World} {K : PySem.W.Frag} {mg mb : Str → Option Value} {CX : CXT} {k : Nat} {fa a : Addr} {fd : FuncData} {x : Str} {sp : Sp} {s₁ : Shared} {vs : List Value} {ns : List Int}
    (KX : K.In s₁.heap) (hns : s₁.heap.Ns mainGlobals mg) (hb : s₁.heap.Ns builtinsNs mb) (hbb : ∀ x : Str, x ≠ "__name__" → mb x = bootBuiltins x) (hlim : s₁.heap.NoLimit) (hg : s₁.gens = #[])
    (ha : s₁.heap.get? a = some { cls := .type "list", data := .seq vs.toArray }) (hi : IntsAre vs ns) (hl : ns.length ≤ sizeLine) (hr : Room k callerA)
    (F : ∀ base : Heap, K.In base → base.Ns mainGlobals mg → FnG P w K mg base CX k fa fd [x] sp) (hbind : ∀ (s : Shared) (u : Value), BindsTo s fd ⟨[u], []⟩ [(x, u)])
    (hsp : ∀ H : Hp, Only H → SqL K H a (ns.map V.int) → sp [.ref a] H (fun v _ => v = .bl true) fun _ _ _ => False)
    (hCX : ∀ H e s', CX [] H s₁ (fun _ _ _ => False) e s' → False) :
    codeAny (model P w) callerA (.call (.ref fa) ⟨[.ref a], []⟩) (fun r s' => r = .ok (.ret (.bool true)) ∧ OldK s₁.heap s'.heap ∧ s'.os = s₁.os ∧ AllBare s'.gens) s₁ := by
  have rv := vals_ints hi
  have lenV := hi.length
  -- from an abstract heap in which nothing but the script may be tracked
  have core : ∀ H : Hp, Only H → SqL K H a (ns.map V.int) → HOk P w H s₁.heap → (∀ b, H b ≠ none → b = a) → (H a ≠ none → K.lookup a = none) →
      codeAny (model P w) callerA (.call (.ref fa) ⟨[.ref a], []⟩) (fun r s' => r = .ok (.ret (.bool true)) ∧ OldK s₁.heap s'.heap ∧ s'.os = s₁.os ∧ AllBare s'.gens) s₁ := by
    intro H hO hS hok hA hK
    have base_of : ∀ {b : Addr} {o : Obj}, s₁.heap.get? b = some o → H b = none → (hidT s₁.heap H).get? b = some o := fun e n => hidT_get e n
    have noA : ∀ {b : Addr} {o : Obj} {es : Array DictEntry} {ep : Nat}, s₁.heap.get? b = some o → o.data = .dict es ep → H b = none := fun {b o es ep} e d => by
      cases q : H b with
      | none => rfl
      | some u =>
        have e' : b = a := hA b (by rw [q]; simp)
        subst e'
        rw [ha] at e; cases e
        have d' : Data.seq vs.toArray _ = Data.dict es ep := d
        cases d'
    have nsK : ∀ {b : Addr} {m : Str → Option Value}, s₁.heap.Ns b m → (hidT s₁.heap H).Ns b m := fun {b m} ⟨o, es, ep, e, d, r⟩ => ⟨o, es, ep, base_of e (noA e d), d, r⟩
    have hKb : K.In (hidT s₁.heap H) := fun b o e => base_of (KX b o e) (by
      cases q : H b with
      | none => rfl
      | some u =>
        have e' : b = a := hA b (by rw [q]; simp)
        subst e'
        rw [hK (by rw [q]; simp)] at e; cases e)
    have hM : Mod K mg (hidT s₁.heap H) := ⟨hKb, nsK hns, ⟨mb, nsK hb, hbb⟩, let ⟨mc, h1, h2⟩ := hlim; ⟨mc, nsK h1, h2⟩⟩
    have e0 : Env0 P w K mg (hidT s₁.heap H) callerA [] s₁ H := ⟨rfl, hM, fun b o e => of_hidT e, Nat.le_of_eq (hidT_size _ _), trivial, fun b hb => absurd (show b ∈ ([] : List Addr) from hb) (by simp), hok, .of_eq hg⟩
    refine codeAny_mono ((F _ hKb (nsK hns)).run callerA [] s₁ H ⟨[.ref a], []⟩ [.ref a] [.ref a] _ _ hr rfl e0 (hbind s₁ (.ref a)) (.cons rfl .nil) (hsp H hO hS)) fun r s' h => ?_
    cases r with
    | error e => exact (hCX H e s' h).elim
    | ok fl =>
      cases fl with
      | next => exact False.elim h
      | brk => exact False.elim h
      | cont => exact False.elim h
      | ret u =>
        obtain ⟨v, H', os, bare, un, hok', r', q⟩ := h
        have q' : v = .bl true := q
        subst q'
        obtain rfl : u = Value.bool true := r'
        refine ⟨rfl, OldK.of_keep fun b o e => ?_, os, bare⟩
        cases q : H b with
        | none => exact un.keep b o e q (by intro z; exact absurd (show b ∈ ([] : List Addr) from z) (by simp)) (by simp)
        | some u =>
          rcases hO b with z | ⟨ob, xs, z⟩
          · rw [q] at z; cases z
          · have z2 := un.frzs b ob _ z
            obtain ⟨e1, _⟩ := hok b _ z
            obtain ⟨e2, _⟩ := hok' b _ z2
            rw [e] at e1; cases e1
            exact e2
  cases hk : K.lookup a with
  | some o =>
    -- the script is one of the module's own objects
    have e := KX a o hk
    rw [ha] at e
    cases e
    refine core (fun _ => none) (fun _ => .inl rfl) (.inr ⟨_, vs.toArray, _, hk, rfl, rfl, rfl, by rw [List.size_toArray, lenV]; exact hl, by simpa using rv⟩) (fun b u z => by have z' : (none : Option HO) = some u := z; cases z') (fun b z => absurd rfl z) fun z => absurd rfl z
  | none =>
    refine core (fun b => if b = a then some (.frz { cls := .type "list", data := .seq vs.toArray } (.lst (ns.map V.int))) else none) (fun b => ?_) (.inl (.inr ⟨{ cls := .type "list", data := .seq vs.toArray }, if_pos rfl⟩)) (fun b u z => ?_) (fun b z => ?_) fun _ => hk
    · by_cases hb : b = a
      · exact .inr ⟨_, _, if_pos hb⟩
      · exact .inl (if_neg hb)
    · by_cases hb : b = a
      · have z' := (if_pos hb).symm.trans z
        cases z'
        subst hb
        exact ⟨ha, by rw [List.length_map]; exact hl, vs, _, rv, ha⟩
      · have z' := (if_neg hb).symm.trans z
        cases z'
    · by_cases hb : b = a
      · exact hb
      · exact absurd (if_neg hb) z
theorem walk_ofG {l : PySem.W.OpenLaw} {n k : Nat} {q : Program} {loose : List Str} {XP : (Str → Option Value) → Heap → Prop} {YP : World → Heap → Prop} {d : DefRec} {K : Params → PySem.W.Frag} {CX : World → CXT} {sp : World → Sp} {x : Str}
    (hn : l.most = some n) (hn2 : n ≤ sizeLine) (hdf : d.params.defaults = []) (hr : Room k callerA)
    (hY : ∀ (w : World) (h : Heap), YP w h → (K w.params).In h)
    (F : ∀ (w : World) (mg : Str → Option Value) (fa : Addr) (h : Heap), (K w.params).In h → h.Ns mainGlobals mg → mg d.name = some (.ref fa) →
      ∃ fd : FuncData, (∀ (s : Shared) (u : Value), BindsTo s fd ⟨[u], []⟩ [(x, u)]) ∧
        ∀ base : Heap, (K w.params).In base → base.Ns mainGlobals mg → FnG l.prog w (K w.params) mg base (CX w) k fa fd [x] (sp w))
    (hsp : ∀ (w : World) (H : Hp) (a : Addr) (ns : List Int), ns.length ≤ n → (∀ z ∈ ns, Builtin.Int.intBits z ≤ 1048576) → Only H → SqL (K w.params) H a (ns.map V.int) → sp w [.ref a] H (fun v _ => v = .bl true) fun _ _ _ => False)
    (hCX : ∀ (w : World) (H : Hp) (s : Shared) (e : Value) (s' : Shared), CX w [] H s (fun _ _ _ => False) e s' → False) :
    PySem.W.WalkO q loose XP YP l.row.toRowW d [] (fun f vs => PySem.call f vs) := by
  refine Att.attach_callB hn hdf fun w s₀ s₁ mg mb fa o pm cd doc a vs ns G Y ho hd hcd hmg hobj hints hlen hbits hg => ?_
  have KX := hY w _ Y
  obtain ⟨fd, hb, hF⟩ := F w mg fa _ KX G.T.g hmg
  exact law_callG KX G.T.g G.T.b G.T.builtins G.T.nolimit hg hobj hints (Nat.le_trans hlen hn2) hr hF hb (fun H hO hS => hsp w H a ns hlen hbits hO hS) fun H e s' => hCX w H s₁ e s'
end KS
namespace KS
open PySem PySem.Spec PyProof.Rows L2
mutual
def toP : D → Option PyData
  | .non => some .none
  | .bl b => some (.bool b)
  | .int i => some (.int i)
  | .str x => some (.str x)
  | .tup ds => (toPL ds).map PyData.tuple
  | .lst ds => (toPL ds).map PyData.list
  | _ => none
def toPL : List D → Option (List PyData)
  | [] => some []
  | d :: ds => (toP d).bind fun p => (toPL ds).map (p :: ·)
end
/-- the text of some data -/
def reprD (d : D) : Option Str := (toP d).bind fun p => if (p.showable = true ∧ p.depth ≤ 100) ∧ p.shown.length ≤ sizeLine then some p.shown else none
def reprF (d : D) : Option D := (reprD d).map D.str
mutual
theorem toP_nodict : ∀ (d : D) (p : PyData), toP d = some p → p.hasDict = false
  | .non, p, h => by cases h; rfl
  | .bl b, p, h => by cases h; rfl
  | .int i, p, h => by cases h; rfl
  | .str x, p, h => by cases h; rfl
  | .tup ds, p, h => by
    unfold toP at h
    cases e : toPL ds with
    | none => rw [e] at h; cases h
    | some ps => rw [e] at h; cases h; exact toPL_nodict ds ps e
  | .lst ds, p, h => by
    unfold toP at h
    cases e : toPL ds with
    | none => rw [e] at h; cases h
    | some ps => rw [e] at h; cases h; exact toPL_nodict ds ps e
  | .scr ns, p, h => by cases h
  | .obj c ns fs, p, h => by cases h
  | .dct ks ds, p, h => by cases h
  | .var i, p, h => by cases h
theorem toPL_nodict : ∀ (ds : List D) (ps : List PyData), toPL ds = some ps → PyData.hasDictAll ps = false
  | [], ps, h => by cases h; rfl
  | d :: ds, ps, h => by
    unfold toPL at h
    cases e : toP d with
    | none => rw [e] at h; cases h
    | some p =>
      rw [e] at h
      cases e2 : toPL ds with
      | none => rw [e2] at h; cases h
      | some qs =>
        rw [e2] at h
        cases h
        show (p.hasDict || PyData.hasDictAll qs) = false
        rw [toP_nodict d p e, toPL_nodict ds qs e2]
        rfl
end
section
variable {X : Cx} {G : SE} {pins : List (Addr × Obj)} {σ : L2.St} {H Hv : Hp} {s : Shared}
mutual
theorem reads_of (I : Inv X pins σ H s) (sub : Sub Hv H) : ∀ (d : D) (v : V) (u : Value) (p : PyData), Rep G Hv d v → RelV v u → toP d = some p → ∃ as, Reads s.heap u p as
  | .non, v, u, p, r, ru, h => by
    cases h
    obtain rfl : v = .non := Rep.non_iff.mp r
    obtain rfl : u = .none := ru
    exact ⟨_, .none⟩
  | .bl b, v, u, p, r, ru, h => by
    cases h
    obtain rfl : v = .bl b := Rep.bl_iff.mp r
    obtain rfl : u = .bool b := ru
    exact ⟨_, .bool b⟩
  | .int i, v, u, p, r, ru, h => by
    cases h
    obtain rfl : v = .int i := Rep.int_iff.mp r
    obtain ⟨t, rfl⟩ := ru
    exact ⟨_, .int i t⟩
  | .str x, v, u, p, r, ru, h => by
    cases h
    obtain rfl : v = .str x := Rep.str_iff.mp r
    obtain ⟨t, rfl⟩ := ru
    exact ⟨_, .str x t⟩
  | .tup ds, v, u, p, r, ru, h => by
    unfold toP at h
    cases e : toPL ds with
    | none => rw [e] at h; cases h
    | some ps =>
      rw [e] at h
      cases h
      unfold Rep at r
      obtain ⟨a, vs, rfl, ha, hr⟩ := r
      obtain rfl : u = Value.ref a := ru
      obtain ⟨_, its, rv, o, h1, h2, n, h3⟩ := (show ObjOk X.prog X.w H s.heap a (.tup vs) from I.hok a _ (sub a _ ha))
      obtain ⟨as, q⟩ := readsL_of I sub ds vs its ps hr rv e
      exact ⟨as, .tuple h1 h2 h3 (by simpa using q)⟩
  | .lst ds, v, u, p, r, ru, h => by
    unfold toP at h
    cases e : toPL ds with
    | none => rw [e] at h; cases h
    | some ps =>
      rw [e] at h
      cases h
      unfold Rep at r
      obtain ⟨a, vs, rfl, ha, hr⟩ := r
      obtain rfl : u = Value.ref a := ru
      obtain ⟨_, its, n, rv, h1⟩ := (show ObjOk X.prog X.w H s.heap a (.lst vs) from I.hok a _ (sub a _ ha))
      obtain ⟨as, q⟩ := readsL_of I sub ds vs its ps hr rv e
      exact ⟨_, .list h1 rfl rfl (by simpa using q)⟩
  | .scr ns, v, u, p, r, ru, h => by cases h
  | .obj c ns fs, v, u, p, r, ru, h => by cases h
  | .dct ks ds, v, u, p, r, ru, h => by cases h
  | .var i, v, u, p, r, ru, h => by cases h
theorem readsL_of (I : Inv X pins σ H s) (sub : Sub Hv H) : ∀ (ds : List D) (vs : List V) (us : List Value) (ps : List PyData), RepL G Hv ds vs → Vals vs us → toPL ds = some ps → ∃ as, ReadsAll s.heap us ps as
  | [], vs, us, ps, r, ru, h => by
    cases h
    unfold RepL at r
    subst r
    cases ru
    exact ⟨_, .nil⟩
  | d :: ds, vs, us, ps, r, ru, h => by
    unfold RepL at r
    obtain ⟨v, vr, rfl, r1, r2⟩ := r
    cases ru with
    | cons ru1 ru2 =>
      unfold toPL at h
      cases e : toP d with
      | none => rw [e] at h; cases h
      | some p =>
        rw [e] at h
        cases e2 : toPL ds with
        | none => rw [e2] at h; cases h
        | some qs =>
          rw [e2] at h
          cases h
          obtain ⟨as, q⟩ := reads_of I sub d v _ p r1 ru1 e
          obtain ⟨bs, q2⟩ := readsL_of I sub ds vr _ qs r2 ru2 e2
          exact ⟨_, .cons q q2⟩
end
end
/-- data at a value: frozen, or a list that a slot owns -/
def RepT (G : SE) (Hv H : Hp) (d : D) (v : V) : Prop := Rep G Hv d v ∨ ∃ a ds vs, v = .ref a ∧ d = .lst ds ∧ H a = some (.lst vs) ∧ RepL G Hv ds vs
def rRepr (G : SE) : List V → Hp → VK → Prop := fun xs H Q => ∃ (v : V) (Hv : Hp) (d : D) (x : Str), xs = [v] ∧ Sub Hv H ∧ RepT G Hv H d v ∧ reprD d = some x ∧ Q (.str x) H
theorem call_repr {X : Cx} {G : SE} (hgd : X.A.guards = some []) (hu : X.A.units + 101 < cLine) : CallR X (.builtin "repr") (rRepr G) := by
  intro pins s σ H xs us Q I r h
  obtain ⟨v, Hv, d, x, rfl, sub, rt, hx, q⟩ := h
  obtain ⟨u, rfl, ru⟩ := vals1 r
  unfold reprD at hx
  cases hp : toP d with
  | none => rw [hp] at hx; cases hx
  | some p =>
    rw [hp] at hx
    dsimp only [Option.bind] at hx
    split at hx
    · next c =>
      cases hx
      obtain ⟨⟨c1, c2⟩, c3⟩ := c
      have key : ∃ as, Reads s.heap u p as := by
        rcases rt with rt | ⟨a, ds, vs, rfl, rfl, ha, hr⟩
        · exact reads_of I sub d v u p rt ru hp
        · unfold toP at hp
          cases e : toPL ds with
          | none => rw [e] at hp; cases hp
          | some ps =>
            rw [e] at hp
            cases hp
            obtain rfl : u = Value.ref a := ru
            obtain ⟨_, its, n, rv, h1⟩ := (show ObjOk X.prog X.w H s.heap a (.lst vs) from I.hok a _ ha)
            obtain ⟨as, q⟩ := readsL_of I sub ds vs its ps hr rv e
            exact ⟨_, .list h1 rfl rfl (by simpa using q)⟩
      obtain ⟨as, rd⟩ := key
      have hnd := toP_nodict d p hp
      have fin : ∀ (tk : Nat) (t : Tok), EP X pins σ Q (.str p.shown t) { s with toks := tk } := fun tk t => ⟨.str p.shown, H, I.tok tk, ⟨t, rfl⟩, q⟩
      cases rd with
      | none => exact PySem.P.repr_of_none (fin _ _)
      | bool b =>
        refine PySem.P.repr_of_bool ?_
        have := fin (s.toks + 1) s.toks
        simp only [PyData.shown] at this
        exact this
      | int i t =>
        refine PySem.P.repr_of_int (by simpa [PyData.showable] using c1) ?_
        have := fin (s.toks + 1) s.toks
        simp only [PyData.shown] at this
        exact this
      | str y t =>
        refine PySem.P.repr_of_str ?_ (by simpa only [PyData.shown] using c3)
        have := fin (s.toks + 1) s.toks
        simp only [PyData.shown] at this
        exact this
      | list h1 h2 h3 h4 =>
        exact repr_of_reads' (.list h1 h2 h3 h4) c1 (PyData.noDict_hsm hnd) hgd (by omega) (fun _ _ e => e) (fun h' t tk k => ⟨.str _, H, I.kept (t' := tk) k, ⟨t, rfl⟩, q⟩) c3
      | tuple h1 h2 h3 h4 =>
        exact repr_of_reads' (.tuple h1 h2 h3 h4) c1 (PyData.noDict_hsm hnd) hgd (by omega) (fun _ _ e => e) (fun h' t tk k => ⟨.str _, H, I.kept (t' := tk) k, ⟨t, rfl⟩, q⟩) c3
      | dict h1 h2 h3 h4 h5 => cases hnd
    · cases hx
section
variable {X : Cx} {B : Bd} {W : WX} {a : Expr} {f : Ev} {p pos : Pos}
theorem d_repr (hgd : X.A.guards = some []) (hu : X.A.units + 101 < cLine) (ha : DE X B W a f) (hm : X.mg "repr" = none) (hg : Gl X "repr" := by rfl) (hv : bootBuiltins "repr" = some (.builtin "repr") := by decide +kernel) (hn : (("repr" : String) : Str) ≠ "__name__" := by decide) (hdb : ((("repr" : String) : Str) == ("__debug__" : Str)) = false := by decide)
    (he : starEach [a] X.env = (false, eval a X.env) :: starEach [] X.env := by rfl) (hpl : (backTo pos (starEach [] X.env)).any (·.1) = false := by rfl) :
    DE X B W (.Call (.Name "repr" p) [a] [] pos) (eOp1 reprF f) := by
  refine pe_imp (pe_callB (call_repr (G := B.G) hgd hu) hg hm hv (pa_cons ha pa_nil he) hn hdb he hpl) fun σ H Q h => ?_
  have e := ent1 (r := fun x1 H1 Q => rRepr B.G [x1] H1 Q) ?_ h
  · exact e
  · intro fr σ H Hv y dy b z Q R ry hy hz k
    unfold reprF at hz
    simp only [Option.map_eq_some_iff] at hz
    obtain ⟨x, hx, rfl⟩ := hz
    refine ⟨y, Hv, b, x, rfl, R.sub, ?_, hx, k (.str x) H Hv (.refl R) (Rep.str_iff.mpr rfl)⟩
    cases dy with
    | var i =>
      obtain ⟨hm, hs⟩ := ry
      have hl := look_var hy
      obtain ⟨c, hs', _, _, hc⟩ := R.own i _ hl hm
      rw [hs] at hs'
      cases hs'
      cases b <;> first | exact hc.elim | skip
      · obtain ⟨vs, h1, h2⟩ := hc
        exact .inr ⟨_, _, vs, rfl, rfl, h1, h2⟩
      · exact absurd hx (by unfold reprD toP; simp)
      · exact absurd hx (by unfold reprD toP; simp)
    | _ =>
      cases hy
      exact .inl ry
theorem u101 {k : Nat} {A : Around} (r : Room k A) : A.units + 101 < cLine := by have := r.un; omega
theorem u101H {k : Nat} {A : Around} (r : L2H.RoomH k A) : A.units + 101 < cLine := by have := r.un; omega
theorem u64H {k : Nat} {A : Around} (r : L2H.RoomH k A) : A.units + 64 < cLine := by have := r.un; omega
end
end KS
namespace KS
open PySem PySem.Spec PyProof.Rows L2
end KS
namespace KS
open PySem PySem.Spec PyProof.Rows L2
section
variable {X : Cx} {B : Bd} {W : WX} {a b : Expr} {f g : Ev} {pos : Pos}
theorem roomS {k : Nat} {A : Around} {v : Value} (r : Room k A) : L2H.RoomH k (A.mark (some v)) := ⟨r.dp, r.un⟩
theorem roomM {j k : Nat} {A : Around} (r : L2H.RoomH k A) (h : j ≤ k) : L2H.RoomH j A := r.mono h
end
end KS
namespace KS
open PySem PySem.Spec L2
def compL2 (vs : List Nat) (t : Tv) (c : Bv) (h1 : Iv) (vs1 : List Nat) (t1 : Tv) (c1 : Bv) (e : Ev) : List D → Fr → Res Fr (List D)
  | [], fr => .ok [] fr
  | d :: ds, fr => match t d (wipeF fr vs) with
    | none => .bad
    | some fr1 => (c fr1).bind fun b fr2 => if b = true then ((h1 fr2).bind fun ds1 fr3 => (compL vs1 t1 c1 e ds1 fr3).bind fun r fr4 => (compL2 vs t c h1 vs1 t1 c1 e ds fr4).bind fun r2 fr5 => .ok (r ++ r2) fr5) else compL2 vs t c h1 vs1 t1 c1 e ds fr2
def eComp2 (vs : List Nat) (h : Iv) (t : Tv) (c : Bv) (h1 : Iv) (vs1 : List Nat) (t1 : Tv) (c1 : Bv) (e : Ev) : Ev := fun fr => (h fr).bind fun ds fr1 => match compL2 vs t c h1 vs1 t1 c1 e ds fr1 with
  | .ok r fr2 => if r.length ≤ sizeLine then .ok (.lst r) (restF fr1 fr2 vs) else .bad
  | _ => .bad
theorem wipe_wipe {σ : L2.St} {vs vs1 : List Nat} (h : ∀ i ∈ vs1, i ∈ vs) : wipe (wipe σ vs1) vs = wipe σ vs := by
  refine List.ext_getElem? fun j => ?_
  by_cases hv : j ∈ vs
  · by_cases hj : j < σ.length
    · rw [wipe_none hv (by rw [wipe_length]; exact hj), wipe_none hv hj]
    · rw [List.getElem?_eq_none (by rw [wipe_length, wipe_length]; omega), List.getElem?_eq_none (by rw [wipe_length]; omega)]
  · rw [wipe_out hv, wipe_out (fun z => hv (h j z)), wipe_out hv]
theorem wipeF_none {fr : Fr} {j : Nat} : ∀ {vs : List Nat}, j ∈ vs → j < fr.length → (wipeF fr vs)[j]? = some none
  | [], h, _ => by simp at h
  | v :: vs, h, hl => by
    rw [wipeF]
    by_cases e : j = v
    · subst e
      rw [List.getElem?_set_self (by rw [wipeF_length]; exact hl)]
    · rw [List.getElem?_set_ne (Ne.symm e)]
      exact wipeF_none ((List.mem_cons.mp h).resolve_left e) hl
theorem wipeF_wipeF {fr : Fr} {vs vs1 : List Nat} (h : ∀ i ∈ vs1, i ∈ vs) : wipeF (wipeF fr vs1) vs = wipeF fr vs := by
  refine List.ext_getElem? fun j => ?_
  by_cases hv : j ∈ vs
  · by_cases hj : j < fr.length
    · rw [wipeF_none hv (by rw [wipeF_length]; exact hj), wipeF_none hv hj]
    · rw [List.getElem?_eq_none (by rw [wipeF_length, wipeF_length]; omega), List.getElem?_eq_none (by rw [wipeF_length]; omega)]
  · rw [wipeF_out hv, wipeF_out (fun z => hv (h j z)), wipeF_out hv]
/-- what stays true through all turns, told from the start of the comprehension -/
structure Com (B : Bd) (σ : L2.St) (fr1 : Fr) (H1 Hv1 : Hp) (D0 : Addr) (fr' : Fr) (H Hv' : Hp) (acc : List V) (ad : List D) : Prop where
  sub : Sub Hv1 Hv'
  at_ : H D0 = some (.lst acc)
  rep : RepL B.G Hv' ad acc
  hv : Hv' D0 = none
  no : ∀ j d, j ∈ B.M → (fr'[j]? = some (some d) ∧ isCell d = true) → σ[j]? ≠ some (some (.ref D0))
  keep : ∀ b o, H1 b = some o → ¬ Own B fr1 σ b → b ∉ B.G.tabs → H b = some o
  shr : Shr B fr1 fr'
  alive : ∀ b o, H1 b = some o → ∃ o', H b = some o'
  newv : ∀ b o, Hv' b = some o → Hv1 b = some o ∨ NewOk H1 b o ∨ Own B fr1 σ b
section
variable {B : Bd} {σ σ2 : L2.St} {fr1 fr' fr2 frx : Fr} {H1 Hv1 H Hv' H' Hv2 Hx Hvx : Hp} {D0 : Addr} {acc : List V} {ad : List D}
/-- an item is yielded (a tuple may be new) -/
theorem Com.yld (C : Com B σ fr1 H1 Hv1 D0 fr' H Hv' acc ad) (R : Rel B frx σ2 H Hv') {d : D} {x : V} (hr : (H' = H ∧ Rep B.G Hv' d x) ∨ (∃ T es us, d = .tup es ∧ x = .ref T ∧ H T = none ∧ H' = upd H T (.tup us) ∧ RepL B.G Hv' es us)) :
    ∃ Hv2, Sub Hv' Hv2 ∧ Rel B frx σ2 H' Hv2 ∧ Rep B.G Hv2 d x ∧ Com B σ fr1 H1 Hv1 D0 fr' H' Hv2 acc ad := by
  rcases hr with ⟨e, r⟩ | ⟨T, es, us, rfl, rfl, hT, rfl, r⟩
  · rw [e]; exact ⟨Hv', .refl _, R, r, C⟩
  · have sT : Sub Hv' (upd Hv' T (.tup us)) := (Sub.refl Hv').put (R.hv_none hT)
    have neT : D0 ≠ T := ne_of_none C.at_ hT
    refine ⟨_, sT, R.layV hT (fun ps z => by cases z), Rep.tup upd_same (RepL.mono sT _ _ r), C.sub.trans sT, by rw [upd_ne neT]; exact C.at_, RepL.mono sT _ _ C.rep, by rw [upd_ne neT]; exact C.hv, C.no, fun b o h no nt => ?_, C.shr, fun b o h => ?_, fun b o h => ?_⟩
    · have := C.keep b o h no nt
      rw [upd_ne (ne_of_none this hT)]; exact this
    · obtain ⟨o', h'⟩ := C.alive b o h
      exact ⟨o', by rw [upd_ne (ne_of_none h' hT)]; exact h'⟩
    · by_cases eb : b = T
      · refine .inr (.inl (.inl ?_))
        cases e : H1 b with
        | none => rfl
        | some u =>
          obtain ⟨u', h'⟩ := C.alive b u e
          rw [eb, hT] at h'; cases h'
      · rw [upd_ne eb] at h
        exact C.newv b o h
/-- a step -/
theorem Com.nxt (C : Com B σ fr1 H1 Hv1 D0 fr' H Hv' acc ad) (hDt : D0 ∉ B.G.tabs) (hf : ∀ j, j ∈ B.M → fr2[j]? = fr'[j]?) (hs : ∀ j, j ∈ B.M → σ2[j]? = σ[j]?) (n : Nxt B fr2 σ2 H Hv' frx Hx Hvx) : Com B σ fr1 H1 Hv1 D0 frx Hx Hvx acc ad := by
  have back : ∀ {fry : Fr}, Shr B fr2 fry → ∀ j dd, j ∈ B.M → (fry[j]? = some (some dd) ∧ isCell dd = true) → (∃ d0, fr'[j]? = some (some d0) ∧ isCell d0 = true) ∧ σ2[j]? = σ[j]? := fun {fry} sh j dd hj hfy => by
    obtain ⟨d0, h0, h1⟩ := sh j dd hj hfy
    rw [hf j hj] at h0
    exact ⟨⟨d0, h0, h1⟩, hs j hj⟩
  have noD : ∀ {fry : Fr}, Shr B fr2 fry → ¬ Own B fry σ2 D0 := fun {fry} sh ⟨j, dd, hj, hfy, hsy⟩ => by
    obtain ⟨⟨d0, hd0⟩, e1⟩ := back sh j dd hj hfy
    rw [e1] at hsy
    exact C.no j d0 hj hd0 hsy
  have noB : ∀ {fry : Fr} {b : Addr}, Shr B fr2 fry → ¬ Own B fr1 σ b → ¬ Own B fry σ2 b := fun {fry b} sh no ⟨j, dd, hj, hfy, hsy⟩ => by
    obtain ⟨⟨d0, hd0⟩, e1⟩ := back sh j dd hj hfy
    rw [e1] at hsy
    obtain ⟨d1, hd1⟩ := C.shr j d0 hj hd0
    exact no ⟨j, d1, hj, hd1, hsy⟩
  have atD := n.keep D0 _ C.at_ (noD (.refl _ _)) hDt
  refine ⟨C.sub.trans n.ext, atD, RepL.mono n.ext _ _ C.rep, ?_, fun j dd hj hfy hsy => ?_, fun b o h no nt => n.keep b o (C.keep b o h no nt) (noB (.refl _ _) no) nt, fun j dd hj hfy => ?_, fun b o h => ?_, fun b o h => ?_⟩
  · cases z : Hvx D0 with
    | none => rfl
    | some u =>
      rcases n.newv D0 u z with q | (q | ⟨ws, q⟩) | q
      · rw [C.hv] at q; cases q
      · rw [C.at_] at q; cases q
      · have h1 := n.rel.sub D0 u z
        rw [atD, q] at h1
        cases h1
      · exact absurd q (noD (.refl _ _))
  · obtain ⟨⟨d0, hd0⟩, _⟩ := back n.shp j dd hj hfy
    exact C.no j d0 hj hd0 hsy
  · obtain ⟨⟨d0, hd0⟩, _⟩ := back n.shp j dd hj hfy
    exact C.shr j d0 hj hd0
  · obtain ⟨o', h'⟩ := C.alive b o h
    exact n.alive b o' h'
  · rcases n.newv b o h with q | (q | q) | q
    · exact C.newv b o q
    · refine .inr (.inl (.inl ?_))
      cases e : H1 b with
      | none => rfl
      | some u =>
        obtain ⟨u', h'⟩ := C.alive b u e
        rw [q] at h'; cases h'
    · exact .inr (.inl (.inr q))
    · by_cases ho1 : Own B fr1 σ b
      · exact .inr (.inr ho1)
      · exact absurd q (noB (.refl _ _) ho1)
/-- an item is put behind -/
theorem Com.app (C : Com B σ fr1 H1 Hv1 D0 fr' H Hv' acc ad) (hD : H1 D0 = none) {y : V} {dy : D} (ry : Rep B.G Hv' dy y) : Com B σ fr1 H1 Hv1 D0 fr' (upd H D0 (.lst (acc ++ [y]))) Hv' (acc ++ [y]) (ad ++ [dy]) where
  sub := C.sub
  at_ := upd_same
  rep := C.rep.append (.cons ry .nil)
  hv := C.hv
  no := C.no
  keep := fun b o h no nt => by
    rw [upd_ne (ne_of_none h hD)]
    exact C.keep b o h no nt
  shr := C.shr
  alive := fun b o h => by
    by_cases eb : b = D0
    · exact ⟨_, by rw [eb]; exact upd_same⟩
    · rw [upd_ne eb]
      exact C.alive b o h
  newv := C.newv
theorem lc_itG {J : It} {n : Nat} {G : Hp → Prop} {Y : Nat → Hp → V → Hp → Prop} (w : Walk J n G Y) {g : TG} {tt : TT} {te : TE} {vs : List Nat} {σ : L2.St} {Hs : Hp} {D : Addr} {Qd : Hp → Prop} (Pv : Nat → Hp → Prop) (h0 : Pv 0 Hs) (hG : ∀ i H, i ≤ n → Pv i H → G H)
    (hs : ∀ i x H H', i < n → Pv i H → Y i H x H' → g x (wipe σ vs) H' fun σ2 H2 => wipe σ2 vs = wipe σ vs ∧ tt σ2 H2 fun b H3 =>
      if b = true then te σ2 H3 fun y H4 => ∃ acc, H4 D = some (.lst acc) ∧ acc.length < sizeLine ∧ Pv (i + 1) (upd H4 D (.lst (acc ++ [y]))) else Pv (i + 1) H3) (hd : ∀ H, Pv n H → Qd H) :
    ∃ W : Nat → Nat → Hp → Prop, (∃ m, W 0 m Hs) ∧ ∀ i m H, W i m H →
      (J.stop i H ∧ Qd H) ∨ (J.go i H ∧ ∃ Nx : Hp → Prop, (∀ H', Nx H' → ∃ m', m' < m ∧ W (i + 1) m' H') ∧ ∀ x H', J.yld i H x H' → g x (wipe σ vs) H' fun σ2 H2 => wipe σ2 vs = wipe σ vs ∧ tt σ2 H2 fun b H3 =>
        if b = true then te σ2 H3 fun y H4 => ∃ acc, H4 D = some (.lst acc) ∧ acc.length < sizeLine ∧ Nx (upd H4 D (.lst (acc ++ [y]))) else Nx H3) := by
  refine ⟨fun i m H => m = n - i ∧ i ≤ n ∧ Pv i H, ⟨n, by simp, Nat.zero_le _, h0⟩, ?_⟩
  rintro i m H ⟨rfl, hi, p⟩
  have q := hG i H hi p
  by_cases hlt : i < n
  · refine .inr ⟨w.goes i H hlt q, Pv (i + 1), fun H' p' => ⟨n - (i + 1), by omega, rfl, hlt, p'⟩, fun x H' y => hs i x H H' hlt p (w.yields i H x H' hlt q y)⟩
  · have e : i = n := by omega
    subst e
    exact .inl ⟨w.stops H q, hd H p⟩
end
section
variable {B : Bd} {vs1 is1 : List Nat} {σ σ2 : L2.St} {fr1 : Fr} {H1 Hv1 : Hp} {t1 : Tv} {c1 : Bv} {e : Ev} {D0 : Addr}
/-- the second clause's loop -/
theorem lcI {J : It} {ds : List D} {Qd : Hp → Prop} {r0 rest : List D} {fr3 fr4 : Fr} {Hs Hvs : Hp} {accs : List V} {ads rs : List D} (hM : ∀ v ∈ vs1, v ∉ B.M) (hi : ∀ j ∈ is1, j ∈ vs1) (ok : TgOk t1 is1) (hD : H1 D0 = none) (hD0 : B.H0 D0 = none) (hDt : D0 ∉ B.G.tabs) (hσ : ∀ j, j ∈ B.M → σ2[j]? = σ[j]?)
    (C0 : Com B σ fr1 H1 Hv1 D0 fr3 Hs Hvs accs ads) (R0 : Rel B fr3 σ2 Hs Hvs) (w : DWalk B J ds Hvs) (hc : compL vs1 t1 c1 e ds fr3 = .ok rs fr4) (hr : ads ++ rs ++ rest = r0) (hsz : r0.length ≤ sizeLine)
    (hQ : ∀ H' Hv' acc', Com B σ fr1 H1 Hv1 D0 fr4 H' Hv' acc' (ads ++ rs) → Rel B (wipeF fr4 vs1) (wipe σ2 vs1) H' Hv' → Qd H') :
    ∃ W : Nat → Nat → Hp → Prop, (∃ m, W 0 m Hs) ∧ ∀ i m H, W i m H →
      (J.stop i H ∧ Qd H) ∨ (J.go i H ∧ ∃ Nx : Hp → Prop, (∀ H', Nx H' → ∃ m', m' < m ∧ W (i + 1) m' H') ∧ ∀ x H', J.yld i H x H' → dTG B is1 t1 x (wipe σ2 vs1) H' fun σ3 H2 => wipe σ3 vs1 = wipe σ2 vs1 ∧ dTT B (fun _ _ _ _ => False) c1 σ3 H2 fun b H3 =>
        if b = true then dTE B (fun _ _ _ _ => False) e σ3 H3 fun y H4 => ∃ acc, H4 D0 = some (.lst acc) ∧ acc.length < sizeLine ∧ Nx (upd H4 D0 (.lst (acc ++ [y]))) else Nx H3) := by
  obtain ⟨S, Y, wk, hS, hY⟩ := w.ex
  refine lc_itG wk (fun i H => ∃ fr' Hv' acc ad r, Com B σ fr1 H1 Hv1 D0 fr' H Hv' acc ad ∧ Rel B (wipeF fr' vs1) (wipe σ2 vs1) H Hv' ∧ Sub Hvs Hv' ∧ compL vs1 t1 c1 e (ds.drop i) fr' = .ok r fr4 ∧ ad ++ r = ads ++ rs) ?_ (fun i H _ ⟨fr', Hv', acc, ad, r, C, R, s, _⟩ => hS H Hv' s R.sub) (fun i x H H' hlt p y => ?_) (fun H p => ?_)
  · exact ⟨fr3, Hvs, accs, ads, rs, C0, R0.wipes hM, .refl _, hc, rfl⟩
  · obtain ⟨fr', Hv', acc, ad, r, C, R, s, hcl, har⟩ := p
    obtain ⟨d, hd, hyr⟩ := hY i H Hv' x H' hlt s R.sub y
    have hdrop : ds.drop i = d :: ds.drop (i + 1) := by
      obtain ⟨hl, e⟩ := List.getElem?_eq_some_iff.mp hd
      rw [List.drop_eq_getElem_cons hl, e]
    rw [hdrop] at hcl
    obtain ⟨Hv2, s2, R2, r2, C2⟩ := C.yld R hyr
    unfold compL at hcl
    cases ht : t1 d (wipeF fr' vs1) with
    | none => rw [ht] at hcl; cases hcl
    | some fr2 =>
      rw [ht] at hcl
      dsimp only at hcl
      refine ⟨wipeF fr' vs1, Hv2, d, fr2, R2, r2, ht, fun σ3 R3 hl ho => ?_⟩
      have hw := wipe_eq hl ho hi
      have hf : ∀ j, j ∈ B.M → fr2[j]? = fr'[j]? := fun j hj => by
        have njv : j ∉ vs1 := fun z => hM j z hj
        rw [ok d _ _ ht j (fun z => njv (hi j z)), wipeF_out njv]
      have hs3 : ∀ j, j ∈ B.M → σ3[j]? = σ[j]? := fun j hj => by
        have njv : j ∉ vs1 := fun z => hM j z hj
        rw [ho j (fun z => njv (hi j z)), wipe_out njv, hσ j hj]
      refine ⟨hw, fr2, Hv2, R3, ?_⟩
      cases hcc : c1 fr2 with
      | bad => rw [hcc] at hcl; cases hcl
      | exc k fs fr3' => rw [hcc] at hcl; cases hcl
      | ok b frb =>
        rw [hcc] at hcl
        dsimp only [Res.bind] at hcl
        intro H3 Hv3 n3
        cases b with
        | false =>
          rw [if_neg Bool.false_ne_true] at hcl ⊢
          have R4 := n3.rel.wipes hM
          rw [hw] at R4
          exact ⟨frb, Hv3, acc, ad, r, C2.nxt hDt hf hs3 n3, R4, s.trans (s2.trans n3.ext), hcl, har⟩
        | true =>
          rw [if_pos rfl] at hcl ⊢
          refine ⟨frb, Hv3, n3.rel, ?_⟩
          cases hee : e frb with
          | bad => rw [hee] at hcl; cases hcl
          | exc k fs fr5 => rw [hee] at hcl; cases hcl
          | ok dy frc =>
            rw [hee] at hcl
            dsimp only [Res.bind] at hcl
            intro y H4 Hv4 n4 ry
            split at hcl
            · next hp =>
              have ry := ry.rep fun i z => by rw [z] at hp; cases hp
              have n := n3.trans n4
              have C4 := C2.nxt hDt hf hs3 n
              have R4 := n.rel.wipes hM
              rw [hw] at R4
              cases hrec : compL vs1 t1 c1 e (ds.drop (i + 1)) frc with
              | bad => rw [hrec] at hcl; cases hcl
              | exc k fs fr5 => rw [hrec] at hcl; cases hcl
              | ok r1 fr5 =>
                rw [hrec] at hcl
                dsimp only at hcl
                have hcl' : dy :: r1 = r ∧ fr5 = fr4 := by
                  cases hcl
                  exact ⟨rfl, rfl⟩
                obtain ⟨h1, h2⟩ := hcl'
                subst h1 h2
                have la := C4.rep.length
                have hlen : ad.length < r0.length := by
                  rw [← hr, ← har, List.length_append, List.length_append, List.length_cons]
                  omega
                refine ⟨acc, C4.at_, by omega, frc, Hv4, acc ++ [y], ad ++ [dy], r1, C4.app hD ry, R4.upd_free ?_ hD0 C4.hv hDt, s.trans (s2.trans n.ext), hrec, by rw [← har]; simp⟩
                rintro ⟨j, dd, hj, hfj, hsj⟩
                obtain ⟨a1, a2⟩ := wipeF_in hfj.1
                rw [wipe_out a1, hσ j hj] at hsj
                exact C4.no j dd hj ⟨a2, hfj.2⟩ hsj
            · cases hcl
  · obtain ⟨fr', Hv', acc, ad, r, C, R, s, hcl, har⟩ := p
    rw [List.drop_length] at hcl
    cases hcl
    rw [List.append_nil] at har
    subst har
    exact hQ H Hv' acc C R
end
section
variable {B : Bd} {vs is vs1 is1 : List Nat} {σ : L2.St} {fr1 : Fr} {H1 Hv1 : Hp} {t t1 : Tv} {c c1 : Bv} {h1 : Iv} {e : Ev}
theorem lc2_step {J : It} {ds : List D} {Q : VK} {r0 : List D} {fr20 : Fr} (hM : ∀ v ∈ vs, v ∉ B.M) (hi : ∀ j ∈ is, j ∈ vs) (ok : TgOk t is) (h11 : ∀ j ∈ vs1, j ∈ vs) (hi1 : ∀ j ∈ is1, j ∈ vs1) (ok1 : TgOk t1 is1) (R1 : Rel B fr1 σ H1 Hv1) (w : DWalk B J ds Hv1) (hc : compL2 vs t c h1 vs1 t1 c1 e ds fr1 = .ok r0 fr20) (hsz : r0.length ≤ sizeLine)
    (hQ : ∀ p H' Hv', Nxt B fr1 σ H1 Hv1 (restF fr1 fr20 vs) H' Hv' → H1 p = none → Hv' p = none → Cell B.G H' Hv' p (.lst r0) → Q (.ref p) H') :
    ∀ D0, H1 D0 = none → ∃ W : Nat → Nat → Hp → Prop, (∃ m, W 0 m (upd H1 D0 (.lst []))) ∧ ∀ i m H, W i m H →
      (J.stop i H ∧ Q (.ref D0) H) ∨ (J.go i H ∧ ∃ Nx : Hp → Prop, (∀ H', Nx H' → ∃ m', m' < m ∧ W (i + 1) m' H') ∧ ∀ x H', J.yld i H x H' → dTG B is t x (wipe σ vs) H' fun σ2 H2 => wipe σ2 vs = wipe σ vs ∧ dTT B (fun _ _ _ _ => False) c σ2 H2 fun b H3 =>
        if b = true then dTI B (fun _ _ _ _ => False) h1 σ2 H3 fun J1 H4 => ∃ W1 : Nat → Nat → Hp → Prop, (∃ m, W1 0 m H4) ∧ ∀ j k H, W1 j k H →
          (J1.stop j H ∧ Nx H) ∨ (J1.go j H ∧ ∃ Nx1 : Hp → Prop, (∀ H', Nx1 H' → ∃ k', k' < k ∧ W1 (j + 1) k' H') ∧ ∀ x H', J1.yld j H x H' → dTG B is1 t1 x (wipe σ2 vs1) H' fun σ3 H5 => wipe σ3 vs1 = wipe σ2 vs1 ∧ dTT B (fun _ _ _ _ => False) c1 σ3 H5 fun b H6 =>
            if b = true then dTE B (fun _ _ _ _ => False) e σ3 H6 fun y H7 => ∃ acc, H7 D0 = some (.lst acc) ∧ acc.length < sizeLine ∧ Nx1 (upd H7 D0 (.lst (acc ++ [y]))) else Nx1 H6)
        else Nx H3) := by
  intro D0 hD
  obtain ⟨S, Y, wk, hS, hY⟩ := w.ex
  have hDt : D0 ∉ B.G.tabs := fun z => by
    obtain ⟨⟨ps, q, _⟩, _⟩ := R1.tab D0 z
    rw [hD] at q; cases q
  have hD0 := R1.h0_none hD
  have hM1 : ∀ v ∈ vs1, v ∉ B.M := fun v h => hM v (h11 v h)
  let Pv : Nat → Hp → Prop := fun i H => ∃ fr' Hv' acc ad r, Com B σ fr1 H1 Hv1 D0 fr' H Hv' acc ad ∧ Rel B (wipeF fr' vs) (wipe σ vs) H Hv' ∧ compL2 vs t c h1 vs1 t1 c1 e (ds.drop i) fr' = .ok r fr20 ∧ ad ++ r = r0
  have h0 : Pv 0 (upd H1 D0 (.lst [])) := by
    refine ⟨fr1, Hv1, [], [], r0, ⟨.refl _, upd_same, .nil, R1.hv_none hD, fun j d hj hf hs => ?_, fun b o h _ _ => by rw [upd_ne (ne_of_none h hD)]; exact h, .refl _ _, fun b o h => ⟨o, by rw [upd_ne (ne_of_none h hD)]; exact h⟩, fun b o h => .inl h⟩, (R1.lay hD).wipes hM, hc, rfl⟩
    obtain ⟨⟨u, hu⟩, _⟩ := R1.own_some ⟨j, d, hj, hf, hs⟩
    rw [hD] at hu; cases hu
  refine ⟨fun i m H => m = ds.length - i ∧ i ≤ ds.length ∧ Pv i H, ⟨ds.length, by simp, Nat.zero_le _, h0⟩, ?_⟩
  rintro i m H ⟨rfl, hile, p⟩
  obtain ⟨fr', Hv', acc, ad, r, C, R, hcl, har⟩ := p
  have q := hS H Hv' C.sub R.sub
  by_cases hlt : i < ds.length
  · refine .inr ⟨wk.goes i H hlt q, Pv (i + 1), fun H' p' => ⟨ds.length - (i + 1), by omega, rfl, hlt, p'⟩, fun x H' y => ?_⟩
    obtain ⟨d, hd, hyr⟩ := hY i H Hv' x H' hlt C.sub R.sub (wk.yields i H x H' hlt q y)
    have hdrop : ds.drop i = d :: ds.drop (i + 1) := by
      obtain ⟨hl, e⟩ := List.getElem?_eq_some_iff.mp hd
      rw [List.drop_eq_getElem_cons hl, e]
    rw [hdrop] at hcl
    obtain ⟨Hv2, s2, R2, r2, C2⟩ := C.yld R hyr
    unfold compL2 at hcl
    cases ht : t d (wipeF fr' vs) with
    | none => rw [ht] at hcl; cases hcl
    | some fr2 =>
      rw [ht] at hcl
      dsimp only at hcl
      refine ⟨wipeF fr' vs, Hv2, d, fr2, R2, r2, ht, fun σ2 R3 hl ho => ?_⟩
      have hw := wipe_eq hl ho hi
      have hf : ∀ j, j ∈ B.M → fr2[j]? = fr'[j]? := fun j hj => by
        have njv : j ∉ vs := fun z => hM j z hj
        rw [ok d _ _ ht j (fun z => njv (hi j z)), wipeF_out njv]
      have hs2 : ∀ j, j ∈ B.M → σ2[j]? = σ[j]? := fun j hj => by
        have njv : j ∉ vs := fun z => hM j z hj
        rw [ho j (fun z => njv (hi j z)), wipe_out njv]
      refine ⟨hw, fr2, Hv2, R3, ?_⟩
      cases hcc : c fr2 with
      | bad => rw [hcc] at hcl; cases hcl
      | exc k fs fr3' => rw [hcc] at hcl; cases hcl
      | ok b frb =>
        rw [hcc] at hcl
        dsimp only [Res.bind] at hcl
        intro H3 Hv3 n3
        have C3 := C2.nxt hDt hf hs2 n3
        cases b with
        | false =>
          rw [if_neg Bool.false_ne_true] at hcl ⊢
          have R4 := n3.rel.wipes hM
          rw [hw] at R4
          exact ⟨frb, Hv3, acc, ad, r, C3, R4, hcl, har⟩
        | true =>
          rw [if_pos rfl] at hcl ⊢
          refine ⟨frb, Hv3, n3.rel, ?_⟩
          cases hh1 : h1 frb with
          | bad => rw [hh1] at hcl; cases hcl
          | exc k fs fr5 => rw [hh1] at hcl; cases hcl
          | ok ds1 fr3 =>
            rw [hh1] at hcl
            dsimp only [Res.bind] at hcl
            cases hcl1 : compL vs1 t1 c1 e ds1 fr3 with
            | bad => rw [hcl1] at hcl; cases hcl
            | exc k fs fr5 => rw [hcl1] at hcl; cases hcl
            | ok rs fr4 =>
              rw [hcl1] at hcl
              dsimp only at hcl
              cases hrec : compL2 vs t c h1 vs1 t1 c1 e (ds.drop (i + 1)) fr4 with
              | bad => rw [hrec] at hcl; cases hcl
              | exc k fs fr5 => rw [hrec] at hcl; cases hcl
              | ok rr fr5 =>
                rw [hrec] at hcl
                have hcl' : rs ++ rr = r ∧ fr5 = fr20 := by
                  cases hcl
                  exact ⟨rfl, rfl⟩
                obtain ⟨e1, e2⟩ := hcl'
                subst e1 e2
                intro J1 H4 Hv4 n4 w1
                have n := n3.trans n4
                have C4 := C2.nxt hDt hf hs2 n
                refine lcI (σ := σ) (σ2 := σ2) (fr1 := fr1) (H1 := H1) (Hv1 := Hv1) (rest := rr) hM1 hi1 ok1 hD hD0 hDt hs2 C4 n.rel w1 hcl1 (by rw [List.append_assoc]; exact har) hsz fun H5 Hv5 acc5 C5 R5 => ?_
                refine ⟨fr4, Hv5, acc5, ad ++ rs, rr, C5, ?_, hrec, by rw [List.append_assoc]; exact har⟩
                have := R5.wipes hM
                rwa [wipeF_wipeF h11, wipe_wipe h11, hw] at this
  · have ei : i = ds.length := by omega
    subst ei
    refine .inl ⟨wk.stops H q, ?_⟩
    rw [List.drop_length] at hcl
    cases hcl
    rw [List.append_nil] at har
    subst har
    refine hQ D0 H Hv' ⟨R1.rests R C.sub hM, C.sub, C.keep, fun j d hj hf => ?_, C.alive, C.newv⟩ hD C.hv ⟨acc, C.at_, C.rep⟩
    rcases restF_get hf.1 with ⟨a, b⟩ | ⟨a, b⟩
    · exact ⟨d, b, hf.2⟩
    · exact C.shr j d hj ⟨b, hf.2⟩
theorem lc2_enter {W : WX} {h : Iv} {σ0 : L2.St} {H0 : Hp} {Q : VK} (hM : ∀ v ∈ vs, v ∉ B.M) (hi : ∀ j ∈ is, j ∈ vs) (ok : TgOk t is) (h11 : ∀ j ∈ vs1, j ∈ vs) (hi1 : ∀ j ∈ is1, j ∈ vs1) (ok1 : TgOk t1 is1) (hh : dTF B W (eComp2 vs h t c h1 vs1 t1 c1 e) σ0 H0 Q) :
    tLc2 (dTI B W h) (dTG B is t) (dTT B (fun _ _ _ _ => False) c) (dTI B (fun _ _ _ _ => False) h1) (dTG B is1 t1) (dTT B (fun _ _ _ _ => False) c1) (dTE B (fun _ _ _ _ => False) e) vs vs1 σ0 H0 Q := by
  obtain ⟨fr, Hv, R, hh⟩ := hh
  refine ⟨fr, Hv, R, ?_⟩
  unfold eComp2 at hh
  cases hI : h fr with
  | bad => rw [hI] at hh; exact hh.elim
  | exc k fs fr1 =>
    rw [hI] at hh
    exact hh
  | ok ds fr1 =>
    rw [hI] at hh
    dsimp only [Res.bind] at hh
    intro J H1 Hv1 n w
    split at hh
    · next r fr2 hc =>
      split at hh
      · next hsz => exact lc2_step hM hi ok h11 hi1 ok1 n.rel w hc hsz fun p H' Hv' m hp hv hcell => hh p H' Hv' (n.trans m) (n.none R hp) hv hcell
      · exact (hh : False).elim
    · exact (hh : False).elim
end
section
variable {X : Cx} {B : Bd} {W : WX} {rf : Bool} {elt tg iter tg1 iter1 : Expr} {ifs ifs1 : List Expr} {scope : Scope} {own : List (Str × Nat)} {vs1 : List Nat} {pos spos py : Pos} {is is1 : List Nat} {h h1 : Iv} {t t1 : Tv} {c c1 : Bv} {e : Ev}
theorem d_lc2 (hM : ∀ v ∈ own.map (·.2), v ∉ B.M) (his : ∀ j ∈ is, j ∈ own.map (·.2)) (h11 : ∀ j ∈ vs1, j ∈ own.map (·.2)) (his1 : ∀ j ∈ is1, j ∈ vs1) (hc : X.calm = true) (hN : X.N.Nodup) (hi : DI X B W tg iter h) (ok : BlkOk X.N X.env.scope scope own)
    (hg : ∀ s H C cl fp, DG (BX X scope s H C cl fp) B tg is t) (ht : ∀ s H C cl fp, PTs (BX X scope s H C cl fp) ifs (dTT B W0 c)) (hi1 : ∀ s H C cl fp, DI (BX X scope s H C cl fp) B W0 tg1 iter1 h1) (hg1 : ∀ s H C cl fp, DG (BX X scope s H C cl fp) B tg1 is1 t1)
    (ht1 : ∀ s H C cl fp, PTs (BX X scope s H C cl fp) ifs1 (dTT B W0 c1)) (he : ∀ s H C cl fp, DE (BX X scope s H C cl fp) B W0 elt e)
    (hs : ∀ x, foldedSetIterable iter X.env x = pure x := by intro _; rfl) (hs1 : ∀ env x, foldedSetIterable iter1 env x = pure x := by intro _ _; rfl) : DF X B W (.ListComp elt [⟨tg, iter, ifs, 0⟩, ⟨tg1, iter1, ifs1, 0⟩] scope pos) (eComp2 (own.map (·.2)) h t c h1 vs1 t1 c1 e) :=
  pe_imp (pe_lc2 hc hN hi ok h11 (fun s H C cl fp => (hg s H C cl fp).pg) ht hi1 (fun s H C cl fp => (hg1 s H C cl fp).pg) ht1 he hs hs1) fun σ H Q hh => lc2_enter hM his (hg X.s_0 X.H_0 0 [] []).ok h11 his1 (hg1 X.s_0 X.H_0 0 [] []).ok hh
end
end KS
namespace KS
open PySem PySem.Spec L2 PyProof.Rows
def rLtT (K : PySem.W.Frag) : R2 := fun x y H Q => ∃ (a b : Addr) (ns ms : List Int), x = .ref a ∧ y = .ref b ∧ SqT K H a (ns.map V.int) ∧ SqT K H b (ms.map V.int) ∧
  Q (.bl (Ob.lexAt (fun j => decide (ns.getD j 0 = ms.getD j 0)) (fun j => decide (ns.getD j 0 < ms.getD j 0)) (decide (ns.length < ms.length)) 0 (min ns.length ms.length))) H
theorem op_ltT {X : Cx} (hu : X.A.units < cLine) : OpR X (compareOp .Lt) (rLtT X.K) := by
  intro pins s σ H x y v u Q I rx ry h
  obtain ⟨a, b, ns, ms, rfl, rfl, ha, hb, q⟩ := h
  cases rx
  cases ry
  obtain ⟨its, r1, p1, _⟩ := I.tuple ha
  obtain ⟨its2, r2, p2, _⟩ := I.tuple hb
  have i1 : IntsAre its ns := Vals.ints r1
  have i2 : IntsAre its2 ms := Vals.ints r2
  have e1 : its.toArray.size = ns.length := by rw [List.size_toArray]; exact i1.length
  have e2 : its2.toArray.size = ms.length := by rw [List.size_toArray]; exact i2.length
  have at1 : ∀ j (h1 : j < its.toArray.size), ∃ t, its.toArray[j] = .int (ns.getD j 0) t := fun j h1 => PyProof.Rows.IntsAre.int_at i1 _ _ (by simp at h1; simp [h1])
  have at2 : ∀ j (h1 : j < its2.toArray.size), ∃ t, its2.toArray[j] = .int (ms.getD j 0) t := fun j h1 => PyProof.Rows.IntsAre.int_at i2 _ _ (by simp at h1; simp [h1])
  have R := Ob.RcOp.tuples_lt (A := X.A) (s := s) (e := fun j => decide (ns.getD j 0 = ms.getD j 0)) (r := fun j => decide (ns.getD j 0 < ms.getD j 0)) p1 p2 hu (fun j h1 h2 => by
    obtain ⟨t, et⟩ := at1 j h1
    obtain ⟨t', et'⟩ := at2 j h2
    rw [et, et']
    have z : (ns.getD j 0 == ms.getD j 0) = decide (ns.getD j 0 = ms.getD j 0) := by
      by_cases q : ns.getD j 0 = ms.getD j 0
      · rw [decide_eq_true q]; exact beq_iff_eq.mpr q
      · rw [decide_eq_false q]; exact beq_eq_false_iff_ne.mpr q
    rw [← z]
    exact SeqAt.EqAt.int_int _ _ _ _) (fun j h1 h2 _ => by
    obtain ⟨t, et⟩ := at1 j h1
    obtain ⟨t', et'⟩ := at2 j h2
    rw [et, et']
    exact Ob.RcOp.lt_int _ _ _ _)
  rw [e1, e2] at R
  have z : wpAny (model X.prog X.w) X.A (compareOp .Lt (.ref a) (.ref b)) (EP X pins σ Q) X.xe s := R X.prog X.w X.xe (EP X pins σ Q) ⟨.bl _, H, I, rfl, q⟩
  exact z
def ltTs (ns ms : List Int) : Bool := Ob.lexAt (fun j => decide (ns.getD j 0 = ms.getD j 0)) (fun j => decide (ns.getD j 0 < ms.getD j 0)) (decide (ns.length < ms.length)) 0 (min ns.length ms.length)
def ltTF : D → D → Option D
  | .tup ds, .tup es => match intsOf ds, intsOf es with
    | some ns, some ms => some (.bl (ltTs ns ms))
    | _, _ => none
  | _, _ => none
section
variable {X : Cx} {B : Bd}
theorem ops_ltT (hK : X.K = B.G.K) : OpS B (rLtT X.K) ltTF := by
  intro fr σ H Hv x y dx dy a b z Q R rx ry hx hy hz k
  unfold ltTF at hz
  split at hz
  · split at hz
    · next ns ms h1 h2 =>
      cases hz
      obtain ⟨p, vs, rfl, q, _, r⟩ := R.tup_of rx hx
      obtain ⟨p2, vs2, rfl, q2, _, r2⟩ := R.tup_of ry hy
      have e1 := ints_rep r h1
      have e2 := ints_rep r2 h2
      subst e1 e2
      exact ⟨p, p2, ns, ms, rfl, rfl, by rw [hK]; exact q, by rw [hK]; exact q2, k _ H Hv (.refl R) repB⟩
    · cases hz
  · cases hz
abbrev ltA : D → D → Option D := orF ltF ltTF
theorem ops_ltA (hK : X.K = B.G.K := by rfl) : OpS B (fun x y H Q => rI0 (fun i j => .bl (decide (i < j))) x y H Q ∨ rLtT X.K x y H Q) ltA := ops_lt.or (ops_ltT hK)
theorem op_ltA (hu : X.A.units < cLine) : OpR X (compareOp .Lt) (fun x y H Q => rI0 (fun i j => .bl (decide (i < j))) x y H Q ∨ rLtT X.K x y H Q) := op_lt.or (op_ltT hu)
end
end KS
namespace KS
open PySem PySem.Spec L2 PyProof.Rows
def fz1 (i : Nat) (fr : Fr) : Fr := match fr[i]? with
  | some (some d) => if isCell d = true then fr.set i (some (.tup [d])) else fr
  | _ => fr
def fzS (i : Nat) (g : Sv) : Sv := fun fr => g (fz1 i fr)
section
variable {X : Cx} {B : Bd} {W : WX} {rf : Bool} {st : Stmt} {g : Sv} {i : Nat} {fr : Fr} {σ : L2.St} {H Hv : Hp}
theorem s_fzS (hi : i ∈ B.M) (hio : ∀ p ∈ B.io, p.1 ≠ i) (h : DS X B W rf st g) : DS X B W rf st (fzS i g) := ps_imp h fun D σ H q => by
  obtain ⟨fr, Hv, R, q⟩ := q
  unfold fzS fz1 at q
  split at q
  · next d e =>
    split at q
    · next c =>
      obtain ⟨a, Hv', hs, n, r⟩ := R.fz hi ⟨e, c⟩ hio
      exact ⟨_, Hv', n.rel, q.step n.ext⟩
    · exact ⟨fr, Hv, R, q⟩
  · exact ⟨fr, Hv, R, q⟩
end
end KS
namespace KS
open PySem PySem.Spec PyProof.Rows L2
end KS
namespace KS
open PySem PySem.Spec PyProof.Rows L2 GxR
end KS
namespace KS
open PySem PySem.Spec PyProof.Rows L2 GxR
end KS
namespace KS
open PySem PySem.Spec PyProof.Rows L2 GxR
end KS
namespace KS
open PySem PySem.Spec L2
/-- what stands at the start of a turn -/
structure GInv (B : Bd) (vs : List Nat) (σ : L2.St) (fr1 : Fr) (H1 Hv1 : Hp) (fr' : Fr) (H Hv' : Hp) : Prop where
  rel : Rel B (wipeF fr' vs) (wipe σ vs) H Hv'
  sub : Sub Hv1 Hv'
  keep : ∀ b o, H1 b = some o → ¬ Own B fr1 σ b → b ∉ B.G.tabs → H b = some o
  shr : Shr B fr1 fr'
  alive : ∀ b o, H1 b = some o → ∃ o', H b = some o'
  newv : ∀ b o, Hv' b = some o → Hv1 b = some o ∨ NewOk H1 b o ∨ Own B fr1 σ b
section
variable {B : Bd} {vs is : List Nat} {σ : L2.St} {fr1 : Fr} {H1 Hv1 : Hp} {t : Tv} {e : Ev} {sv : Bool}
theorem GInv.nxt {fr' : Fr} {H Hv' : Hp} (I : GInv B vs σ fr1 H1 Hv1 fr' H Hv') (R1 : Rel B fr1 σ H1 Hv1) (hM : ∀ v ∈ vs, v ∉ B.M) : Nxt B fr1 σ H1 Hv1 (restF fr1 fr' vs) H Hv' := by
  refine ⟨R1.rests I.rel I.sub hM, I.sub, I.keep, fun j d hj hf => ?_, I.alive, I.newv⟩
  rcases restF_get hf.1 with ⟨a, b⟩ | ⟨a, b⟩
  · exact ⟨d, b, hf.2⟩
  · exact I.shr j d hj ⟨b, hf.2⟩
end
end KS
namespace KS
open PySem PySem.Spec PyProof.Rows L2 L2H
end KS
namespace KS
open PySem PySem.Spec L2
end KS
namespace KS
open PySem PySem.Spec L2
end KS
namespace KS
open PySem PySem.Spec PyProof.Rows L2
section
variable {X : Cx} {B : Bd} {W : WX} {rf : Bool} {tg iter : Expr} {body : List Stmt} {is : List Nat} {t : Tv} {h : Iv} {g : Sv} {pos : Pos}
theorem s_forH (hp : PassesOwn (model X.prog X.w) X.A X.env X.xe) (hc : L2H.HotC X) (hi : L2H.PIH X tg iter (dTI B W h)) (hg : DG X B tg is t) (hb : DSs X B W rf body g) (hs : ∀ x, foldedSetIterable iter X.env x = pure x := by intro _; rfl) :
    DS X B W rf (.For tg iter body [] pos) (sFor h t g) := by
  refine ps_imp (L2H.ps_forH hp hc hi hg.pg hb hs) fun D σ H hh => ?_
  obtain ⟨fr, Hv, R, hh⟩ := hh
  refine ⟨fr, Hv, R, ?_⟩
  unfold sFor at hh
  cases hI : h fr with
  | bad => rw [hI] at hh; exact hh.elim
  | exc c fs fr1 =>
    rw [hI] at hh
    exact fun dd H' Hv' n e => hh dd σ H' Hv' n.rel n.ext e
  | ok ds fr1 =>
    rw [hI] at hh
    dsimp only [Res.bind] at hh
    intro J H1 Hv1 n w
    obtain ⟨S, Y, wk, hS, hY⟩ := w.ex
    refine for_it wk (fun i σ' H' => ∃ fr' Hv', Rel B fr' σ' H' Hv' ∧ Sub Hv1 Hv' ∧ PostS B W rf Hv' (loopF t g (ds.drop i) fr') D) ⟨fr1, Hv1, n.rel, .refl _, PostS.step n.ext hh⟩ (fun i σ' H' _ ⟨fr', Hv', R', s, _⟩ => hS H' Hv' s R'.sub) (fun i x σ' H' H'' hlt p y => ?_) (fun σ' H' p => ?_)
    · obtain ⟨fr', Hv', R', s, P⟩ := p
      obtain ⟨d, hd, hr⟩ := hY i H' Hv' x H'' hlt s R'.sub y
      have hdrop : ds.drop i = d :: ds.drop (i + 1) := by
        obtain ⟨hl, e⟩ := List.getElem?_eq_some_iff.mp hd
        rw [List.drop_eq_getElem_cons hl, e]
      rw [hdrop] at P
      obtain ⟨Hv2, s2, R2, r2⟩ : ∃ Hv2, Sub Hv' Hv2 ∧ Rel B fr' σ' H'' Hv2 ∧ Rep B.G Hv2 d x := by
        rcases hr with ⟨e, r⟩ | ⟨T, es, vs, rfl, rfl, hT, rfl, r⟩
        · rw [e]; exact ⟨Hv', .refl _, R', r⟩
        · have sT : Sub Hv' (upd Hv' T (.tup vs)) := (Sub.refl Hv').put (R'.hv_none hT)
          exact ⟨_, sT, R'.layV hT (fun ps z => by cases z), Rep.tup upd_same (RepL.mono sT _ _ r)⟩
      unfold loopF at P
      cases ht : t d fr' with
      | none => rw [ht] at P; exact P.elim
      | some fr2 =>
        rw [ht] at P
        dsimp only at P
        refine ⟨fr', Hv2, d, fr2, R2, r2, ht, fun σ2 R3 _ _ => ⟨fr2, Hv2, R3, ?_⟩⟩
        cases hgf : g fr2 with
        | bad => rw [hgf] at P; exact P.elim
        | exc c fs fr3 =>
          rw [hgf] at P
          exact fun dd σ' H' Hv' a b => P dd σ' H' Hv' a (s2.trans b)
        | ok fl fr3 =>
          rw [hgf] at P
          cases fl with
          | nx => exact fun σ' H' Hv' a b => ⟨fr3, Hv', a, s.trans (s2.trans b), PostS.step (s2.trans b) P⟩
          | cnt => exact fun σ' H' Hv' a b => ⟨fr3, Hv', a, s.trans (s2.trans b), PostS.step (s2.trans b) P⟩
          | brk => exact fun σ' H' Hv' a b => P σ' H' Hv' a (s2.trans b)
          | ret d => exact P
    · obtain ⟨fr', Hv', R', s, P⟩ := p
      rw [List.drop_length] at P
      exact P σ' H' Hv' R' (.refl _)
end
/-- the handled exception, pinned -/
def PinH (X : Cx) (p : Addr × Obj) : Prop := p ∈ X.pn ∧ L2H.Hot1 X.A p
end KS
namespace KS
open PySem PySem.Spec PyProof.Rows L2
def shlF : D → D → Option D
  | .int i, .int j => if 0 ≤ j ∧ j ≤ 1000000 ∧ i.natAbs < 2 ^ 64 then some (.int (i * 2 ^ j.toNat)) else none
  | _, _ => none
def andF : D → D → Option D
  | .int i, .int j => some (.int (Builtin.bitAnd i j))
  | _, _ => none
def xorF : D → D → Option D
  | .int i, .int j => some (.int (Builtin.bitXor i j))
  | _, _ => none
section
variable {X : Cx} {B : Bd} {W : WX} {a b : Expr} {f g : Ev} {pos : Pos}
theorem ops_I0 {F : D → D → Option D} {h : Int → Int → Int} (hF : ∀ a b z, F a b = some z → ∃ i j, a = .int i ∧ b = .int j ∧ z = .int (h i j)) : OpS B (fun x y H Q => ∃ i j, x = .int i ∧ y = .int j ∧ Q (.int (h i j)) H) F := by
  intro fr σ H Hv x y dx dy a b z Q R rx ry hx hy hz k
  obtain ⟨i, j, rfl, rfl, rfl⟩ := hF a b z hz
  rw [R.int_of rx hx, R.int_of ry hy]
  exact ⟨i, j, rfl, rfl, k _ H Hv (.refl R) repI⟩
theorem d_and_b (ha : DE X B W a f) (hb : DE X B W b g) : DE X B W (.BinOp a .BitAnd b pos) (eOp2 andF f g) := pe_imp (pe_op op_and ha hb) fun _ _ _ h => ent2 (ops_I0 fun a b z e => by
  cases a <;> cases b <;> first | (cases e; exact ⟨_, _, rfl, rfl, rfl⟩) | cases e) h
theorem d_xor_b (ha : DE X B W a f) (hb : DE X B W b g) : DE X B W (.BinOp a .BitXor b pos) (eOp2 xorF f g) := pe_imp (pe_op op_xor ha hb) fun _ _ _ h => ent2 (ops_I0 fun a b z e => by
  cases a <;> cases b <;> first | (cases e; exact ⟨_, _, rfl, rfl, rfl⟩) | cases e) h
theorem ops_shl : OpS B (rI CPow fun i j => .int (i * 2 ^ j.toNat)) shlF := by
  intro fr σ H Hv x y dx dy a b z Q R rx ry hx hy hz k
  unfold shlF at hz
  split at hz
  · split at hz
    · next c =>
      cases hz
      rw [R.int_of rx hx, R.int_of ry hy]
      exact ⟨_, _, rfl, rfl, c, k _ H Hv (.refl R) repI⟩
    · cases hz
  · cases hz
theorem d_shl (ha : DE X B W a f) (hb : DE X B W b g) : DE X B W (.BinOp a .LShift b pos) (eOp2 shlF f g) := pe_imp (pe_op op_shl ha hb) fun _ _ _ h => ent2 ops_shl h
end
end KS
namespace KS
open PySem PySem.Spec L2
end KS
namespace KS
open PySem PySem.Spec PyProof.Rows L2
end KS
namespace KS
open PySem PySem.Spec L2
end KS
namespace KS
open PySem PySem.Spec L2 PyProof.Rows
end KS
namespace KS
open PySem PySem.Spec L2 PyProof.Rows
end KS
namespace KS
open PySem PySem.Spec L2 PyProof.Rows
end KS
namespace KS
open PySem PySem.Spec L2 PyProof.Rows
end KS
namespace KS
open PySem PySem.Spec L2 PyProof.Rows
end KS
namespace KS
open PySem PySem.Spec L2 PyProof.Rows
end KS
namespace KS
open PySem PySem.Spec L2 PyProof.Rows
end KS
namespace KS
open PySem PySem.Spec L2 PyProof.Rows
end KS
namespace KS
open PySem PySem.Spec L2 PyProof.Rows
end KS
namespace KS
open PySem PySem.Spec L2
end KS
namespace KS
open PySem PySem.Spec L2
def rgTF : D → Option D
  | .int j => if okI j = true ∧ j.toNat ≤ 16777216 then some (.tup (rangeD 0 j.toNat)) else none
  | _ => none
theorem repL_rg {G : SE} {Hv : Hp} {a : Int} : ∀ l : List Nat, RepL G Hv (l.map fun k => D.int (a + (k : Nat))) (l.map fun k => V.int (a + (k : Nat)))
  | [] => .nil
  | k :: l => .cons repI (repL_rg l)
section
variable {X : Cx} {B : Bd} {W : WX} {a : Expr} {f : Ev} {p p2 q pos : Pos}
theorem d_tupRg (ha : DE X B W a f) (hm : X.mg "tuple" = none) (hm2 : X.mg "range" = none) (hc : X.calm = true := by rfl) (hg : Gl X "tuple" := by rfl) (hg2 : Gl X "range" := by rfl)
    (he : starEach [a] X.env = (false, eval a X.env) :: starEach [] X.env := by rfl) (he2 : starEach [.Call (.Name "range" p2) [a] [] q] X.env = (false, eval (.Call (.Name "range" p2) [a] [] q) X.env) :: starEach [] X.env := by rfl) :
    DE X B W (.Call (.Name "tuple" p) [.Call (.Name "range" p2) [a] [] q] [] pos) (eOp1 rgTF f) := by
  refine pe_imp (pe_tupRg hc hg hm (prg_1 hg2 hm2 ha he) he2) fun σ H Q h => ?_
  obtain ⟨fr, Hv, R, h⟩ := h
  refine ⟨fr, Hv, R, ?_⟩
  unfold eOp1 at h
  cases hf : f fr with
  | bad => rw [hf] at h; exact h.elim
  | exc c fs fr1 => rw [hf] at h; exact h
  | ok x fr1 =>
    rw [hf] at h
    dsimp only [Res.bind] at h
    intro vx H1 Hv1 n1 r1
    cases hx : look fr1 x with
    | none => rw [hx] at h; exact h.elim
    | some d =>
      rw [hx] at h
      dsimp only at h
      unfold rgTF at h
      split at h
      · next j =>
        split at h
        · next hk =>
          obtain ⟨c1, c2⟩ := okI_spec hk.1
          have hk2 := hk.2
          rw [n1.rel.int_of r1 hx]
          refine ⟨j, rfl, ⟨by omega, by omega, by omega, by omega, by omega⟩, fun t ht => ?_⟩
          refine lay_tup (ds := rangeD 0 j.toNat) n1.rel ht ?_ fun v H' Hv' n q => h v H' Hv' (n1.trans n) (.of q)
          unfold rgV rangeD
          rw [Int.sub_zero]
          exact repL_rg _
        · exact h.elim
      · exact h.elim
end
end KS
namespace KS
open PySem PySem.Spec L2 PyProof.Rows
/-- each once -/
def dd : List Int → List Int
  | [] => []
  | x :: l => if x ∈ l then dd l else x :: dd l
end KS
namespace KS
open PySem PySem.Spec L2 PyProof.Rows
end KS
namespace KS
open PySem PySem.Spec L2
end KS
namespace KS
open PySem PySem.Spec L2 PyProof.Rows
end KS
namespace KS
open PySem PySem.Spec L2
end KS
namespace KS
open PySem PySem.Spec L2
end KS
namespace KS
open PySem PySem.Spec PyProof.Rows L2 L2H _root_.HotX
abbrev blkH (X : Cx) (s : Shared) (H : Hp) (scope : Scope) (cenv : Env) (fp : List Addr) : Cx := { X with s_0 := s, H_0 := H, env := cenv, outer := X.stack, ex := fp, fn := fun x => scope.names.lookup x == some .cell, xe := fun _ _ => False }
abbrev BXH (X : Cx) (scope : Scope) (s : Shared) (H : Hp) (C : Addr) (cl : List (Str × Addr)) (fp : List Addr) : Cx := blkH X s H scope (compEnvC scope cl C X.env) fp
theorem PinH.blk {X : Cx} {p : Addr × Obj} (h : PinH X p) {scope : Scope} {s : Shared} {H : Hp} {C : Addr} {cl : List (Str × Addr)} {fp : List Addr} : PinH (BXH X scope s H C cl fp) p := ⟨h.1, h.2⟩
end KS
namespace KS
open PySem PySem.Spec L2
def putI (l : List (Int × D)) (k : Int) (d : D) : List (Int × D) := if (l.any fun p => decide (p.1 = k)) = true then l.map (fun p => if p.1 = k then (p.1, d) else p) else l ++ [(k, d)]
/-- a dict keyed by ints, by content -/
def dctI (l : List (Int × D)) : D := .dct (.bl false :: l.map fun p => .int p.1) (l.map (·.2))
structure KR (G : SE) (Hv : Hp) (l : List (Int × D)) (kvs : List (Key × V)) : Prop where
  keys : kvs.map (·.1) = l.map fun p => (.inl p.1 : Key)
  vals : RepL G Hv (l.map (·.2)) (kvs.map (·.2))
section
variable {G : SE} {Hv Hv' H : Hp} {l : List (Int × D)} {kvs : List (Key × V)}
theorem KR.mono (h : KR G Hv l kvs) (s : Sub Hv Hv') : KR G Hv' l kvs := ⟨h.keys, RepL.mono s _ _ h.vals⟩
theorem KR.length (h : KR G Hv l kvs) : kvs.length = l.length := by
  have := congrArg List.length h.keys
  simpa using this
theorem KR.cons_inv {p : Int × D} {l : List (Int × D)} (h : KR G Hv (p :: l) kvs) : ∃ v t, kvs = (.inl p.1, v) :: t ∧ Rep G Hv p.2 v ∧ KR G Hv l t := by
  obtain ⟨h1, h2⟩ := h
  cases kvs with
  | nil => cases h1
  | cons kv t =>
    obtain ⟨k, v⟩ := kv
    rw [List.map_cons, List.map_cons] at h1
    injection h1 with e1 e2
    obtain ⟨v', t', e, r1, r2⟩ := h2.cons_inv
    rw [List.map_cons] at e
    injection e with e3 e4
    dsimp only at e1 e3
    subst e1 e3
    exact ⟨v, t, rfl, r1, e2, by rw [e4]; exact r2⟩
theorem KR.cons {p : Int × D} {l : List (Int × D)} {v : V} {t : List (Key × V)} (r : Rep G Hv p.2 v) (h : KR G Hv l t) : KR G Hv (p :: l) ((.inl p.1, v) :: t) := ⟨by rw [List.map_cons, List.map_cons, h.keys], .cons r h.vals⟩
theorem KR.any (h : KR G Hv l kvs) (k : Int) : (kvs.any fun kv => decide (kv.1 = (.inl k : Key))) = l.any fun p => decide (p.1 = k) := by
  induction l generalizing kvs with
  | nil =>
    have := h.length
    have e : kvs = [] := List.length_eq_zero_iff.1 (by simpa using this)
    rw [e]; rfl
  | cons p l ih =>
    obtain ⟨v, t, rfl, _, h2⟩ := h.cons_inv
    rw [List.any_cons, List.any_cons, ih h2]
    congr 1
    rw [Bool.eq_iff_iff, decide_eq_true_iff, decide_eq_true_iff]
    exact ⟨fun e => by injection e, fun e => by rw [e]⟩
theorem KR.map (h : KR G Hv l kvs) {k : Int} {d : D} {v : V} (r : Rep G Hv d v) : KR G Hv (l.map (fun p => if p.1 = k then (p.1, d) else p)) (kvs.map (fun kv => if kv.1 = (.inl k : Key) then (kv.1, v) else kv)) := by
  induction l generalizing kvs with
  | nil =>
    have := h.length
    have e : kvs = [] := List.length_eq_zero_iff.1 (by simpa using this)
    rw [e]; exact ⟨rfl, .nil⟩
  | cons p l ih =>
    obtain ⟨v', t, rfl, r1, h2⟩ := h.cons_inv
    rw [List.map_cons, List.map_cons]
    by_cases e : p.1 = k
    · rw [if_pos e, if_pos (by rw [e])]
      exact KR.cons (p := (p.1, d)) r (ih h2)
    · rw [if_neg e, if_neg (fun q => e (by injection q))]
      exact KR.cons r1 (ih h2)
theorem KR.put (h : KR G Hv l kvs) {k : Int} {d : D} {v : V} (r : Rep G Hv d v) : KR G Hv (putI l k d) (putK kvs (.inl k) v) := by
  unfold putI putK
  rw [h.any k]
  split
  · exact h.map r
  · exact ⟨by rw [List.map_append, List.map_append, h.keys]; rfl, by rw [List.map_append, List.map_append]; exact h.vals.append (.cons r .nil)⟩
theorem KR.dctAt (h : KR G Hv l kvs) {a : Addr} (e : H a = some (.dK kvs)) : DctAt H a (.bl false :: l.map fun p => .int p.1) (kvs.map (·.2)) := by
  refine .inr ⟨kvs, e, ?_, rfl⟩
  congr 1
  have := congrArg (List.map kD) h.keys
  rw [List.map_map, List.map_map] at this
  exact this.symm
theorem KR.cell (h : KR G Hv l kvs) {a : Addr} (e : H a = some (.dK kvs)) : Cell G H Hv a (dctI l) := ⟨_, h.dctAt e, h.vals⟩
end
end KS
namespace KS
open PySem PySem.Spec L2
end KS
namespace KS
open PySem PySem.Spec L2 PyProof.Rows
end KS
namespace KS
open PySem PySem.Spec L2 PyProof.Rows
end KS
namespace KS
open PySem PySem.Spec L2
end KS
namespace KS
open PySem PySem.Spec PyProof.Rows L2
open PySem.SeqAt (dataPlace items_plain hit_at readOf)
end KS
namespace KS
open PySem PySem.Spec PyProof.Rows L2
open PySem.W (EachIs AllAlike Sortable list_sort_data dataLe alike alikeAll)
theorem dataLe_int : dataLe false PyData.int = leI := by
  funext p q
  show (!PySem.W.dataLt (.int q) (.int p)) = _
  rw [PySem.W.dataLt_int]
  unfold leI
  by_cases c : q < p
  · rw [decide_eq_true c, decide_eq_false (by omega)]; rfl
  · rw [decide_eq_false c, decide_eq_true (by omega)]; rfl
def rSortTI (K : PySem.W.Frag) : List V → Hp → VK → Prop := fun vs H Q => ∃ (a : Addr) (ns : List Int), vs = [.ref a] ∧ SqT K H a (ns.map V.int) ∧
  ∀ (p : Addr), H p = none → ((ns.mergeSort leI).map V.int).length ≤ sizeLine → Q (.ref p) (upd H p (.lst ((ns.mergeSort leI).map V.int)))
theorem vals_ints_at : ∀ {ns : List Int} {its : List Value}, Vals (ns.map V.int) its → ∀ (i : Nat) (v : Value) (r : Int), its[i]? = some v → ns[i]? = some r → ∃ t, v = .int r t
  | [], _, .nil, i, v, r, e, _ => by simp at e
  | n :: ns, _, .cons h1 t, 0, v, r, e1, e2 => by
    obtain ⟨t1, rfl⟩ := h1
    simp at e1 e2
    subst e1 e2
    exact ⟨t1, rfl⟩
  | n :: ns, _, .cons h1 t, i + 1, v, r, e1, e2 => vals_ints_at t i v r (by simpa using e1) (by simpa using e2)
theorem cr_sortTI {X : Cx} (hu : X.A.units + 16 < cLine) : CallR X (.builtin "sorted") (rSortTI X.K) := by
  intro pins s σ H vs us Q I r h
  obtain ⟨a, rs, rfl, hs, q⟩ := h
  obtain ⟨its, rv, hli, hz⟩ := I.tuple hs
  rw [Vals.ref1 r]
  have hal : its.length = rs.length := by rw [← rv.length, List.length_map]
  have key := vals_ints_at rv
  have hzi : its.length ≤ sizeLine := by rw [← rv.length]; exact hz
  refine Calls.call_function_entry PyProof.Rows.kind_sorted PyProof.Rows.plain_sorted PyProof.Rows.entry_sorted (PyProof.Rows.args_sorted1 _) ?_
  unfold Builtin.«sorted»
  refine wpAny_bind (m := checkCount "sorted" 1 1 _) (wpAny_pure ?_)
  refine wpAny_bind (collect_tup hli ?_ hzi)
  have hk : ∀ b o, s.heap.get? b = some o → ((s.heap.push (seqObj "list" #[] 0)).update s.heap.objs.size (Obj.mapSeq (· ++ its.toArray))).get? b = some o := fun b o e => by
    rw [Heap.get?_update_ne _ _ _ _ (Nat.ne_of_lt (Heap.lt_size e))]
    exact Heap.get?_push_of_some _ e
  generalize (s.heap.push (seqObj "list" #[] 0)).update s.heap.objs.size (Obj.mapSeq (· ++ its.toArray)) = h' at hk
  have I1 : Inv X pins σ H { s with heap := h' } := I.kept (t' := s.toks) hk
  refine wpAny_bind (wpAny_newList ?_ hzi)
  have hoL : (h'.push (seqObj "list" its.toArray 0)).get? h'.objs.size = some (seqObj "list" its.toArray 0) := Heap.get?_push_size _ rfl
  show wpAny _ _ _ _ _ { s with heap := h'.push (seqObj "list" its.toArray 0) }
  have hR : EachIs (fun (v : Value) (r : Int) => ∃ t, v = .int r t) its rs := eachIs_get hal key
  have hrd : EachIs (fun (v : Value) (r : Int) => ∃ as, Reads (h'.push (seqObj "list" its.toArray 0)) v (PyData.int r) as ∧ h'.objs.size ∉ as) its rs := eachIs_get hal fun i v r e1 e2 => by
    obtain ⟨t, rfl⟩ := key i v r e1 e2
    exact ⟨[], .int _ _, by simp⟩
  have hal2 : AllAlike (rs.map PyData.int) := AllAlike.of fun b b' => by simp only [alike]
  have hsr : Sortable (rs.map PyData.int) := .inr fun d hd => by
    obtain ⟨b, hb, rfl⟩ := List.mem_map.mp hd
    exact ⟨fun z => by (cases z), fun xs z => by (cases z)⟩
  refine wpAny_bind (wpAny_holding (list_sort_data (s := { s with heap := h'.push (seqObj "list" its.toArray 0) }) hoL hR hrd hal2 hsr (by omega) (fun b _ => ?_) fun out g1 g2 => ?_))
  · have e2 : X.A.in1.units = X.A.units + 1 := rfl
    show X.A.in1.units + 1 + (PyData.int b).depth < cLine
    have : (PyData.int b).depth ≤ 4 := by simp [PyData.depth]
    omega
  obtain ⟨e', he'⟩ := PyProof.Rows.sortedHeap_at (vs := its) (out := out.toArray) hoL
  rw [dataLe_int] at g2
  have rv' : Vals ((rs.mergeSort leI).map V.int) out := by
    clear he' g1
    generalize rs.mergeSort leI = m at g2
    induction g2 with
    | nil => exact .nil
    | cons h t ih => exact .cons h ih
  have hlen : ((rs.mergeSort leI).map V.int).length ≤ sizeLine := by
    rw [List.length_map, List.length_mergeSort]
    omega
  refine wpAny_pure ⟨_, rfl, .ref h'.objs.size, upd H h'.objs.size (.lst ((rs.mergeSort leI).map V.int)), I1.laid (t' := s.toks) (fun b u e => ?_) (Nat.le_refl _)
    (show ObjOk X.prog X.w _ _ _ (.lst ((rs.mergeSort leI).map V.int)) from ⟨hlen, out, e', rv', he'⟩), rfl, q _ (I1.hok.fresh (Nat.le_refl _)) hlen⟩
  have hb : b < h'.objs.size := Heap.lt_size e
  rw [PyProof.Rows.sortedHeap_old (Nat.ne_of_lt hb) (by rw [size_push']; exact Nat.lt_succ_of_lt hb)]
  exact Heap.get?_push_of_some _ e
def sortTIF : D → Option D
  | .tup ds => (intsOf ds).map fun ns => .lst ((ns.mergeSort leI).map D.int)
  | _ => none
section
variable {X : Cx} {B : Bd}
theorem caf_sortTI (hK : X.K = B.G.K) : CaF1 B (rSortTI X.K) sortTIF := by
  intro fr σ H Hv x dx a z Q R rx hx hz k
  unfold sortTIF at hz
  split at hz
  · next ds =>
    obtain ⟨p, vs, rfl, q, _, r⟩ := R.tup_of rx hx
    cases hn : intsOf ds with
    | none => rw [hn] at hz; cases hz
    | some ns =>
      rw [hn] at hz
      cases hz
      rw [ints_rep r hn] at q
      exact ⟨p, ns, rfl, by rw [hK]; exact q, fun l hl hlen => lay_own R hl (repL_ints _) k⟩
  · cases hz
end
end KS
namespace KS
open PySem PySem.Spec L2 PyProof.Rows
/-- every second one -/
def ev2 {α : Type} (xs : List α) : List α := ((List.range ((xs.length + 1) / 2)).map fun k => 2 * k).filterMap fun k => xs[k]?
theorem pick_ev2 (items : Array Value) : slicePick items none none (some 2) = (ev2 items.toList).toArray := by
  unfold slicePick
  have e : sliceBounds none none (some 2) items.size = (0, (items.size : Int), 2) := rfl
  rw [e]
  congr 1
  unfold ev2
  have e2 : sliceRange 0 (items.size : Int) 2 = (List.range ((items.toList.length + 1) / 2)).map fun k => 2 * k := by
    unfold sliceRange
    rw [Array.length_toList]
    have h1 : (2 : Int) > 0 := by decide
    simp only [h1, if_true]
    have e3 : ((if (0 : Int) < (items.size : Int) then ((items.size : Int) - 0 + 2 - 1) / 2 else 0) : Int).toNat = (items.size + 1) / 2 := by
      split <;> omega
    rw [e3]
    refine List.map_congr_left fun k _ => ?_
    omega
  rw [e2]
  congr 1
  funext k
  simp
theorem pickL_vals : ∀ (ks : List Nat) {vs : List V} {us : List Value}, Vals vs us → Vals (ks.filterMap fun k => vs[k]?) (ks.filterMap fun k => us[k]?)
  | [], _, _, _ => .nil
  | k :: ks, vs, us, h => by
    rw [List.filterMap_cons, List.filterMap_cons]
    cases hv : vs[k]? with
    | none =>
      have : us[k]? = none := by
        rw [List.getElem?_eq_none_iff] at hv ⊢
        rw [← h.length]; exact hv
      rw [this]
      exact pickL_vals ks h
    | some v =>
      obtain ⟨u, h1, h2⟩ := h.get hv
      rw [h1]
      exact .cons h2 (pickL_vals ks h)
theorem pickL_rep {G : SE} {H : Hp} : ∀ (ks : List Nat) {ds : List D} {vs : List V}, RepL G H ds vs → RepL G H (ks.filterMap fun k => ds[k]?) (ks.filterMap fun k => vs[k]?)
  | [], _, _, _ => .nil
  | k :: ks, ds, vs, h => by
    rw [List.filterMap_cons, List.filterMap_cons]
    cases hv : vs[k]? with
    | none =>
      have : ds[k]? = none := by
        rw [List.getElem?_eq_none_iff] at hv ⊢
        rw [← h.length]; exact hv
      rw [this]
      exact pickL_rep ks h
    | some v =>
      obtain ⟨d, h1, h2⟩ := h.getV hv
      rw [h1]
      exact .cons h2 (pickL_rep ks h)
theorem ev2_le {α : Type} (xs : List α) : (ev2 xs).length ≤ xs.length := by
  unfold ev2
  have := List.length_filterMap_le (fun k => xs[k]?) ((List.range ((xs.length + 1) / 2)).map fun k => 2 * k)
  rw [List.length_map, List.length_range] at this
  omega
theorem ev2_vals {vs : List V} {us : List Value} (h : Vals vs us) : Vals (ev2 vs) (ev2 us) := by
  unfold ev2
  rw [h.length]
  exact pickL_vals _ h
theorem ev2_rep {G : SE} {H : Hp} {ds : List D} {vs : List V} (h : RepL G H ds vs) : RepL G H (ev2 ds) (ev2 vs) := by
  unfold ev2
  rw [h.length]
  exact pickL_rep _ h
def tEv2L (K : PySem.W.Frag) (te : TE) : TE := fun σ H Q => te σ H fun x H1 => ∃ a xs, x = .ref a ∧ SqL K H1 a xs ∧ ∀ p, H1 p = none → Q (.ref p) (upd H1 p (.lst (ev2 xs)))
theorem pe_ev2L {X : Cx} {e : Expr} {te : TE} {k : Nat} {p1 p3 pos : Pos} (he : PE X e te) : PE X (.Subscript e (.Slice none none (some (.Constant (.int 2) k p1)) p3) pos) (tEv2L X.K te) := by
  refine ⟨fun pins s σ H Q I h => ?_⟩
  refine Subscript_ (thn (he.run pins s σ H _ I h) fun v s1 ⟨x, H1, I1, r1, q1⟩ => ?_)
  obtain ⟨a, xs, ex, hx, q⟩ := q1
  subst ex
  cases r1
  have hst : PO X (some (.Constant (.int 2) k p1)) (tPart (tC (.int 2))) := po_some pe_int
  refine wpAny_Slice (thn (po_none.run pins s1 σ H1 (fun o H2 => o = none ∧ H2 = H1) I1 ⟨rfl, rfl⟩) fun vl s2 ⟨l, H2, I2, pl, el, e2⟩ => ?_)
  subst el e2
  refine thn (po_none.run pins s2 σ H2 (fun o H3 => o = none ∧ H3 = H2) I2 ⟨rfl, rfl⟩) fun vu s3 ⟨u, H3, I3, pu, eu, e3⟩ => ?_
  subst eu e3
  refine thn (hst.run pins s3 σ H3 (fun o H4 => o = some 2 ∧ H4 = H3) I3 ⟨2, rfl, rfl, rfl⟩) fun vs s4 ⟨o, H4, I4, ps, eo, e4⟩ => ?_
  subst eo e4
  have I5 : Inv X pins σ H4 { s4 with heap := s4.heap.push { cls := .type "slice", data := .fields #[vl, vu, vs] } } := I4.kept (t' := s4.toks) fun b ob q => Heap.get?_push_of_some _ q
  obtain ⟨its, r, ht, hz⟩ := I5.list hx
  have hlen := r.length
  show wpAny (model X.prog X.w) X.A (subscriptTail e (.Slice none none (some (.Constant (.int 2) k p1)) p3) (.ref a) (.ref s4.heap.objs.size)) (EP X pins σ Q) X.xe { s4 with heap := s4.heap.push { cls := .type "slice", data := .fields #[vl, vu, vs] } }
  refine tail_any (ops := [.ref a, .ref s4.heap.objs.size]) ht.isList.typeIs (PySem.slot_list_getitem.lookup) ?_ (by with_unfolding_all rfl)
  refine wpAny_getItem_list_slice ht.isList (Heap.IsSliceOf.new _ vl vu vs) pl pu ps (by decide) ?_ (by rw [List.size_toArray]; omega)
  rw [pick_ev2]
  refine ⟨.ref _, _, I5.laid (t' := s4.toks) (o := .lst (ev2 xs)) (fun b ob q => Heap.get?_push_of_some _ q) (Nat.le_refl _) ?_, rfl, q _ (I5.hok.fresh (Nat.le_refl _))⟩
  exact ⟨Nat.le_trans (ev2_le xs) hz, _, 0, ev2_vals r, Heap.get?_push_size _ rfl⟩
def ev2LF : D → Option D
  | .lst ds => some (.lst (ev2 ds))
  | _ => none
section
variable {X : Cx} {B : Bd} {W : WX} {a : Expr} {f : Ev} {k : Nat} {p1 p3 pos : Pos}
theorem d_ev2L (ha : DE X B W a f) (hK : X.K = B.G.K := by rfl) : DF X B W (.Subscript a (.Slice none none (some (.Constant (.int 2) k p1)) p3) pos) (eOp1 ev2LF f) := by
  refine pe_imp (pe_ev2L ha) fun σ H Q h => ?_
  obtain ⟨fr, Hv, R, h⟩ := h
  refine ⟨fr, Hv, R, ?_⟩
  unfold eOp1 at h
  cases hf : f fr with
  | bad => rw [hf] at h; exact h.elim
  | exc c fs fr1 => rw [hf] at h; exact h
  | ok x fr1 =>
    rw [hf] at h
    dsimp only [Res.bind] at h
    intro vx H1 Hv1 n1 r1
    cases hx : look fr1 x with
    | none => rw [hx] at h; exact h.elim
    | some d =>
      rw [hx] at h
      dsimp only at h
      unfold ev2LF at h
      split at h
      · next ds =>
        obtain ⟨p, vs, rfl, q, r⟩ := n1.rel.list_of r1 hx
        exact ⟨p, vs, rfl, SqL.of q, fun t ht => lay_own n1.rel ht (ev2_rep r) fun p H' Hv' n hp q => h p H' Hv' (n1.trans n) (n1.none R hp) q⟩
      · exact h.elim
end
end KS
namespace KT
open PySem KS
/-- a value of any form, without owned slots -/
inductive DV where
  | non | bl (b : Bool) | int (i : Int) | str (x : Str)
  | tup (ds : List DV) | lst (ds : List DV) | scr (ns : List Int)
  | obj (c : Nat) (ns : List Nat) (fs : List DV)
  | dct (ks vs : List DV)
mutual
def toD : DV → D
  | .non => .non | .bl b => .bl b | .int i => .int i | .str x => .str x
  | .tup ds => .tup (toDs ds) | .lst ds => .lst (toDs ds) | .scr ns => .scr ns
  | .obj c ns fs => .obj c ns (toDs fs) | .dct ks vs => .dct (toDs ks) (toDs vs)
def toDs : List DV → List D
  | [] => []
  | d :: ds => toD d :: toDs ds
end
theorem toDs_eq : ∀ l : List DV, toDs l = l.map toD
  | [] => rfl
  | d :: ds => by rw [toDs, List.map_cons, toDs_eq ds]
theorem toDs_map {α : Type} (e : α → DV) (l : List α) : toDs (l.map e) = l.map fun a => toD (e a) := by
  rw [toDs_eq, List.map_map]; rfl
theorem toDs_length (l : List DV) : (toDs l).length = l.length := by rw [toDs_eq, List.length_map]
theorem pers_toD (v : DV) : pers (toD v) = true := by cases v <;> rfl
theorem look_toD (fr : Fr) (v : DV) : look fr (toD v) = some (toD v) := by cases v <;> rfl
theorem all_pers_toDs (l : List DV) : (toDs l).all pers = true := by
  rw [toDs_eq, List.all_map, List.all_eq_true]
  exact fun v _ => pers_toD v
theorem toDs_append (l m : List DV) : toDs (l ++ m) = toDs l ++ toDs m := by rw [toDs_eq, toDs_eq, toDs_eq, List.map_append]
theorem toDs_get (l : List DV) (i : Nat) : (toDs l)[i]? = (l[i]?).map toD := by rw [toDs_eq, List.getElem?_map]
/-- an end of a typed function: a value, an exception (class, fields, what the handed-in objects are then), or what is not told -/
inductive O (α : Type) where
  | ok (a : α) | exc (c : Nat) (fs : List DV) (st : List DV) | bad
namespace O
def bind {α β : Type} (t : O α) (k : α → O β) : O β := match t with
  | .ok a => k a
  | .exc c fs st => .exc c fs st
  | .bad => .bad
def lt {α β : Type} (a : α) (k : α → O β) : O β := k a
@[simp] theorem bind_ok {α β : Type} (a : α) (k : α → O β) : (O.ok a).bind k = k a := rfl
@[simp] theorem bind_exc {α β : Type} (c : Nat) (fs st : List DV) (k : α → O β) : (O.exc c fs st).bind k = .exc c fs st := rfl
@[simp] theorem bind_bad {α β : Type} (k : α → O β) : (O.bad : O α).bind k = .bad := rfl
@[simp] theorem lt_eq {α β : Type} (a : α) (k : α → O β) : O.lt a k = k a := rfl
def opt {α : Type} : Option α → O α
  | some a => .ok a
  | none => .bad
/-- a check -/
def ck {α : Type} (c : Prop) [Decidable c] (t : O α) : O α := if c then t else .bad
end O
/-- how a block ends inside a loop -/
inductive Fw (ρ σ : Type) where
  | nx (s : σ) | brk (s : σ) | ret (r : ρ)
def foldT {α σ : Type} (l : List α) (s : σ) (b : α → σ → O σ) : O σ := match l with
  | [] => .ok s
  | a :: l => (b a s).bind fun s => foldT l s b
def loopT {α ρ σ : Type} (l : List α) (s : σ) (b : α → σ → O (Fw ρ σ)) : O (Fw ρ σ) := match l with
  | [] => .ok (.nx s)
  | a :: l => (b a s).bind fun w => match w with
    | .nx s => loopT l s b
    | .brk s => .ok (.nx s)
    | .ret r => .ok (.ret r)
/-- behind a loop, at the def's own level -/
def O.aft {α ρ σ : Type} (t : O (Fw ρ σ)) (k : σ → O α) (r : ρ → O α) : O α := t.bind fun w => match w with
  | .nx s => k s
  | .brk s => k s
  | .ret x => r x
/-- a comprehension -/
def compT {α β σ : Type} (l : List α) (s : σ) (b : α → σ → O (Option β × σ)) : O (List β × σ) := match l with
  | [] => .ok ([], s)
  | a :: l => (b a s).bind fun p => (compT l p.2 b).bind fun q => .ok ((match p.1 with | some y => y :: q.1 | none => q.1), q.2)
@[reducible] def RfD {σ δ α : Type} (r : Res σ δ) (t : O α) (K : α → δ → σ → Prop) (KE : List DV → σ → Prop) : Prop := match t with
  | .ok a => ∃ d s, r = .ok d s ∧ K a d s
  | .exc c fs st => ∃ s, r = .exc c (toDs fs) s ∧ KE st s
  | .bad => True
structure Rf {σ δ α : Type} (r : Res σ δ) (t : O α) (K : α → δ → σ → Prop) (KE : List DV → σ → Prop) : Prop where
  h : RfD r t K KE
section
variable {σ δ δ' α β : Type} {KE : List DV → σ → Prop}
theorem Rf.ok {r : Res σ δ} {a : α} {K : α → δ → σ → Prop} {d : δ} {s : σ} (h : r = .ok d s) (k : K a d s) : Rf r (.ok a) K KE := ⟨d, s, h, k⟩
theorem Rf.bad {r : Res σ δ} {K : α → δ → σ → Prop} : Rf r .bad K KE := ⟨trivial⟩
theorem Rf.bind {r : Res σ δ} {t : O α} {K1 : α → δ → σ → Prop} {k : δ → σ → Res σ δ'} {tk : α → O β} {K : β → δ' → σ → Prop} (h : Rf r t K1 KE) (hk : ∀ a d s, K1 a d s → Rf (k d s) (tk a) K KE) : Rf (r.bind k) (t.bind tk) K KE := by
  cases t with
  | ok a => obtain ⟨d, s, e, q⟩ := h; rw [e]; exact hk a d s q
  | exc c fs st => obtain ⟨s, e, q⟩ := h; rw [e]; exact ⟨s, rfl, q⟩
  | bad => exact ⟨trivial⟩
theorem Rf.imp {r : Res σ δ} {t : O α} {K K' : α → δ → σ → Prop} (h : Rf r t K KE) (i : ∀ a d s, K a d s → K' a d s) : Rf r t K' KE := by
  cases t with
  | ok a => obtain ⟨d, s, e, q⟩ := h; exact ⟨d, s, e, i _ _ _ q⟩
  | exc c fs st => exact ⟨h.h⟩
  | bad => exact ⟨trivial⟩
theorem Rf.ck {r : Res σ δ} {t : O α} {K : α → δ → σ → Prop} {c : Prop} [Decidable c] (h : c → Rf r t K KE) : Rf r (O.ck c t) K KE := by
  unfold O.ck
  split
  · next hc => exact h hc
  · exact ⟨trivial⟩
theorem Rf.opt {r : Res σ δ} {o : Option α} {tk : α → O β} {K : β → δ → σ → Prop} (h : ∀ a, o = some a → Rf r (tk a) K KE) : Rf r ((O.opt o).bind tk) K KE := by
  cases o with
  | none => exact ⟨trivial⟩
  | some a => exact h a rfl
end
/-- the value v, handed over -/
def V (fr : Fr) (e : Ev) (v : DV) : Prop := e fr = .ok (toD v) fr
/-- the value v, or the object of a slot that bears it -/
def L (fr : Fr) (e : Ev) (v : DV) : Prop := ∃ x, e fr = .ok x fr ∧ look fr x = some (toD v)
def VB (fr : Fr) (t : Bv) (b : Bool) : Prop := t fr = .ok b fr
def VA (fr : Fr) (g : Av) (vs : List DV) : Prop := g fr = .ok (toDs vs) fr
def VI {α : Type} (fr : Fr) (h : Iv) (l : List α) (e : α → DV) (fr' : Fr) : Prop := h fr = .ok (l.map fun a => toD (e a)) fr'
section
variable {fr : Fr} {e f g : Ev} {v w z : DV} {t u : Bv} {a b : Bool}
theorem V.l (h : V fr e v) : L fr e v := ⟨_, h, look_toD fr v⟩
theorem v_var {i : Nat} (h : fr[i]? = some (some (toD v))) : V fr (eVar i) v := by
  unfold V eVar
  rw [h]
theorem l_pl {i : Nat} (h : fr[i]? = some (some (toD v))) (c : isCell (toD v) = true) : L fr (ePl i) v := by
  refine ⟨.var i, ?_, ?_⟩
  · unfold ePl
    rw [h]
    dsimp only
    rw [if_pos c]
  · unfold look
    dsimp only
    rw [h]
    dsimp only
    rw [if_pos c]
theorem v_fzB {i : Nat} (h : fr[i]? = some (some (.tup [toD v]))) : V fr (eFz i) v := by
  unfold V eFz
  rw [h]
  rfl
theorem v_cI {i : Int} : V fr (eC (.int i)) (.int i) := rfl
theorem v_cB {i : Bool} : V fr (eC (.bl i)) (.bl i) := rfl
theorem v_cS {i : Str} : V fr (eC (.str i)) (.str i) := rfl
theorem v_cN : V fr (eC .non) .non := rfl
/-- what an operation on values gives -/
def F1 (F : D → Option D) (v z : DV) : Prop := F (toD v) = some (toD z)
def F2 (F : D → D → Option D) (v w z : DV) : Prop := F (toD v) (toD w) = some (toD z)
theorem v_op1 {F : D → Option D} (hf : L fr f v) (h : F1 F v z) : V fr (eOp1 F f) z := by
  obtain ⟨x, h1, h2⟩ := hf
  unfold V eOp1
  rw [h1]
  show (match look fr x with | some a => ofO (F a) fr | _ => .bad) = _
  rw [h2]
  show ofO (F (toD v)) fr = _
  rw [h]
  rfl
theorem v_op2 {F : D → D → Option D} (hf : L fr f v) (hg : L fr g w) (h : F2 F v w z) : V fr (eOp2 F f g) z := by
  obtain ⟨x, h1, h2⟩ := hf
  obtain ⟨y, h3, h4⟩ := hg
  unfold V eOp2
  rw [h1]
  show ((g fr).bind fun y fr2 => match look fr2 x, look fr2 y with | some a, some b => ofO (F a b) fr2 | _, _ => .bad) = _
  rw [h3]
  show (match look fr x, look fr y with | some a, some b => ofO (F a b) fr | _, _ => .bad) = _
  rw [h2, h4]
  show ofO (F (toD v) (toD w)) fr = _
  rw [h]
  rfl
theorem vb_E (h : V fr e (.bl a)) : VB fr (bE e) a := by
  unfold VB bE
  rw [h]
  rfl
theorem vb_and (h : VB fr t a) (k : VB fr u b) : VB fr (bAnd t u) (a && b) := by
  unfold VB bAnd
  rw [h]
  cases a
  · rfl
  · exact k
theorem vb_or (h : VB fr t a) (k : VB fr u b) : VB fr (bOr t u) (a || b) := by
  unfold VB bOr
  rw [h]
  cases a
  · exact k
  · rfl
theorem vb_not (h : VB fr t a) : VB fr (bNot t) (!a) := by
  unfold VB bNot
  rw [h]
  rfl
theorem vb_tru (h : L fr e v) (k : truB (toD v) = some a) : VB fr (bTru e) a := by
  obtain ⟨x, h1, h2⟩ := h
  unfold VB bTru
  rw [h1]
  show (match look fr x with | some a => (match truB a with | some b => Res.ok b fr | none => Res.bad) | none => Res.bad) = _
  rw [h2]
  show (match truB (toD v) with | some b => Res.ok b fr | none => Res.bad) = _
  rw [k]
theorem v_not (h : V fr f (.bl a)) : V fr (eNot f) (.bl (!a)) := by
  unfold V eNot
  rw [h]
  rfl
theorem v_chain {F F' : D → D → Option D} {h : Ev} {y : DV} (hf : L fr f v) (hg : L fr g w) (hh : L fr h y) (h1 : F2 F v w (.bl a)) (h2 : F2 F' w y (.bl b)) : V fr (eChain F F' f g h) (.bl (a && b)) := by
  obtain ⟨x1, p1, q1⟩ := hf
  obtain ⟨x2, p2, q2⟩ := hg
  obtain ⟨x3, p3, q3⟩ := hh
  unfold V eChain
  rw [p1, Res.bind, p2, Res.bind, q1, q2]
  show (match F (toD v) (toD w) with
    | some (.bl true) => (h fr).bind fun z fr3 => match look fr3 x2, look fr3 z with
      | some b', some c => ofO (F' b' c) fr3
      | _, _ => .bad
    | some (.bl false) => .ok (.bl false) fr
    | _ => .bad) = _
  rw [show F (toD v) (toD w) = some (.bl a) from h1]
  cases a
  · rfl
  · show ((h fr).bind fun z fr3 => match look fr3 x2, look fr3 z with
      | some b', some c => ofO (F' b' c) fr3
      | _, _ => .bad) = _
    rw [p3, Res.bind, q2, q3]
    show ofO (F' (toD w) (toD y)) fr = _
    rw [h2]
    rfl
theorem va_nil : VA fr aNil [] := rfl
theorem va_cons {g : Av} {vs : List DV} (h : V fr e v) (k : VA fr g vs) : VA fr (aCons e g) (v :: vs) := by
  unfold VA aCons
  rw [h, Res.bind, k]
  rfl
theorem v_tup {g : Av} {vs : List DV} (h : VA fr g vs) (hl : Nat.ble vs.length 64 = true) : V fr (eTup g) (.tup vs) := by
  unfold V eTup
  rw [h, Res.bind, if_pos ⟨by rw [toDs_length]; exact Nat.le_trans (Nat.le_of_ble_eq_true hl) (by decide), all_pers_toDs vs⟩]
  rfl
theorem v_lst {g : Av} {vs : List DV} (h : VA fr g vs) (hl : Nat.ble vs.length 64 = true) : V fr (eLst g) (.lst vs) := by
  unfold V eLst
  rw [h, Res.bind, if_pos ⟨by rw [toDs_length]; exact Nat.le_trans (Nat.le_of_ble_eq_true hl) (by decide), all_pers_toDs vs⟩]
  rfl
end
end KT
namespace KT
open PySem KS
abbrev eI : Int → DV := .int
abbrev eB : Bool → DV := .bl
abbrev eS : Str → DV := .str
abbrev eU : Unit → DV := fun _ => .non
abbrev eY : DV → DV := fun v => v
abbrev eSc : List Int → DV := .scr
abbrev eL {α : Type} (e : α → DV) : List α → DV := fun l => .lst (l.map e)
abbrev eT {α : Type} (e : α → DV) : List α → DV := fun l => .tup (l.map e)
abbrev eP2 {α β : Type} (e : α → DV) (f : β → DV) : α × β → DV := fun p => .tup [e p.1, f p.2]
def eO {α : Type} (e : α → DV) : Option α → DV
  | none => .non
  | some a => e a
def mulC (i j : Int) : Prop := (-18446744073709551616 < i ∧ i < 18446744073709551616) ∨ (-18446744073709551616 < j ∧ j < 18446744073709551616)
instance (i j : Int) : Decidable (mulC i j) := by unfold mulC; infer_instance
def divC (j : Int) : Prop := 0 < j ∧ j < 1073741824
instance (j : Int) : Decidable (divC j) := by unfold divC; infer_instance
def powC (i j : Int) : Prop := 0 ≤ j ∧ j ≤ 1000000 ∧ i.natAbs < 2 ^ 64
instance (i j : Int) : Decidable (powC i j) := by unfold powC; infer_instance
theorem f_add {i j : Int} : F2 addF (.int i) (.int j) (.int (i + j)) := rfl
theorem f_sub {i j : Int} : F2 subF (.int i) (.int j) (.int (i - j)) := rfl
theorem f_mul {i j : Int} (h : mulC i j) : F2 mulF (.int i) (.int j) (.int (i * j)) := if_pos h
theorem mul_r {i j : Int} (h : decide (-18446744073709551616 < j ∧ j < 18446744073709551616) = true) : mulC i j := .inr (of_decide_eq_true h)
theorem mul_l {i j : Int} (h : decide (-18446744073709551616 < i ∧ i < 18446744073709551616) = true) : mulC i j := .inl (of_decide_eq_true h)
theorem f_div {i j : Int} (h : divC j) : F2 fdivF (.int i) (.int j) (.int (i / j)) := if_pos h
theorem f_mod {i j : Int} (h : 0 < j) : F2 modF (.int i) (.int j) (.int (i % j)) := if_pos h
theorem f_pow {i j : Int} (h : powC i j) : F2 powF (.int i) (.int j) (.int (i ^ j.toNat)) := if_pos h
theorem f_neg {i : Int} : F1 negF (.int i) (.int (-i)) := rfl
theorem f_abs {i : Int} : F1 absF (.int i) (.int (if i < 0 then -i else i)) := rfl
theorem f_int {i : Int} : F1 intF (.int i) (.int i) := rfl
theorem f_intB {b : Bool} : F1 intF (.bl b) (.int (if b = true then 1 else 0)) := rfl
theorem f_min2 {i j : Int} : F2 min2F (.int i) (.int j) (.int (if j < i then j else i)) := rfl
theorem f_le {i j : Int} : F2 leA (.int i) (.int j) (.bl (decide (i ≤ j))) := rfl
theorem f_gt {i j : Int} : F2 gtF (.int i) (.int j) (.bl (decide (j < i))) := rfl
theorem f_ge {i j : Int} : F2 geF (.int i) (.int j) (.bl (decide (j ≤ i))) := rfl
theorem f_isN {v : DV} : F2 isNF v .non (.bl (isNon (toD v))) := rfl
theorem f_isNO {α : Type} {e : α → DV} {o : Option α} (h : ∀ a, isNon (toD (e a)) = false) : F2 isNF (eO e o) .non (.bl o.isNone) := by
  cases o with
  | none => rfl
  | some a => show some (D.bl (isNon (toD (e a)))) = _; rw [h]; rfl
theorem f_isNnO {α : Type} {e : α → DV} {o : Option α} (h : ∀ a, isNon (toD (e a)) = false) : F2 notNF (eO e o) .non (.bl o.isSome) := by
  cases o with
  | none => rfl
  | some a => show some (D.bl (!isNon (toD (e a)))) = _; rw [h]; rfl
structure Dat {α : Type} [DecidableEq α] (e : α → DV) (n : Nat) where
  p : α → PyData
  py : ∀ a, pyOf (toD (e a)) = some (p a)
  cl : ∀ a, (p a).canLay0 = true
  dp : ∀ a, (p a).depth ≤ n
  eq : ∀ a b, PyData.eqv (p a) (p b) = decide (a = b)
def dat_I : Dat eI 0 := ⟨.int, fun _ => rfl, fun _ => by simp only [PyData.canLay0], fun _ => by simp only [PyData.depth]; exact Nat.le_refl 0, fun a b => by simp only [PyData.eqv]; rw [Bool.eq_iff_iff]; simp⟩
section
variable {α β : Type} [DecidableEq α] [DecidableEq β] {e : α → DV} {f : β → DV} {n m : Nat}
theorem pyOfL_eq (A : Dat e n) : ∀ l : List α, pyOfL (toDs (l.map e)) = some (l.map A.p)
  | [] => rfl
  | a :: l => by
    show (match pyOf (toD (e a)), pyOfL (toDs (l.map e)) with | some p, some ps => some (p :: ps) | _, _ => none) = _
    rw [A.py, pyOfL_eq A l]
    rfl
theorem layL (A : Dat e n) : ∀ l : List α, PyData.canLayAll0 (l.map A.p) = true
  | [] => by simp [PyData.canLayAll0]
  | a :: l => by simp [PyData.canLayAll0, A.cl a, layL A l]
theorem depL (A : Dat e n) : ∀ l : List α, PyData.depthAll (l.map A.p) ≤ n
  | [] => by simp [PyData.depthAll]
  | a :: l => by
    have h1 := A.dp a
    have h2 := depL A l
    simp only [List.map_cons, PyData.depthAll]
    omega
theorem eqvL (A : Dat e n) : ∀ l k : List α, PyData.eqvAll (l.map A.p) (k.map A.p) = decide (l = k)
  | [], [] => by simp [PyData.eqvAll]
  | [], b :: k => by simp [PyData.eqvAll]
  | a :: l, [] => by simp [PyData.eqvAll]
  | a :: l, b :: k => by
    simp only [List.map_cons, PyData.eqvAll, A.eq, eqvL A l k]
    rw [Bool.eq_iff_iff]
    simp
def dat_L (A : Dat e n) : Dat (eL e) (n + 1) := ⟨fun l => .list (l.map A.p), fun l => by
    show (pyOfL (toDs (l.map e))).map PyData.list = _
    rw [pyOfL_eq A]; rfl, fun l => by simp only [PyData.canLay0]; exact layL A l, fun l => by simp only [PyData.depth]; exact Nat.succ_le_succ (depL A l), fun l k => by simp only [PyData.eqv]; exact eqvL A l k⟩
def dat_T (A : Dat e n) : Dat (eT e) (n + 1) := ⟨fun l => .tuple (l.map A.p), fun l => by
    show (pyOfL (toDs (l.map e))).map PyData.tuple = _
    rw [pyOfL_eq A]; rfl, fun l => by simp only [PyData.canLay0]; exact layL A l, fun l => by simp only [PyData.depth]; exact Nat.succ_le_succ (depL A l), fun l k => by simp only [PyData.eqv]; exact eqvL A l k⟩
def dat_P (A : Dat e n) (B : Dat f m) : Dat (eP2 e f) (max n m + 1) := ⟨fun p => .tuple [A.p p.1, B.p p.2], fun p => by
    show (match pyOf (toD (e p.1)), (match pyOf (toD (f p.2)), some ([] : List PyData) with | some p, some ps => some (p :: ps) | _, _ => none) with | some p, some ps => some (p :: ps) | _, _ => none).map PyData.tuple = _
    rw [A.py, B.py]; rfl, fun p => by simp [PyData.canLay0, PyData.canLayAll0, A.cl, B.cl], fun p => by
    have h1 := A.dp p.1
    have h2 := B.dp p.2
    simp only [PyData.depth, PyData.depthAll]
    omega, fun p q => by
    simp only [PyData.eqv, PyData.eqvAll, A.eq, B.eq]
    rw [Bool.eq_iff_iff]
    simp [Prod.ext_iff]⟩
theorem shp (A : Dat e n) (hn : n ≤ 64) (a : α) : SeqAt.shaped (A.p a) = true := by
  unfold SeqAt.shaped
  rw [Bool.and_eq_true]
  exact ⟨A.cl a, decide_eq_true (Nat.le_trans (A.dp a) hn)⟩
theorem scal_none {v w : D} (h : (∃ ds, v = .tup ds) ∨ (∃ ds, v = .lst ds)) : scalE v w = none := by
  rcases h with ⟨ds, rfl⟩ | ⟨ds, rfl⟩ <;> cases w <;> rfl
theorem eqB_of (A : Dat e n) (hn : n ≤ 64) (h : ∀ a b, scalE (toD (e a)) (toD (e b)) = none ∨ scalE (toD (e a)) (toD (e b)) = some (decide (a = b))) (a b : α) : eqB (toD (e a)) (toD (e b)) = some (decide (a = b)) := by
  unfold eqB
  rcases h a b with q | q
  · rw [q, A.py, A.py]
    show (if (SeqAt.shaped (A.p a) && SeqAt.shaped (A.p b)) = true then some (PyData.eqv (A.p a) (A.p b)) else none) = _
    rw [shp A hn, shp A hn, A.eq]
    rfl
  · rw [q]
/-- == of values of one form -/
def Eqb (e : α → DV) : Prop := ∀ a b, eqB (toD (e a)) (toD (e b)) = some (decide (a = b))
theorem eqb_I : Eqb eI := fun _ _ => rfl
theorem eqb_S : Eqb eS := fun _ _ => rfl
theorem eqb_L (A : Dat e n) (hn : n + 1 ≤ 64) : Eqb (eL e) := eqB_of (dat_L A) hn fun a b => .inl (scal_none (.inr ⟨_, rfl⟩))
theorem f_eq (h : Eqb e) {a b : α} : F2 eqF (e a) (e b) (.bl (decide (a = b))) := by
  unfold F2 eqF
  rw [h]
  rfl
theorem f_ne (h : Eqb e) {a b : α} : F2 neF (e a) (e b) (.bl (!decide (a = b))) := by
  unfold F2 neF
  rw [h]
  rfl
/-- == of any values: what is told -/
def eqY (v w : DV) : Option Bool := eqB (toD v) (toD w)
theorem f_eqY {v w : DV} {k : Bool} (h : eqY v w = some k) : F2 eqF v w (.bl k) := by
  unfold F2 eqF
  rw [show eqB (toD v) (toD w) = some k from h]
  rfl
/-- membership, as == tells -/
def memT {α : Type} [DecidableEq α] (a : α) (l : List α) : Bool := l.any fun b => decide (b = a)
theorem memT_iff {α : Type} [DecidableEq α] {a : α} {l : List α} : memT a l = true ↔ a ∈ l := by
  unfold memT
  rw [List.any_eq_true]
  constructor
  · rintro ⟨b, h, e⟩
    rw [← of_decide_eq_true e]; exact h
  · intro h
    exact ⟨a, h, decide_eq_true rfl⟩
theorem any_eq (A : Dat e n) (a : α) : ∀ l : List α, ((l.map A.p).any fun z => PyData.eqv z (A.p a)) = memT a l
  | [] => rfl
  | b :: l => by
    rw [List.map_cons, List.any_cons, any_eq A a l, A.eq]; rfl
theorem inB_L (A : Dat e n) (hn : n + 1 ≤ 64) (a : α) (l : List α) : inB (toD (e a)) (toD (eL e l)) = some (memT a l) := by
  unfold inB
  rw [A.py, (dat_L A).py]
  show (if (SeqAt.shaped (A.p a) && SeqAt.shaped ((dat_L A).p l)) = true then some ((l.map A.p).any fun z => PyData.eqv z (A.p a)) else none) = _
  rw [shp A (by omega), shp (dat_L A) hn, any_eq A]
  rfl
theorem inA_L (A : Dat e n) (hn : n + 1 ≤ 64) {a : α} {l : List α} : inA (toD (e a)) (toD (eL e l)) = some (.bl (memT a l)) := by
  unfold inA orF inF
  rw [inB_L A hn]
  rfl
theorem f_in (A : Dat e n) (hn : n + 1 ≤ 64) {a : α} {l : List α} : F2 inA2 (e a) (eL e l) (.bl (memT a l)) := by
  unfold F2 inA2 orF
  rw [inA_L A hn]
  rfl
theorem f_nin (A : Dat e n) (hn : n + 1 ≤ 64) {a : α} {l : List α} : F2 notInA2 (e a) (eL e l) (.bl (!memT a l)) := by
  unfold F2 notInA2 orF notInF
  rw [inB_L A hn]
  rfl
theorem inTB_T (A : Dat e n) (hn : n + 1 ≤ 64) (a : α) (l : List α) : inTB (toD (e a)) (toD (eT e l)) = some (memT a l) := by
  unfold inTB
  rw [A.py, (dat_T A).py]
  show (if (SeqAt.shaped (A.p a) && SeqAt.shaped ((dat_T A).p l)) = true then some ((l.map A.p).any fun z => PyData.eqv z (A.p a)) else none) = _
  rw [shp A (by omega), shp (dat_T A) hn, any_eq A]
  rfl
theorem inB_T (A : Dat e n) (a : α) (l : List α) : inB (toD (e a)) (toD (eT e l)) = none := by
  unfold inB
  rw [A.py, (dat_T A).py]
  rfl
theorem f_inT (A : Dat e n) (hn : n + 1 ≤ 64) {a : α} {l : List α} : F2 inA2 (e a) (eT e l) (.bl (memT a l)) := by
  have h1 : inA (toD (e a)) (toD (eT e l)) = none := by
    unfold inA orF inF
    rw [inB_T A]
    show inSF (toD (e a)) (.tup _) = none
    cases toD (e a) <;> rfl
  unfold F2 inA2 orF
  rw [h1]
  show inTF _ _ = _
  unfold inTF
  rw [inTB_T A hn]
  rfl
end
section
variable {α β : Type} {e : α → DV} {f : β → DV}
theorem atI_m (g : α → D) (l : List α) (i : Int) : L2.atI (l.map g) i = (L2.atI l i).map g := atI_map g
theorem toDs_m (l : List α) : toDs (l.map e) = l.map fun a => toD (e a) := toDs_map e l
theorem f_ixL {l : List α} {i : Int} {a : α} (h : L2.atI l i = some a) : F2 ixF (eL e l) (.int i) (e a) := by
  show L2.atI (toDs (l.map e)) i = _
  rw [toDs_m, atI_m, h]; rfl
theorem f_ixT {l : List α} {i : Int} {a : α} (h : L2.atI l i = some a) : F2 ixF (eT e l) (.int i) (e a) := by
  show L2.atI (toDs (l.map e)) i = _
  rw [toDs_m, atI_m, h]; rfl
theorem f_ixS {l : List Int} {i a : Int} (h : L2.atI l i = some a) : F2 ixF (.scr l) (.int i) (.int a) := by
  show (L2.atI l i).map D.int = _
  rw [h]; rfl
theorem f_ixP {vs : List DV} {i : Int} {v : DV} (h : L2.atI vs i = some v) : F2 ixF (.tup vs) (.int i) v := by
  show L2.atI (toDs vs) i = _
  rw [toDs_eq, atI_m, h]; rfl
theorem f_lenL {l : List α} : F1 lenF (eL e l) (.int l.length) := by
  show some (D.int (toDs (l.map e)).length) = _
  rw [toDs_length, List.length_map]; rfl
theorem f_lenT {l : List α} : F1 lenF (eT e l) (.int l.length) := by
  show some (D.int (toDs (l.map e)).length) = _
  rw [toDs_length, List.length_map]; rfl
theorem f_lenS {l : List Int} : F1 lenF (.scr l) (.int l.length) := rfl
theorem f_lenX {x : Str} (h : x.length ≤ 16777216) : F1 lenF (.str x) (.int x.length) := by
  show (if x.length ≤ sizeLine then some (D.int x.length) else none) = _
  rw [if_pos (Nat.le_trans h (by decide))]; rfl
def catC {α : Type} (a b : List α) : Prop := a.length + b.length ≤ 16777216
instance (a b : List α) : Decidable (catC a b) := by unfold catC; infer_instance
theorem f_addT {a b : List α} (h : catC a b) : F2 addF (eT e a) (eT e b) (eT e (a ++ b)) := by
  show (if (toDs (a.map e)).length + (toDs (b.map e)).length ≤ sizeLine then some (D.tup (toDs (a.map e) ++ toDs (b.map e))) else none) = _
  rw [toDs_length, toDs_length, List.length_map, List.length_map, if_pos (Nat.le_trans h (by decide)), ← toDs_append, ← List.map_append]; rfl
theorem f_catL {a b : List α} (h : catC a b) : F2 catF (eL e a) (eL e b) (eL e (a ++ b)) := by
  show (if (toDs (a.map e)).length + (toDs (b.map e)).length ≤ sizeLine then some (D.lst (toDs (a.map e) ++ toDs (b.map e))) else none) = _
  rw [toDs_length, toDs_length, List.length_map, List.length_map, if_pos (Nat.le_trans h (by decide)), ← toDs_append, ← List.map_append]; rfl
theorem f_tupL {l : List α} : F1 tupF (eL e l) (eT e l) := rfl
theorem f_lstT {l : List α} : F1 lstF (eT e l) (eL e l) := rfl
theorem bls_m : ∀ l : List Bool, blsOf (toDs (l.map eB)) = some l
  | [] => rfl
  | b :: l => by
    show (blsOf (toDs (l.map eB))).map (b :: ·) = _
    rw [bls_m l]; rfl
theorem ints_m : ∀ l : List Int, intsOf (toDs (l.map eI)) = some l
  | [] => rfl
  | b :: l => by
    show (intsOf (toDs (l.map eI))).map (b :: ·) = _
    rw [ints_m l]; rfl
theorem f_all {l : List Bool} : F1 allF (eL eB l) (.bl (l.all id)) := by
  show (blsOf (toDs (l.map eB))).map (fun bs => D.bl (bs.all id)) = _
  rw [bls_m]; rfl
theorem tru_I {i : Int} : truB (toD (.int i)) = some (i != 0) := rfl
theorem tru_B {b : Bool} : truB (toD (.bl b)) = some b := rfl
/-- a cut -/
def cutT {α : Type} (l : List α) (lo hi : Option Int) : List α := cutD l lo hi
theorem vi_L {fr : Fr} {g : Ev} {l : List α} (h : V fr g (eL e l)) : VI fr (iVal g) l e fr := by
  unfold VI iVal
  rw [h, Res.bind, if_pos (pers_toD _)]
  show Res.ok (toDs (l.map e)) fr = _
  rw [toDs_m]
theorem vi_T {fr : Fr} {g : Ev} {l : List α} (h : V fr g (eT e l)) : VI fr (iVal g) l e fr := by
  unfold VI iVal
  rw [h, Res.bind, if_pos (pers_toD _)]
  show Res.ok (toDs (l.map e)) fr = _
  rw [toDs_m]
def rngT (i : Int) (n : Int) : List Int := (List.range (n - i).toNat).map fun (k : Nat) => i + (k : Int)
def okR (j : Int) : Prop := -4611686018427387904 ≤ j ∧ j < 4611686018427387904
instance (j : Int) : Decidable (okR j) := by unfold okR; infer_instance
theorem okI_of {j : Int} (h : okR j) : okI j = true := decide_eq_true h
theorem rangeD_eq (i : Int) (n : Int) : rangeD i (n - i).toNat = (rngT i n).map fun a => toD (eI a) := by
  unfold rangeD rngT
  rw [List.map_map]; rfl
theorem vi_rg1 {fr : Fr} {g : Ev} {n : Int} (h : L fr g (.int n)) (c : okR n) : VI fr (iRg1 g) (rngT 0 n) eI fr := by
  obtain ⟨x, p, q⟩ := h
  unfold VI iRg1
  rw [p, Res.bind, q, ← rangeD_eq]
  show (if okI n = true then Res.ok (rangeD 0 n.toNat) fr else Res.bad) = _
  rw [if_pos (okI_of c), Int.sub_zero]
theorem vi_rg2 {fr : Fr} {g h : Ev} {i n : Int} (hg : L fr g (.int i)) (hh : L fr h (.int n)) (c1 : okR i) (c2 : okR n) : VI fr (iRg2 g h) (rngT i n) eI fr := by
  obtain ⟨x, p, q⟩ := hg
  obtain ⟨y, p2, q2⟩ := hh
  unfold VI iRg2
  rw [p, Res.bind, p2, Res.bind, q, q2, ← rangeD_eq]
  show (if okI i = true then (if okI n = true then Res.ok (rangeD i (n - i).toNat) fr else Res.bad) else Res.bad) = _
  rw [if_pos (okI_of c1), if_pos (okI_of c2)]
def enumT {α : Type} (l : List α) : List (Int × α) := l.zipIdx.map fun p => ((p.2 : Int), p.1)
theorem iota_eq (l : List α) : iotaD (l.map fun a => toD (e a)) = (enumT l).map fun p => toD (eP2 eI e p) := by
  unfold iotaD enumT
  rw [List.zipIdx_map, List.map_map, List.map_map]; rfl
theorem vi_enL {fr : Fr} {g : Ev} {l : List α} (h : V fr g (eL e l)) : VI fr (iEn g) (enumT l) (eP2 eI e) fr := by
  unfold VI iEn
  rw [h, Res.bind, if_pos (pers_toD _)]
  show Res.ok (iotaD (toDs (l.map e))) fr = _
  rw [toDs_m, iota_eq]
theorem vi_enT {fr : Fr} {g : Ev} {l : List α} (h : V fr g (eT e l)) : VI fr (iEn g) (enumT l) (eP2 eI e) fr := by
  unfold VI iEn
  rw [h, Res.bind, if_pos (pers_toD _)]
  show Res.ok (iotaD (toDs (l.map e))) fr = _
  rw [toDs_m, iota_eq]
end
end KT
namespace KT
open PySem KS
section
variable {β δ : Type} {K : β → δ → Fr → Prop} {KE : List DV → Fr → Prop} {fr fr1 : Fr} {t : O β}
variable {e f g : Ev} {k : D → Fr → Res Fr δ} {v w z : DV}
theorem x_v (h : V fr e v) (q : Rf (k (toD v) fr) t K KE) : Rf ((e fr).bind k) t K KE := by rw [h]; exact q
def kOp1 (F : D → Option D) (k : D → Fr → Res Fr δ) : D → Fr → Res Fr δ := fun x fr1 => (match look fr1 x with
  | some a => ofO (F a) fr1
  | _ => .bad).bind k
theorem x_op1 {F : D → Option D} (q : Rf ((f fr).bind (kOp1 F k)) t K KE) : Rf ((eOp1 F f fr).bind k) t K KE := by
  unfold eOp1
  cases h : f fr with
  | ok x fr1 => rw [h] at q; exact q
  | exc c fs fr1 => rw [h] at q; exact q
  | bad => rw [h] at q; exact q
theorem k_op1 {F : D → Option D} (h : F1 F v z) (q : Rf (k (toD z) fr) t K KE) : Rf (kOp1 F k (toD v) fr) t K KE := by
  unfold kOp1
  rw [look_toD]
  show Rf ((ofO (F (toD v)) fr).bind k) t K KE
  rw [h]; exact q
def kOp2b (F : D → D → Option D) (x : D) (k : D → Fr → Res Fr δ) : D → Fr → Res Fr δ := fun y fr2 => (match look fr2 x, look fr2 y with
  | some a, some b => ofO (F a b) fr2
  | _, _ => .bad).bind k
def kOp2a (F : D → D → Option D) (g : Ev) (k : D → Fr → Res Fr δ) : D → Fr → Res Fr δ := fun x fr1 => (g fr1).bind (kOp2b F x k)
theorem x_op2 {F : D → D → Option D} (q : Rf ((f fr).bind (kOp2a F g k)) t K KE) : Rf ((eOp2 F f g fr).bind k) t K KE := by
  unfold eOp2
  cases h : f fr with
  | ok x fr1 =>
    rw [h] at q
    have q : Rf ((g fr1).bind (kOp2b F x k)) t K KE := q
    show Rf (((g fr1).bind fun y fr2 => match look fr2 x, look fr2 y with | some a, some b => ofO (F a b) fr2 | _, _ => .bad).bind k) t K KE
    cases h2 : g fr1 with
    | ok y fr2 => rw [h2] at q; exact q
    | exc c fs fr1 => rw [h2] at q; exact q
    | bad => rw [h2] at q; exact q
  | exc c fs fr1 => rw [h] at q; exact q
  | bad => rw [h] at q; exact q
theorem k_op2b {F : D → D → Option D} {x : D} (hx : look fr x = some (toD v)) (h : F2 F v w z) (q : Rf (k (toD z) fr) t K KE) : Rf (kOp2b F x k (toD w) fr) t K KE := by
  unfold kOp2b
  rw [hx, look_toD]
  show Rf ((ofO (F (toD v) (toD w)) fr).bind k) t K KE
  rw [h]; exact q
/-- left value, right a doing -/
theorem x_op2r {F : D → D → Option D} (h : V fr f v) (q : Rf ((g fr).bind (kOp2b F (toD v) k)) t K KE) : Rf ((eOp2 F f g fr).bind k) t K KE := x_op2 (x_v h q)
variable {u u2 : Bv} {kb : Bool → Fr → Res Fr δ}
theorem x_vb {b : Bool} (h : VB fr u b) (q : Rf (kb b fr) t K KE) : Rf ((u fr).bind kb) t K KE := by rw [h]; exact q
def kE (kb : Bool → Fr → Res Fr δ) : D → Fr → Res Fr δ := fun d fr1 => (match d with
  | .bl b => Res.ok b fr1
  | _ => Res.bad).bind kb
theorem x_bE (q : Rf ((e fr).bind (kE kb)) t K KE) : Rf ((bE e fr).bind kb) t K KE := by
  unfold bE
  cases h : e fr with
  | ok x fr1 => rw [h] at q; exact q
  | exc c fs fr1 => rw [h] at q; exact q
  | bad => rw [h] at q; exact q
theorem k_E {b : Bool} (q : Rf (kb b fr) t K KE) : Rf (kE kb (toD (.bl b)) fr) t K KE := q
theorem x_not (q : Rf ((u fr).bind fun b fr1 => kb (!b) fr1) t K KE) : Rf ((bNot u fr).bind kb) t K KE := by
  unfold bNot
  cases h : u fr with
  | ok x fr1 => rw [h] at q; exact q
  | exc c fs fr1 => rw [h] at q; exact q
  | bad => rw [h] at q; exact q
/-- a test's end, joined -/
abbrev KB {σ : Type} (F : σ → Fr) : Bool × σ → Bool → Fr → Prop := fun p b fr => b = p.1 ∧ fr = F p.2
theorem x_tail {α : Type} {r : Res Fr α} {K : β → α → Fr → Prop} (q : Rf (r.bind fun d s => .ok d s) t K KE) : Rf r t K KE := by
  cases r with
  | ok x fr1 => exact q
  | exc c fs fr1 => exact q
  | bad => exact q
theorem x_and {σ : Type} {F : σ → Fr} {a : Bool} {s : σ} {tb : O (Bool × σ)} (h : VB fr u a) (hs : fr = F s) (q : a = true → Rf (u2 fr) tb (KB F) KE) : Rf (bAnd u u2 fr) (if a = true then tb else .ok (false, s)) (KB F) KE := by
  unfold bAnd
  rw [h]
  cases a
  · exact ⟨false, fr, rfl, rfl, hs⟩
  · exact q rfl
theorem x_or {σ : Type} {F : σ → Fr} {a : Bool} {s : σ} {tb : O (Bool × σ)} (h : VB fr u a) (hs : fr = F s) (q : a = false → Rf (u2 fr) tb (KB F) KE) : Rf (bOr u u2 fr) (if a = true then .ok (true, s) else tb) (KB F) KE := by
  unfold bOr
  rw [h]
  cases a
  · exact q rfl
  · exact ⟨true, fr, rfl, rfl, hs⟩
theorem x_join {σ : Type} {F : σ → Fr} {tb : O (Bool × σ)} {tk : Bool × σ → O β} (h : Rf (u fr) tb (KB F) KE) (q : ∀ p, Rf (kb p.1 (F p.2)) (tk p) K KE) : Rf ((u fr).bind kb) (tb.bind tk) K KE :=
  Rf.bind h fun p b fr1 hp => by obtain ⟨rfl, rfl⟩ := hp; exact q p
theorem kb_ok {σ : Type} {F : σ → Fr} {b : Bool} {s : σ} (hs : fr = F s) : Rf (Res.ok (σ := Fr) b fr) (.ok (b, s)) (KB F) KE := ⟨b, fr, rfl, rfl, hs⟩
abbrev KV {α : Type} (e : α → DV) (F : α → Fr) : α → D → Fr → Prop := fun a d fr => d = toD (e a) ∧ fr = F a
theorem x_joinV {α : Type} {E : α → DV} {F : α → Fr} {ta : O α} {tk : α → O β} (h : Rf (e fr) ta (KV E F) KE) (q : ∀ a, Rf (k (toD (E a)) (F a)) (tk a) K KE) : Rf ((e fr).bind k) (ta.bind tk) K KE :=
  Rf.bind h fun p b fr1 hp => by obtain ⟨rfl, rfl⟩ := hp; exact q p
theorem kv_ok {α : Type} {E : α → DV} {F : α → Fr} {a : α} {v : DV} (hv : v = E a) (hs : fr = F a) : Rf (Res.ok (σ := Fr) (toD v) fr) (.ok a) (KV E F) KE := ⟨_, fr, rfl, by rw [hv], hs⟩
def kA (es : Av) (ka : List D → Fr → Res Fr δ) : D → Fr → Res Fr δ := fun d fr1 => (es fr1).bind fun ds fr2 => ka (d :: ds) fr2
theorem x_cons {es : Av} {ka : List D → Fr → Res Fr δ} (q : Rf ((e fr).bind (kA es ka)) t K KE) : Rf ((aCons e es fr).bind ka) t K KE := by
  unfold aCons
  cases h : e fr with
  | ok x fr1 =>
    rw [h] at q
    have q : Rf ((es fr1).bind fun ds fr2 => ka (x :: ds) fr2) t K KE := q
    show Rf (((es fr1).bind fun ds fr2 => Res.ok (x :: ds) fr2).bind ka) t K KE
    cases h2 : es fr1 with
    | ok y fr2 => rw [h2] at q; exact q
    | exc c fs fr1 => rw [h2] at q; exact q
    | bad => rw [h2] at q; exact q
  | exc c fs fr1 => rw [h] at q; exact q
  | bad => rw [h] at q; exact q
theorem k_A {es : Av} {ka : List D → Fr → Res Fr δ} {d : D} (q : Rf ((es fr).bind fun ds fr2 => ka (d :: ds) fr2) t K KE) : Rf (kA es ka d fr) t K KE := q
theorem x_nil {ka : List D → Fr → Res Fr δ} (q : Rf (ka [] fr) t K KE) : Rf ((aNil fr).bind ka) t K KE := q
theorem x_va {es : Av} {vs : List DV} {ka : List D → Fr → Res Fr δ} (h : VA fr es vs) (q : Rf (ka (toDs vs) fr) t K KE) : Rf ((es fr).bind ka) t K KE := by rw [h]; exact q
def kTup (k : D → Fr → Res Fr δ) : List D → Fr → Res Fr δ := fun ds fr1 => if ds.length ≤ sizeLine ∧ ds.all pers = true then k (.tup ds) fr1 else .bad
theorem x_tup {es : Av} (q : Rf ((es fr).bind (kTup k)) t K KE) : Rf ((eTup es fr).bind k) t K KE := by
  unfold eTup
  cases h : es fr with
  | ok x fr1 =>
    rw [h] at q
    have q : Rf (if x.length ≤ sizeLine ∧ x.all pers = true then k (.tup x) fr1 else .bad) t K KE := q
    show Rf ((if x.length ≤ sizeLine ∧ x.all pers = true then Res.ok (D.tup x) fr1 else Res.bad).bind k) t K KE
    split
    · next c => rw [if_pos c] at q; exact q
    · next c => rw [if_neg c] at q; exact q
  | exc c fs fr1 => rw [h] at q; exact q
  | bad => rw [h] at q; exact q
theorem k_tup {vs : List DV} (hl : Nat.ble vs.length 64 = true) (q : Rf (k (toD (.tup vs)) fr) t K KE) : Rf (kTup k (toDs vs) fr) t K KE := by
  unfold kTup
  rw [if_pos ⟨by rw [toDs_length]; exact Nat.le_trans (Nat.le_of_ble_eq_true hl) (by decide), all_pers_toDs vs⟩]
  exact q
def kCall (ms : List Bool) (F : Fn) (k : D → Fr → Res Fr δ) : List D → Fr → Res Fr δ := fun ds fr1 => (match argC fr1 ms ds with
  | none => Res.bad
  | some cs => if (ioV ms ds).Nodup then (match F cs with
    | .ok d outs => if outs.length = ms.length then .ok d (setP fr1 (ioP ms ds outs)) else .bad
    | .exc c fs outs => if outs.length = ms.length then .exc c fs (setP fr1 (ioP ms ds outs)) else .bad
    | .bad => .bad) else .bad).bind k
theorem x_call {ms : List Bool} {F : Fn} {es : Av} (q : Rf ((es fr).bind (kCall ms F k)) t K KE) : Rf ((eCall ms F es fr).bind k) t K KE := by
  unfold eCall
  cases h : es fr with
  | ok x fr1 => rw [h] at q; exact q
  | exc c fs fr1 => rw [h] at q; exact q
  | bad => rw [h] at q; exact q
/-- what a def does, told: its value, what the handed-in objects are then -/
abbrev KF {α : Type} (e : α → DV) (n : Nat) (os : α → List (Nat × DV)) : α → D → List D → Prop := fun a d outs => d = toD (e a) ∧ outs.length = n ∧ ∀ p ∈ os a, outs[p.1]? = some (toD p.2)
abbrev KX (n : Nat) (os : List DV → List (Nat × DV)) : List DV → List D → Prop := fun st outs => outs.length = n ∧ ∀ p ∈ os st, outs[p.1]? = some (toD p.2)
def falses (n : Nat) : List Bool := List.replicate n false
theorem argC_vals {fr : Fr} : ∀ vs : List DV, argC fr (falses vs.length) (toDs vs) = some (toDs vs)
  | [] => rfl
  | v :: vs => by
    show (if pers (toD v) = true then (argC fr (falses vs.length) (toDs vs)).map (toD v :: ·) else none) = _
    rw [if_pos (pers_toD v), argC_vals vs]; rfl
theorem ioV_vals : ∀ vs : List DV, ioV (falses vs.length) (toDs vs) = []
  | [] => rfl
  | v :: vs => by
    have := ioV_vals vs
    cases v <;> exact this
theorem ioP_vals : ∀ (vs : List DV) (os : List D), ioP (falses vs.length) (toDs vs) os = []
  | [], os => by cases os <;> rfl
  | v :: vs, [] => by cases v <;> rfl
  | v :: vs, o :: os => by
    have := ioP_vals vs os
    cases v <;> exact this
/-- a call with values alone -/
theorem k_call {α : Type} {F : Fn} {vs : List DV} {E : α → DV} {ta : O α} {tk : α → O β} {ms : List Bool} {n : Nat} {os : α → List (Nat × DV)} {ox : List DV → List (Nat × DV)} (hF : Rf (F (toDs vs)) ta (KF E n os) (KX n ox)) (hm : ms = falses vs.length) (hn : n = vs.length) (hE : ∀ c fs st, ta = .exc c fs st → KE st fr)
    (q : ∀ a, Rf (k (toD (E a)) fr) (tk a) K KE) : Rf (kCall ms F k (toDs vs) fr) (ta.bind tk) K KE := by
  subst hm hn
  unfold kCall
  rw [argC_vals]
  dsimp only
  rw [if_pos (by rw [ioV_vals]; exact List.nodup_nil)]
  cases ta with
  | bad => exact ⟨trivial⟩
  | ok a =>
    obtain ⟨d, outs, e, rfl, hl, _⟩ := hF
    rw [e]
    dsimp only
    rw [if_pos (by rw [hl]; simp [falses]), ioP_vals]
    exact q a
  | exc c fs st =>
    obtain ⟨outs, e, hl, _⟩ := hF
    rw [e]
    dsimp only
    rw [if_pos (by rw [hl]; simp [falses]), ioP_vals]
    exact ⟨fr, rfl, hE c fs st rfl⟩
/-- a call that is only looked at -/
theorem v_call {fr : Fr} {α : Type} {F : Fn} {vs : List DV} {E : α → DV} {ta : O α} {es : Av} {ms : List Bool} {n : Nat} {os : α → List (Nat × DV)} {ox : List DV → List (Nat × DV)} {a : α} (hF : Rf (F (toDs vs)) ta (KF E n os) (KX n ox)) (ha : ta = .ok a) (hm : ms = falses vs.length) (hn : n = vs.length) (h : VA fr es vs) : V fr (eCall ms F es) (E a) := by
  have q := x_call (K := KV E fun _ => fr) (KE := fun _ _ => True) (k := fun d s => Res.ok d s) (x_va h (k_call (tk := O.ok) hF hm hn (fun _ _ _ _ => trivial) fun a => ⟨_, _, rfl, rfl, rfl⟩))
  subst ha
  obtain ⟨d, s, e, rfl, hs⟩ := q
  have hs : s = fr := hs
  rw [hs] at e
  unfold V
  cases h2 : eCall ms F es fr with
  | ok x fr1 => rw [h2] at e; exact e
  | exc c fs fr1 => rw [h2] at e; cases e
  | bad => rw [h2] at e; cases e
/-- a call whose doing is left out where it raises -/
def O.no {α : Type} (t : O α) : O α := match t with
  | .ok a => .ok a
  | _ => .bad
theorem Rf.no {α σ δ : Type} {r : Res σ δ} {ta : O α} {tk : α → O β} {K : β → δ → σ → Prop} {KE : List DV → σ → Prop} (h : ∀ a, ta = .ok a → Rf r (tk a) K KE) : Rf r (ta.no.bind tk) K KE := by
  cases ta with
  | ok a => exact h a rfl
  | exc c fs st => exact ⟨trivial⟩
  | bad => exact ⟨trivial⟩
end
end KT
namespace KT
open PySem KS
section
variable {β σ ρ : Type} {K : β → Fl → Fr → Prop} {KE : List DV → Fr → Prop} {fr fr1 : Fr} {t : O β} {b g h : Sv} {e f : Ev} {v w z : DV}
def kQ (b : Sv) : Fl → Fr → Res Fr Fl := fun fl fr1 => match fl with
  | .nx => b fr1
  | fl => .ok fl fr1
theorem s_nx (q : Rf (b fr) t K KE) : Rf (sSeq sNx b fr) t K KE := q
/-- the last statement of a suite stands ahead of nothing -/
theorem s_end (q : K a .nx fr) : Rf (sNx fr) (.ok a) K KE := ⟨_, _, rfl, q⟩
def kX (b : Sv) : D → Fr → Res Fr Fl := fun _ fr1 => b fr1
theorem s_x (q : Rf ((e fr).bind (kX b)) t K KE) : Rf (sSeq (sX e) b fr) t K KE := by
  unfold sSeq sX
  cases h : e fr with
  | ok x fr1 => rw [h] at q; exact q
  | exc c fs fr1 => rw [h] at q; exact q
  | bad => rw [h] at q; exact q
theorem k_X {d : D} (q : Rf (b fr) t K KE) : Rf (kX b d fr) t K KE := q
def kSet (i : Nat) (b : Sv) : D → Fr → Res Fr Fl := fun d fr1 => if pers d = true then b (fr1.set i (some d)) else .bad
theorem s_set {i : Nat} (q : Rf ((e fr).bind (kSet i b)) t K KE) : Rf (sSeq (sSet i e) b fr) t K KE := by
  unfold sSeq sSet
  cases h : e fr with
  | ok x fr1 =>
    rw [h] at q
    have q : Rf (if pers x = true then b (fr1.set i (some x)) else .bad) t K KE := q
    show Rf ((if pers x = true then Res.ok Fl.nx (fr1.set i (some x)) else Res.bad).bind _) t K KE
    split
    · next c => rw [if_pos c] at q; exact q
    · next c => rw [if_neg c] at q; exact q
  | exc c fs fr1 => rw [h] at q; exact q
  | bad => rw [h] at q; exact q
theorem k_Set {i : Nat} {fr' : Fr} (hf : fr.set i (some (toD v)) = fr') (q : Rf (b fr') t K KE) : Rf (kSet i b (toD v) fr) t K KE := by
  unfold kSet
  rw [if_pos (pers_toD v), hf]
  exact q
/-- .. under a name -/
theorem k_SetN {α : Type} {E : α → DV} {a : α} {tk : α → O β} {i : Nat} {fr' : α → Fr} (hf : ∀ x, fr.set i (some (toD (E x))) = fr' x) (q : ∀ x, Rf (b (fr' x)) (tk x) K KE) : Rf (kSet i b (toD (E a)) fr) (O.lt a tk) K KE := k_Set (hf a) (q a)
def kSetF (i : Nat) (b : Sv) : D → Fr → Res Fr Fl := fun d fr1 => b (fr1.set i (some d))
theorem s_setF {i : Nat} (q : Rf ((e fr).bind (kSetF i b)) t K KE) : Rf (sSeq (sSetF i e) b fr) t K KE := by
  unfold sSeq sSetF
  cases h : e fr with
  | ok x fr1 => rw [h] at q; exact q
  | exc c fs fr1 => rw [h] at q; exact q
  | bad => rw [h] at q; exact q
theorem k_SetF {i : Nat} {d : D} {fr' : Fr} (hf : fr.set i (some d) = fr') (q : Rf (b fr') t K KE) : Rf (kSetF i b d fr) t K KE := by subst hf; exact q
theorem k_SetFN {α : Type} {E : α → DV} {a : α} {tk : α → O β} {i : Nat} {fr' : α → Fr} (hf : ∀ x, fr.set i (some (toD (E x))) = fr' x) (q : ∀ x, Rf (b (fr' x)) (tk x) K KE) : Rf (kSetF i b (toD (E a)) fr) (O.lt a tk) K KE := by
  have := q a
  rw [← hf] at this
  exact this
def kRet : D → Fr → Res Fr Fl := fun d fr1 => if pers d = true then .ok (.ret d) fr1 else .bad
theorem s_ret (q : Rf ((e fr).bind kRet) t K KE) : Rf (sSeq (sRet e) b fr) t K KE := by
  unfold sSeq sRet
  cases h : e fr with
  | ok x fr1 =>
    rw [h] at q
    have q : Rf (if pers x = true then Res.ok (Fl.ret x) fr1 else .bad) t K KE := q
    show Rf ((if pers x = true then Res.ok (Fl.ret x) fr1 else Res.bad).bind _) t K KE
    split
    · next c => rw [if_pos c] at q; exact q
    · next c => rw [if_neg c] at q; exact q
  | exc c fs fr1 => rw [h] at q; exact q
  | bad => rw [h] at q; exact q
theorem k_Ret {a : β} (q : K a (.ret (toD v)) fr) : Rf (kRet (toD v) fr) (.ok a) K KE := by
  unfold kRet
  rw [if_pos (pers_toD v)]
  exact ⟨_, _, rfl, q⟩
theorem s_brk {a : β} (q : K a .brk fr) : Rf (sSeq sBrk b fr) (.ok a) K KE := ⟨_, _, rfl, q⟩
theorem s_raise {c n : Nat} {es : Av} {vs : List DV} {st : List DV} (h : VA fr es vs) (hn : n = vs.length) (q : KE st fr) : Rf (sSeq (sRaise c n es) b fr) (.exc c vs st) K KE := by
  refine ⟨fr, ?_, q⟩
  unfold sSeq sRaise
  rw [h, Res.bind, if_pos ⟨all_pers_toDs vs, by rw [toDs_length, hn]⟩]
  rfl
theorem seq_assoc (a b c : Sv) : sSeq (sSeq a b) c = sSeq a (sSeq b c) := by
  funext fr
  unfold sSeq
  cases a fr with
  | ok fl fr1 => cases fl <;> rfl
  | exc c fs fr1 => rfl
  | bad => rfl
variable {u : Bv} {a : Bool}
theorem s_seqE {g b c : Sv} (q : Rf (sSeq g (sSeq b c) fr) t K KE) : Rf (sSeq (sSeq g b) c fr) t K KE := by rw [seq_assoc]; exact q
def kIf (g h : Sv) (b : Sv) : Bool → Fr → Res Fr Fl := fun a fr1 => if a = true then sSeq g b fr1 else sSeq h b fr1
theorem s_ifX {h : Sv} (q : Rf ((u fr).bind (kIf g h b)) t K KE) : Rf (sSeq (sIf u g h) b fr) t K KE := by
  unfold sSeq sIf
  cases hu : u fr with
  | ok x fr1 =>
    rw [hu] at q
    have q : Rf (if x = true then sSeq g b fr1 else sSeq h b fr1) t K KE := q
    cases x
    · exact q
    · exact q
  | exc c fs fr1 => rw [hu] at q; exact q
  | bad => rw [hu] at q; exact q
theorem k_If {h : Sv} {ta tb : O β} (p : Rf (sSeq g b fr) ta K KE) (q : Rf (sSeq h b fr) tb K KE) : Rf (kIf g h b a fr) (if a = true then ta else tb) K KE := by
  unfold kIf
  cases a
  · exact q
  · exact p
/-- both ways run through, and meet -/
abbrev KN (F : σ → Fr) : σ → Fl → Fr → Prop := fun s fl fr => fl = .nx ∧ fr = F s
theorem s_if {F : σ → Fr} {h : Sv} {ta tb : O σ} {tk : σ → O β} {js : List Bool} (hu : VB fr u a) (p : Rf (g fr) ta (fun s fl fr => fl = .nx ∧ killF fr js = F s) KE) (q : Rf (h fr) tb (fun s fl fr => fl = .nx ∧ killF fr js = F s) KE) (r : ∀ s, Rf (b (F s)) (tk s) K KE) :
    Rf (sSeq (sKn js (sIf u g h)) b fr) ((if a = true then ta else tb).bind tk) K KE := by
  have m : Rf (sKn js (sIf u g h) fr) (if a = true then ta else tb) (KN F) KE := by
    unfold sKn sIf
    rw [hu]
    cases a
    · rw [if_neg Bool.false_ne_true]
      have : Rf (h fr) tb (fun s fl fr => fl = .nx ∧ killF fr js = F s) KE := q
      show Rf ((h fr).bind _) tb (KN F) KE
      cases tb with
      | bad => exact ⟨trivial⟩
      | exc c fs st => obtain ⟨s, e, z⟩ := this; rw [e]; exact ⟨s, rfl, z⟩
      | ok s => obtain ⟨fl, fr2, e, rfl, z⟩ := this; rw [e]; exact ⟨.nx, _, rfl, rfl, z⟩
    · rw [if_pos rfl]
      have : Rf (g fr) ta (fun s fl fr => fl = .nx ∧ killF fr js = F s) KE := p
      show Rf ((g fr).bind _) ta (KN F) KE
      cases ta with
      | bad => exact ⟨trivial⟩
      | exc c fs st => obtain ⟨s, e, z⟩ := this; rw [e]; exact ⟨s, rfl, z⟩
      | ok s => obtain ⟨fl, fr2, e, rfl, z⟩ := this; rw [e]; exact ⟨.nx, _, rfl, rfl, z⟩
  refine Rf.bind (K1 := KN F) m fun s fl fr2 hs => ?_
  obtain ⟨rfl, rfl⟩ := hs
  exact r s
/-- .. behind a test that does something -/
theorem s_ifXJ {τ : Type} {G : τ → Fr} {F : σ → Fr} {h : Sv} {tt : O (Bool × τ)} {ta : τ → O σ} {tb : τ → O σ} {tk : σ → O β} {js : List Bool} (hu : Rf (u fr) tt (KB G) KE) (p : ∀ x, Rf (g (G x)) (ta x) (fun s fl fr => fl = .nx ∧ killF fr js = F s) KE) (q : ∀ x, Rf (h (G x)) (tb x) (fun s fl fr => fl = .nx ∧ killF fr js = F s) KE) (r : ∀ s, Rf (b (F s)) (tk s) K KE) :
    Rf (sSeq (sKn js (sIf u g h)) b fr) ((tt.bind fun x => if x.1 = true then ta x.2 else tb x.2).bind tk) K KE := by
  have m : Rf (sKn js (sIf u g h) fr) (tt.bind fun x => if x.1 = true then ta x.2 else tb x.2) (KN F) KE := by
    unfold sKn sIf
    cases tt with
    | bad => exact ⟨trivial⟩
    | exc c fs st => obtain ⟨s, e, z⟩ := hu; rw [e]; exact ⟨s, rfl, z⟩
    | ok x =>
      obtain ⟨bb, fr2, e, rfl, rfl⟩ := hu
      rw [e]
      obtain ⟨bb, x⟩ := x
      cases bb
      · show Rf ((h (G x)).bind _) (tb x) (KN F) KE
        have := q x
        cases hb : tb x with
        | bad => exact ⟨trivial⟩
        | exc c fs st => rw [hb] at this; obtain ⟨s, e, z⟩ := this; rw [e]; exact ⟨s, rfl, z⟩
        | ok s => rw [hb] at this; obtain ⟨fl, fr2, e, rfl, z⟩ := this; rw [e]; exact ⟨.nx, _, rfl, rfl, z⟩
      · show Rf ((g (G x)).bind _) (ta x) (KN F) KE
        have := p x
        cases hb : ta x with
        | bad => exact ⟨trivial⟩
        | exc c fs st => rw [hb] at this; obtain ⟨s, e, z⟩ := this; rw [e]; exact ⟨s, rfl, z⟩
        | ok s => rw [hb] at this; obtain ⟨fl, fr2, e, rfl, z⟩ := this; rw [e]; exact ⟨.nx, _, rfl, rfl, z⟩
  refine Rf.bind (K1 := KN F) m fun s fl fr2 hs => ?_
  obtain ⟨rfl, rfl⟩ := hs
  exact r s
section
variable {α : Type} {E : α → DV} {F : σ → Fr} {G : α → σ → Fr} {tg : Tv} {js : List Bool}
theorem fold_r {tb : α → σ → O σ} (ht : ∀ a s, tg (toD (E a)) (F s) = some (G a s)) (hb : ∀ a s, Rf (g (G a s)) (tb a s) (fun s fl fr => (fl = .nx ∨ fl = .cnt) ∧ killF fr js = F s) KE) :
    ∀ (l : List α) (s : σ), Rf (loopF tg (sK js g) (l.map fun a => toD (E a)) (F s)) (foldT l s tb) (KN F) KE
  | [], s => ⟨_, _, rfl, rfl, rfl⟩
  | a :: l, s => by
    have ih := fold_r ht hb l
    have h1 := hb a s
    show Rf (match tg (toD (E a)) (F s) with
      | none => Res.bad
      | some fr1 => (sK js g fr1).bind fun fl fr2 => match fl with
        | .nx => loopF tg (sK js g) (l.map fun a => toD (E a)) fr2
        | .cnt => loopF tg (sK js g) (l.map fun a => toD (E a)) fr2
        | .brk => Res.ok Fl.nx fr2
        | .ret d => Res.ok (Fl.ret d) fr2) ((tb a s).bind fun s => foldT l s tb) (KN F) KE
    rw [ht]
    dsimp only
    unfold sK
    cases hq : tb a s with
    | bad => exact ⟨trivial⟩
    | exc c fs st => rw [hq] at h1; obtain ⟨s2, e, z⟩ := h1; rw [e]; exact ⟨s2, rfl, z⟩
    | ok s2 =>
      rw [hq] at h1
      obtain ⟨fl, fr2, e, hfl, z⟩ := h1
      rw [e]
      rcases hfl with rfl | rfl
      · show Rf (loopF tg _ _ (killF fr2 js)) _ _ _
        rw [z]; exact ih s2
      · show Rf (loopF tg _ _ (killF fr2 js)) _ _ _
        rw [z]; exact ih s2
theorem loop_r {KR : ρ → Fl → Fr → Prop} {tb : α → σ → O (Fw ρ σ)} (ht : ∀ a s, tg (toD (E a)) (F s) = some (G a s))
    (hb : ∀ a s, Rf (g (G a s)) (tb a s) (fun w fl fr => match w with | .nx s => (fl = .nx ∨ fl = .cnt) ∧ killF fr js = F s | .brk s => fl = .brk ∧ killF fr js = F s | .ret r => (∃ d, fl = .ret d) ∧ KR r fl fr) KE) :
    ∀ (l : List α) (s : σ), Rf (loopF tg (sK js g) (l.map fun a => toD (E a)) (F s)) (loopT l s tb) (fun w fl fr => match w with | .nx s => fl = .nx ∧ fr = F s | .brk s => False | .ret r => (∃ d, fl = .ret d) ∧ KR r fl fr) KE
  | [], s => ⟨_, _, rfl, rfl, rfl⟩
  | a :: l, s => by
    have ih := loop_r ht hb l
    have h1 := hb a s
    unfold loopT
    rw [List.map_cons, loopF]
    rw [ht]
    dsimp only
    unfold sK
    cases hq : tb a s with
    | bad => exact ⟨trivial⟩
    | exc c fs st => rw [hq] at h1; obtain ⟨s2, e, z⟩ := h1; rw [e]; exact ⟨s2, rfl, z⟩
    | ok w =>
      rw [hq] at h1
      obtain ⟨fl, fr2, e, z⟩ := h1
      rw [e]
      cases w with
      | nx s2 =>
        obtain ⟨hfl, z⟩ := z
        rcases hfl with rfl | rfl
        · show Rf (loopF tg _ _ (killF fr2 js)) _ _ _
          rw [z]; exact ih s2
        · show Rf (loopF tg _ _ (killF fr2 js)) _ _ _
          rw [z]; exact ih s2
      | brk s2 =>
        obtain ⟨rfl, z⟩ := z
        exact ⟨.nx, killF fr2 js, rfl, rfl, z⟩
      | ret r =>
        obtain ⟨⟨d, rfl⟩, z⟩ := z
        exact ⟨.ret d, fr2, rfl, ⟨d, rfl⟩, z⟩
theorem s_for {hI : Iv} {l : List α} {s0 : σ} {fr0 : Fr} {tb : α → σ → O σ} {tk : σ → O β} (hi : VI fr hI l E fr0) (h0 : fr0 = F s0) (ht : ∀ a s, tg (toD (E a)) (F s) = some (G a s))
    (hb : ∀ a s, Rf (g (G a s)) (tb a s) (fun s fl fr => (fl = .nx ∨ fl = .cnt) ∧ killF fr js = F s) KE) (r : ∀ s, Rf (b (F s)) (tk s) K KE) : Rf (sSeq (sFor hI tg (sK js g)) b fr) ((foldT l s0 tb).bind tk) K KE := by
  have m : Rf (sFor hI tg (sK js g) fr) (foldT l s0 tb) (KN F) KE := by
    unfold sFor
    rw [hi, Res.bind, h0]
    exact fold_r ht hb l s0
  refine Rf.bind (K1 := KN F) m fun s fl fr2 hs => ?_
  obtain ⟨rfl, rfl⟩ := hs
  exact r s
end
section
variable {α γ : Type} {E : α → DV} {E2 : γ → DV} {vs : List Nat} {tg : Tv} {c : Bv}
theorem compL_v {fra : α → Fr} {p : α → Bool} {q : α → γ} (ht : ∀ a, tg (toD (E a)) (wipeF fr vs) = some (fra a)) (hw : ∀ a, wipeF (fra a) vs = wipeF fr vs) (hc : ∀ a, VB (fra a) c (p a)) (he : ∀ a, p a = true → V (fra a) e (E2 (q a))) :
    ∀ (l : List α) (fr0 : Fr), wipeF fr0 vs = wipeF fr vs → ∃ fr2, compL vs tg c e (l.map fun a => toD (E a)) fr0 = .ok (((l.filter p).map q).map fun a => toD (E2 a)) fr2 ∧ (fr2 = fr0 ∨ ∃ a, fr2 = fra a)
  | [], fr0, _ => ⟨fr0, rfl, .inl rfl⟩
  | a :: l, fr0, h0 => by
    obtain ⟨fr2, ih, hfr⟩ := compL_v ht hw hc he l (fra a) (hw a)
    have hfr' : fr2 = fr0 ∨ ∃ a, fr2 = fra a := .inr (hfr.elim (fun z => ⟨a, z⟩) id)
    refine ⟨fr2, ?_, hfr'⟩
    show (match tg (toD (E a)) (wipeF fr0 vs) with
      | none => Res.bad
      | some fr1 => (c fr1).bind fun b fr2 => if b = true then ((e fr2).bind fun y fr3 => if pers y = true then ((compL vs tg c e (l.map fun a => toD (E a)) fr3).bind fun r fr4 => .ok (y :: r) fr4) else .bad) else compL vs tg c e (l.map fun a => toD (E a)) fr2) = _
    rw [h0, ht]
    dsimp only
    rw [hc a, Res.bind]
    cases hp : p a with
    | false =>
      rw [if_neg Bool.false_ne_true, List.filter_cons_of_neg (by rw [hp]; exact Bool.false_ne_true)]
      exact ih
    | true =>
      rw [if_pos rfl, List.filter_cons_of_pos hp, he a hp, Res.bind, if_pos (pers_toD _), ih]
      rfl
theorem restF_at (fr1 fr2 : Fr) : ∀ (vs : List Nat) (j : Nat), (restF fr1 fr2 vs)[j]? = if j ∈ vs then (fr2[j]?).map (fun _ => (fr1[j]?).join) else fr2[j]?
  | [], j => by simp [restF]
  | v :: vs, j => by
    have ih := restF_at fr1 fr2 vs j
    unfold restF
    by_cases h : j = v
    · subst h
      rw [List.getElem?_set_self', if_pos (List.mem_cons_self ..), ih]
      split
      · cases fr2[j]? <;> rfl
      · cases fr2[j]? <;> rfl
    · rw [List.getElem?_set_ne (Ne.symm h), ih]
      simp [h]
theorem wipeF_at (fr : Fr) : ∀ (vs : List Nat) (j : Nat), (wipeF fr vs)[j]? = if j ∈ vs then (fr[j]?).map (fun _ => none) else fr[j]?
  | [], j => by simp [wipeF]
  | v :: vs, j => by
    have ih := wipeF_at fr vs j
    unfold wipeF
    by_cases h : j = v
    · subst h
      rw [List.getElem?_set_self', if_pos (List.mem_cons_self ..), ih]
      split
      · cases fr[j]? <;> rfl
      · cases fr[j]? <;> rfl
    · rw [List.getElem?_set_ne (Ne.symm h), ih]
      simp [h]
theorem restF_wipe (fr1 : Fr) {fr2 fr3 : Fr} {vs : List Nat} (h : wipeF fr2 vs = wipeF fr3 vs) : restF fr1 fr2 vs = restF fr1 fr3 vs := by
  refine List.ext_getElem? fun j => ?_
  have q : (wipeF fr2 vs)[j]? = (wipeF fr3 vs)[j]? := by rw [h]
  rw [wipeF_at, wipeF_at] at q
  rw [restF_at, restF_at]
  split
  · next c =>
    rw [if_pos c, if_pos c] at q
    cases h2 : fr2[j]? <;> cases h3 : fr3[j]? <;> rw [h2, h3] at q <;> first | rfl | cases q
  · next c =>
    rw [if_neg c, if_neg c] at q
    exact q
theorem restF_self (fr : Fr) (vs : List Nat) : restF fr fr vs = fr := by
  refine List.ext_getElem? fun j => ?_
  rw [restF_at]
  split
  · cases fr[j]? with
    | none => rfl
    | some x => cases x <;> rfl
  · rfl
/-- the target's names are among vs -/
def TgIn (tg : Tv) (vs : List Nat) : Prop := ∀ d fr fr', tg d fr = some fr' → wipeF fr' vs = wipeF fr vs
theorem wipeF_set {fr : Fr} {vs : List Nat} {i : Nat} {x : Option D} (h : i ∈ vs) : wipeF (fr.set i x) vs = wipeF fr vs := by
  refine List.ext_getElem? fun j => ?_
  rw [wipeF_at, wipeF_at]
  by_cases e : j = i
  · subst e
    rw [if_pos h, if_pos h, List.getElem?_set_self']
    cases fr[j]? <;> rfl
  · rw [List.getElem?_set_ne (Ne.symm e)]
theorem wipeF_setL {vs : List Nat} : ∀ (is : List Nat) (ds : List D) (fr : Fr), (∀ i ∈ is, i ∈ vs) → wipeF (setL fr is ds) vs = wipeF fr vs
  | [], ds, fr, _ => rfl
  | i :: is, [], fr, _ => rfl
  | i :: is, d :: ds, fr, h => by
    show wipeF (setL (fr.set i (some d)) is ds) vs = _
    rw [wipeF_setL is ds _ fun j hj => h j (List.mem_cons_of_mem _ hj), wipeF_set (h i (List.mem_cons_self ..))]
theorem tgIn_N {i : Nat} {vs : List Nat} (h : decide (i ∈ vs) = true) : TgIn (tgN i) vs := fun d fr fr' e => by
  cases e
  exact wipeF_set (of_decide_eq_true h)
theorem tgIn_T {is vs : List Nat} (h : (is.all fun i => decide (i ∈ vs)) = true) : TgIn (tgT is) vs := fun d fr fr' e => by
  unfold tgT at e
  split at e
  · split at e
    · cases e
      exact wipeF_setL is _ fr fun i hi => of_decide_eq_true (List.all_eq_true.mp h i hi)
    · cases e
  · cases e
theorem wipeF_wipe (fr : Fr) (vs : List Nat) : wipeF (wipeF fr vs) vs = wipeF fr vs := by
  refine List.ext_getElem? fun j => ?_
  rw [wipeF_at, wipeF_at]
  split
  · cases fr[j]? <;> rfl
  · rfl
/-- a turn's frame -/
def tgF (tg : Tv) (vs : List Nat) (v : DV) (fr : Fr) : Fr := (tg (toD v) (wipeF fr vs)).getD []
theorem tgF_eq {tg : Tv} {vs : List Nat} {v : DV} {fr : Fr} (h : (tg (toD v) (wipeF fr vs)).isSome = true) : tg (toD v) (wipeF fr vs) = some (tgF tg vs v fr) := by
  unfold tgF
  cases e : tg (toD v) (wipeF fr vs) with
  | none => rw [e] at h; cases h
  | some x => rfl
/-- a comprehension that only looks -/
theorem v_comp {hI : Iv} {l : List α} {p : α → Bool} {q : α → γ} (hi : VI fr hI l E fr) (hl : l.length ≤ 16777216) (ht : ∀ a, (tg (toD (E a)) (wipeF fr vs)).isSome = true) (hg : TgIn tg vs) (hc : ∀ a, VB (tgF tg vs (E a) fr) c (p a)) (he : ∀ a, p a = true → V (tgF tg vs (E a) fr) e (E2 (q a))) :
    V fr (eComp vs hI tg c e) (eL E2 ((l.filter p).map q)) := by
  have hw : ∀ a, wipeF (tgF tg vs (E a) fr) vs = wipeF fr vs := fun a => (hg _ _ _ (tgF_eq (ht a))).trans (wipeF_wipe fr vs)
  have h1 := restF_self fr vs
  have h2 : ∀ a, restF fr (tgF tg vs (E a) fr) vs = fr := fun a => (restF_wipe fr (hw a)).trans h1
  obtain ⟨fr2, e1, hfr⟩ := compL_v (fun a => tgF_eq (ht a)) hw hc he l fr rfl
  unfold V eComp
  rw [hi, Res.bind, if_pos (by rw [List.length_map]; exact Nat.le_trans hl (by decide)), e1]
  have : restF fr fr2 vs = fr := by
    rcases hfr with rfl | ⟨a, rfl⟩
    · exact h1
    · exact h2 a
  show Res.ok (D.lst _) (restF fr fr2 vs) = _
  rw [this, ← toDs_map]
  rfl
/-- .. without a test -/
theorem v_comp0 {hI : Iv} {l : List α} {q : α → γ} (hi : VI fr hI l E fr) (hl : l.length ≤ 16777216) (ht : ∀ a, (tg (toD (E a)) (wipeF fr vs)).isSome = true) (hg : TgIn tg vs) (he : ∀ a, V (tgF tg vs (E a) fr) e (E2 (q a))) :
    V fr (eComp vs hI tg bYes e) (eL E2 (l.map q)) := by
  have := v_comp (c := bYes) (p := fun _ => true) hi hl ht hg (fun _ => rfl) (fun a _ => he a)
  rw [List.filter_eq_self.mpr fun _ _ => rfl] at this
  exact this
/-- one turn -/
def turnF (c : Bv) (e : Ev) : Fr → Res Fr (Option D) := fun fr1 => (c fr1).bind fun b fr2 => if b = true then ((e fr2).bind fun y fr3 => if pers y = true then .ok (some y) fr3 else .bad) else .ok none fr2
theorem compL_turn (ds : List D) (d : D) (fr0 : Fr) : compL vs tg c e (d :: ds) fr0 = match tg d (wipeF fr0 vs) with
    | none => .bad
    | some fr1 => (turnF c e fr1).bind fun o fr3 => (compL vs tg c e ds fr3).bind fun r fr4 => .ok (match o with | some y => y :: r | none => r) fr4 := by
  show (match tg d (wipeF fr0 vs) with
      | none => Res.bad
      | some fr1 => (c fr1).bind fun b fr2 => if b = true then ((e fr2).bind fun y fr3 => if pers y = true then ((compL vs tg c e ds fr3).bind fun r fr4 => .ok (y :: r) fr4) else .bad) else compL vs tg c e ds fr2) = _
  cases tg d (wipeF fr0 vs) with
  | none => rfl
  | some fr1 =>
    unfold turnF
    dsimp only
    cases c fr1 with
    | bad => rfl
    | exc c fs s => rfl
    | ok b fr2 =>
      cases b with
      | false =>
        show compL vs tg c e ds fr2 = (compL vs tg c e ds fr2).bind fun r fr4 => .ok r fr4
        cases compL vs tg c e ds fr2 <;> rfl
      | true =>
        show ((e fr2).bind fun y fr3 => if pers y = true then ((compL vs tg c e ds fr3).bind fun r fr4 => .ok (y :: r) fr4) else .bad) = (((e fr2).bind fun y fr3 => if pers y = true then Res.ok (some y) fr3 else .bad)).bind _
        cases e fr2 with
        | bad => rfl
        | exc c fs s => rfl
        | ok y fr3 =>
          show (if pers y = true then ((compL vs tg c e ds fr3).bind fun r fr4 => .ok (y :: r) fr4) else .bad) = (if pers y = true then Res.ok (some y) fr3 else .bad).bind _
          split <;> rfl
/-- a comprehension with parts that may fail or do something; G: the frame ahead of each turn -/
theorem compL_x {G : σ → Fr} {fra : α → σ → Fr} {tb : α → σ → O (Option γ × σ)} (ht : ∀ a s, tg (toD (E a)) (wipeF (G s) vs) = some (fra a s))
    (hb : ∀ a s, Rf (turnF c e (fra a s)) (tb a s) (fun p o fr => o = p.1.map (fun y => toD (E2 y)) ∧ wipeF fr vs = wipeF (G p.2) vs) fun _ _ => True) :
    ∀ (l : List α) (s : σ) (fr0 : Fr), wipeF fr0 vs = wipeF (G s) vs → ∀ p, compT l s tb = .ok p → ∃ fr2, compL vs tg c e (l.map fun a => toD (E a)) fr0 = .ok (p.1.map fun y => toD (E2 y)) fr2 ∧ wipeF fr2 vs = wipeF (G p.2) vs
  | [], s, fr0, h0, p, hp => by cases hp; exact ⟨fr0, rfl, h0⟩
  | a :: l, s, fr0, h0, p, hp => by
    unfold compT at hp
    have h1 := hb a s
    cases hq : tb a s with
    | bad => rw [hq] at hp; cases hp
    | exc k fs st => rw [hq] at hp; cases hp
    | ok o =>
      rw [hq] at hp h1
      obtain ⟨o', fr3, e1, rfl, w1⟩ := h1
      have hp : ((compT l o.2 tb).bind fun q => O.ok ((match o.1 with | some y => y :: q.1 | none => q.1), q.2)) = .ok p := hp
      cases hr : compT l o.2 tb with
      | bad => rw [hr] at hp; cases hp
      | exc k fs st => rw [hr] at hp; cases hp
      | ok q =>
        rw [hr] at hp
        cases hp
        obtain ⟨fr2, e2, w2⟩ := compL_x ht hb l o.2 fr3 w1 q hr
        refine ⟨fr2, ?_, w2⟩
        rw [List.map_cons, compL_turn, h0, ht]
        dsimp only
        rw [e1, Res.bind, e2]
        obtain ⟨o, s2⟩ := o
        cases o <;> rfl
/-- a turn's parts -/
theorem t_v {p : Bool} {tb : O (Option γ × σ)} {K : Option γ × σ → Option D → Fr → Prop} {KE : List DV → Fr → Prop} (h : VB fr c p) (q : Rf ((e fr).bind fun y fr3 => if pers y = true then Res.ok (some y) fr3 else .bad) tb K KE) (r : Rf (Res.ok (σ := Fr) (none : Option D) fr) ta K KE) : Rf (turnF c e fr) (if p = true then tb else ta) K KE := by
  unfold turnF
  rw [h]
  cases p
  · exact r
  · exact q
theorem t_yes {tb : O (Option γ × σ)} {K : Option γ × σ → Option D → Fr → Prop} {KE : List DV → Fr → Prop} (q : Rf ((e fr).bind fun y fr3 => if pers y = true then Res.ok (some y) fr3 else .bad) tb K KE) : Rf (turnF bYes e fr) tb K KE := q
theorem k_turn {y : γ} {s : σ} {K : Option γ × σ → Option D → Fr → Prop} {KE : List DV → Fr → Prop} (q : K (some y, s) (some (toD (E2 y))) fr) : Rf ((fun y fr3 => if pers y = true then Res.ok (some y) fr3 else .bad : D → Fr → Res Fr (Option D)) (toD (E2 y)) fr) (.ok (some y, s)) K KE := by
  show Rf (if pers (toD (E2 y)) = true then Res.ok (some (toD (E2 y))) fr else .bad) _ _ _
  rw [if_pos (pers_toD _)]
  exact ⟨_, _, rfl, q⟩
end
end
end KT
namespace KT
open PySem KS
abbrev KD {α : Type} (E : α → DV) (os : α → List (Nat × DV)) : α → Fl → Fr → Prop := fun a fl fr => (fl = .ret (toD (E a)) ∨ (fl = .nx ∧ E a = .non)) ∧ ∀ p ∈ os a, fr[p.1]? = some (some (toD p.2))
abbrev KDE (ox : List DV → List (Nat × DV)) : List DV → Fr → Prop := fun st fr => ∀ p ∈ ox st, fr[p.1]? = some (some (toD p.2))
theorem outs_at {k : Nat} {fr : Fr} {i : Nat} {d : D} (hi : i < k) (h : fr[i]? = some (some d)) : (outsOf k fr)[i]? = some d := by
  unfold outsOf
  rw [List.getElem?_map, List.getElem?_range hi, Option.map_some, h]
  rfl
theorem outs_len {k : Nat} {fr : Fr} : (outsOf k fr).length = k := by simp [outsOf]
theorem fn_rf {α : Type} {E : α → DV} {os : α → List (Nat × DV)} {ox : List DV → List (Nat × DV)} {k n : Nat} {g : Sv} {ds : List D} {t : O α} (hos : ∀ a, ∀ p ∈ os a, p.1 < k) (hox : ∀ a, ∀ p ∈ ox a, p.1 < k) (h : Rf (g (startF n ds)) t (KD E os) (KDE ox)) :
    Rf (runFn k n g ds) t (KF E k os) (KX k ox) := by
  unfold runFn
  cases t with
  | bad => exact ⟨trivial⟩
  | ok a =>
    obtain ⟨fl, fr, e, hfl, ho⟩ := h
    rw [e]
    rcases hfl with rfl | ⟨rfl, hE⟩
    · exact ⟨_, _, rfl, rfl, outs_len, fun p hp => outs_at (hos a p hp) (ho p hp)⟩
    · exact ⟨_, _, rfl, (show D.non = toD (E a) by rw [hE]; rfl), outs_len, fun p hp => outs_at (hos a p hp) (ho p hp)⟩
  | exc c fs st =>
    obtain ⟨fr, e, ho⟩ := h
    rw [e]
    exact ⟨_, rfl, outs_len, fun p hp => outs_at (hox st p hp) (ho p hp)⟩
/-- nothing is handed in -/
abbrev os0 {α : Type} : α → List (Nat × DV) := fun _ => []
theorem fn_rf0 {α : Type} {E : α → DV} {k n : Nat} {g : Sv} {ds : List D} {t : O α} {fr0 : Fr} (h0 : startF n ds = fr0) (h : Rf (g fr0) t (KD E os0) (KDE os0)) : Rf (runFn k n g ds) t (KF E k os0) (KX k os0) :=
  fn_rf (fun _ _ h => by cases h) (fun _ _ h => by cases h) (by rw [h0]; exact h)
theorem kd_ret {α : Type} {E : α → DV} {a : α} {v : DV} {fr : Fr} (h : v = E a) : KD E os0 a (.ret (toD v)) fr := ⟨.inl (by rw [h]), fun _ h => by cases h⟩
theorem kd_nx {α : Type} {E : α → DV} {a : α} {fr : Fr} (h : E a = .non) : KD E os0 a .nx fr := ⟨.inr ⟨rfl, h⟩, fun _ h => by cases h⟩
theorem kde0 {st : List DV} {fr : Fr} : KDE os0 st fr := fun _ h => by cases h
/-- one object handed in, at place i -/
abbrev os1 {α : Type} (i : Nat) (f : α → DV) : α → List (Nat × DV) := fun a => [(i, f a)]
theorem kd_nx1 {α : Type} {E : α → DV} {i : Nat} {f : α → DV} {a : α} {fr : Fr} (h : E a = .non) (hf : fr[i]? = some (some (toD (f a)))) : KD E (os1 i f) a .nx fr := ⟨.inr ⟨rfl, h⟩, fun p hp => by
  rw [List.mem_singleton.mp hp]; exact hf⟩
theorem fn_rf1e {α : Type} {E : α → DV} {i : Nat} {f : α → DV} {k n : Nat} {g : Sv} {ds : List D} {t : O α} {fr0 : Fr} (hi : i < k) (h0 : startF n ds = fr0) (h : Rf (g fr0) t (KD E (os1 i f)) (KDE os0)) : Rf (runFn k n g ds) t (KF E k (os1 i f)) (KX k os0) :=
  fn_rf (fun _ p h => by rw [List.mem_singleton.mp h]; exact hi) (fun _ _ h => by cases h) (by rw [h0]; exact h)
section
variable {β δ : Type} {K : β → δ → Fr → Prop} {KE : List DV → Fr → Prop} {fr fr1 : Fr} {t : O β} {e f g : Ev} {k : D → Fr → Res Fr δ} {v w z r c c' : DV}
def kMut (i : Nat) (pz : Bool) (F : Mu) (k : D → Fr → Res Fr δ) : List D → Fr → Res Fr δ := fun ys fr1 => (match fr1[i]? with
    | some (some c) => if isCell c = true then (if (pz = true → ys.all pers = true) then (match pick fr1 ys with
      | some bs => match F c bs with
        | some (r, c') => Res.ok r (fr1.set i (some c'))
        | none => Res.bad
      | none => Res.bad) else Res.bad) else Res.bad
    | _ => Res.bad).bind k
theorem x_mut {i : Nat} {kd : D → Bool} {pz : Bool} {F : Mu} {es : Av} (h : fr[i]? = some (some (toD c))) (hk : kd (toD c) = true) (q : Rf ((es fr).bind (kMut i pz F k)) t K KE) : Rf ((eMut i kd pz F es fr).bind k) t K KE := by
  unfold eMut
  rw [h]
  dsimp only
  rw [if_pos hk]
  cases h2 : es fr with
  | ok x fr1 => rw [h2] at q; exact q
  | exc c fs fr1 => rw [h2] at q; exact q
  | bad => rw [h2] at q; exact q
theorem pick_vals (fr : Fr) : ∀ vs : List DV, pick fr (toDs vs) = some (toDs vs)
  | [] => rfl
  | v :: vs => by
    show (match look fr (toD v), pick fr (toDs vs) with | some a, some as => some (a :: as) | _, _ => none) = _
    rw [look_toD, pick_vals fr vs]; rfl
theorem k_mut {i : Nat} {pz : Bool} {F : Mu} {vs : List DV} (h : fr[i]? = some (some (toD c))) (hc : isCell (toD c) = true) {fr' : Fr} (hF : F (toD c) (toDs vs) = some (toD r, toD c')) (hf : fr.set i (some (toD c')) = fr') (q : Rf (k (toD r) fr') t K KE) : Rf (kMut i pz F k (toDs vs) fr) t K KE := by
  unfold kMut
  rw [h]
  dsimp only
  rw [if_pos hc, if_pos fun _ => all_pers_toDs vs, pick_vals]
  dsimp only
  rw [hF]
  subst hf
  exact q
variable {α : Type} {E : α → DV}
def appC {α : Type} (l : List α) : Prop := l.length < 16777216
instance {α : Type} (l : List α) : Decidable (appC l) := by unfold appC; infer_instance
theorem m_app {l : List α} {a : α} (h : appC l) : appM (toD (eL E l)) (toDs [E a]) = some (toD .non, toD (eL E (l ++ [a]))) := by
  show (if (toDs (l.map E)).length < sizeLine then some (D.non, D.lst (toDs (l.map E) ++ [toD (E a)])) else none) = _
  rw [toDs_length, List.length_map, if_pos (show l.length < sizeLine from h)]
  show some (D.non, D.lst (toDs (l.map E) ++ toDs [E a])) = some (D.non, D.lst (toDs ((l ++ [a]).map E)))
  rw [List.map_append, toDs_append]; rfl
theorem eraseIdx_m {α β : Type} (g : α → β) : ∀ (l : List α) (k : Nat), (l.map g).eraseIdx k = (l.eraseIdx k).map g
  | [], _ => rfl
  | _ :: _, 0 => rfl
  | a :: l, k + 1 => by
    show g a :: (l.map g).eraseIdx k = g a :: (l.eraseIdx k).map g
    rw [eraseIdx_m g l k]
def insC {α : Type} (l : List α) (i : Int) : Prop := l.length < 16777216 ∧ 0 ≤ i ∧ i < 9223372036854775808
instance {α : Type} (l : List α) (i : Int) : Decidable (insC l i) := by unfold insC; infer_instance
theorem m_ins {l : List α} {i : Int} {a : α} (h : insC l i) : insM (toD (eL E l)) (toDs [.int i, E a]) = some (toD .non, toD (eL E (l.take i.toNat ++ [a] ++ l.drop i.toNat))) := by
  show (if (toDs (l.map E)).length < sizeLine ∧ 0 ≤ i ∧ i < 2 ^ 63 then some (D.non, D.lst ((toDs (l.map E)).take i.toNat ++ [toD (E a)] ++ (toDs (l.map E)).drop i.toNat)) else none) = _
  rw [toDs_length, List.length_map, if_pos ⟨h.1, h.2.1, by have := h.2.2; omega⟩]
  show _ = some (D.non, D.lst (toDs ((l.take i.toNat ++ [a] ++ l.drop i.toNat).map E)))
  rw [List.map_append, List.map_append, toDs_append, toDs_append, List.map_take, List.map_drop, toDs_eq (List.take _ _), toDs_eq (List.drop _ _), toDs_eq (l.map E), List.map_take, List.map_drop]
  rfl
end
section
variable {α : Type} {f : α → DV}
def hasT {α : Type} (l : List (PP × α)) (k : PP) : Bool := l.any fun p => decide (p.1 = k)
def putT {α : Type} (l : List (PP × α)) (k : PP) (a : α) : List (PP × α) := if hasT l k = true then l.map (fun p => if p.1 = k then (p.1, a) else p) else l ++ [(k, a)]
variable {β δ : Type} {K : β → δ → Fr → Prop} {KE : List DV → Fr → Prop} {fr : Fr} {t : O β} {e : Ev} {k : D → Fr → Res Fr δ}
end
end KT
namespace KT
open PySem KS
section
variable {β δ : Type} {K : β → δ → Fr → Prop} {KE : List DV → Fr → Prop} {fr fr1 : Fr} {t : O β} {e f g : Ev} {k : D → Fr → Res Fr δ} {v w z r c c' : DV}
theorem x_fz {i : Nat} (h : fr[i]? = some (some (toD v))) {fr' : Fr} (hc : isCell (toD v) = true) (hf : fr.set i (some (.tup [toD v])) = fr') (q : Rf (k (toD v) fr') t K KE) : Rf ((eFz i fr).bind k) t K KE := by
  subst hf
  have : eFz i fr = .ok (toD v) (fr.set i (some (.tup [toD v]))) := by
    unfold eFz
    rw [h]
    dsimp only
    rw [if_pos hc]
  rw [this]; exact q
theorem eO_some {α : Type} {E : α → DV} {o : Option α} {a : α} (h : o = some a) : eO E o = E a := by subst h; rfl
theorem k_cv (h : v = w) (q : Rf (k (toD w) fr) t K KE) : Rf (k (toD v) fr) t K KE := by subst h; exact q
theorem v_attr {cs : List Nat} {n c : Nat} {ns : List Nat} {fs : List DV} (h : L fr f (.obj c ns fs)) (hc : decide (c ∈ cs) = true) (hi : idx n ns (toDs fs) = some (toD z)) : V fr (eAttr cs n f) z := v_op1 h (by
  show (if c ∈ cs then idx n ns (toDs fs) else none) = _
  rw [if_pos (of_decide_eq_true hc)]; exact hi)
theorem v_some {α : Type} {E : α → DV} {o : Option α} {a : α} (h : o = some a) (q : V fr e (eO E o)) : V fr e (E a) := by subst h; exact q
def Dec {α : Type} (d : DV → Option α) (E : α → DV) : Prop := ∀ v a, d v = some a → v = E a
theorem v_dec {α : Type} {d : DV → Option α} {E : α → DV} {a : α} (D : Dec d E) (h : d v = some a) (q : V fr e v) : V fr e (E a) := by rw [← D v a h]; exact q
def asI : DV → Option Int
  | .int i => some i
  | _ => none
theorem asI_of : Dec asI eI := fun v a h => by cases v <;> first | (cases h; rfl) | cases h
def decs {α : Type} (d : DV → Option α) : List DV → Option (List α)
  | [] => some []
  | v :: vs => match d v, decs d vs with
    | some a, some l => some (a :: l)
    | _, _ => none
theorem decs_of {α : Type} {d : DV → Option α} {E : α → DV} (D : Dec d E) : ∀ (vs : List DV) (l : List α), decs d vs = some l → vs = l.map E
  | [], l, h => by cases h; rfl
  | v :: vs, l, h => by
    unfold decs at h
    split at h
    · next a m e1 e2 => cases h; rw [D v a e1, decs_of D vs m e2]; rfl
    · cases h
def asT {α : Type} (d : DV → Option α) : DV → Option (List α)
  | .tup vs => decs d vs
  | _ => none
theorem asT_of {α : Type} {d : DV → Option α} {E : α → DV} (D : Dec d E) : Dec (asT d) (eT E) := fun v a h => by
  cases v with
  | tup vs => show DV.tup vs = .tup (a.map E); rw [← decs_of D vs a h]
  | _ => cases h
def asP2 {α β : Type} (d : DV → Option α) (d2 : DV → Option β) : DV → Option (α × β)
  | .tup [v, w] => match d v, d2 w with
    | some a, some b => some (a, b)
    | _, _ => none
  | _ => none
theorem asP2_of {α β : Type} {d : DV → Option α} {E : α → DV} {d2 : DV → Option β} {E2 : β → DV} (D : Dec d E) (D2 : Dec d2 E2) : Dec (asP2 d d2) (eP2 E E2) := fun v a h => by
  unfold asP2 at h
  split at h
  · split at h
    · next e1 e2 => cases h; rw [D _ _ e1, D2 _ _ e2]
    · cases h
  · cases h
def ixY : DV → Int → Option DV
  | .tup vs, i => L2.atI vs i
  | .lst vs, i => L2.atI vs i
  | _, _ => none
theorem f_ixY {i : Int} (h : ixY v i = some z) : F2 ixF v (.int i) z := by
  cases v with
  | tup vs => show L2.atI (toDs vs) i = _; rw [toDs_eq, atI_m, show L2.atI vs i = some z from h]; rfl
  | lst vs => show L2.atI (toDs vs) i = _; rw [toDs_eq, atI_m, show L2.atI vs i = some z from h]; rfl
  | _ => cases h
def lenY : DV → Option Int
  | .tup vs => some vs.length
  | .lst vs => some vs.length
  | .str x => if x.length ≤ 16777216 then some x.length else none
  | _ => none
theorem f_lenY {i : Int} (h : lenY v = some i) : F1 lenF v (.int i) := by
  cases v with
  | tup vs => cases h; show some (D.int (toDs vs).length) = _; rw [toDs_length]; rfl
  | lst vs => cases h; show some (D.int (toDs vs).length) = _; rw [toDs_length]; rfl
  | str x =>
    unfold lenY at h
    dsimp only at h
    split at h
    · next c => cases h; exact f_lenX c
    · cases h
  | _ => cases h
def seqY : DV → Option (List DV)
  | .tup vs => some vs
  | .lst vs => some vs
  | _ => none
theorem vi_enY {vs : List DV} (h : seqY v = some vs) (q : V fr e v) : VI fr (iEn e) (enumT vs) (eP2 eI eY) fr := by
  cases v with
  | tup l => cases h; exact vi_enT (l := vs) (e := eY) (by show V fr e (.tup (vs.map fun v => v)); rw [List.map_id' ]; exact q)
  | lst l => cases h; exact vi_enL (l := vs) (e := eY) (by show V fr e (.lst (vs.map fun v => v)); rw [List.map_id' ]; exact q)
  | _ => cases h
def walkY : DV → Option (List DV)
  | .tup vs => some vs
  | .lst vs => some vs
  | .str x => some ((chars x).map fun d => match d with
    | .str y => DV.str y
    | _ => .non)
  | _ => none
theorem vi_Y {vs : List DV} (h : walkY v = some vs) (q : V fr e v) : VI fr (iVal e) vs eY fr := by
  cases v with
  | tup l => cases h; exact vi_T (l := vs) (e := eY) (by show V fr e (.tup (vs.map fun v => v)); rw [List.map_id' ]; exact q)
  | lst l => cases h; exact vi_L (l := vs) (e := eY) (by show V fr e (.lst (vs.map fun v => v)); rw [List.map_id' ]; exact q)
  | str x =>
    cases h
    unfold VI iVal
    rw [q, Res.bind, if_pos (pers_toD _)]
    show Res.ok (chars x) fr = _
    rw [List.map_map]
    unfold chars
    rw [List.map_map]
    rfl
  | _ => cases h
def tupY : DV → Option DV
  | .tup vs => some (.tup vs)
  | .lst vs => some (.tup vs)
  | _ => none
theorem f_tupY (h : tupY v = some w) : F1 tupF v w := by
  cases v <;> first | (cases h; rfl) | cases h
def tyY : DV → Option Tn
  | .non => some .non
  | .bl _ => some .bl
  | .int _ => some .int
  | .str _ => some .str
  | .tup _ => some .tup
  | .lst _ => some .lst
  | .scr _ => some .lst
  | .dct _ _ => some .dct
  | _ => none
theorem tyI_toD : tyI (toD v) = tyY v := by cases v <;> rfl
def isiY (u : Tn) (v : DV) : Option Bool := (tyY v).map fun t => isT t u
def isiYs (us : List Tn) (v : DV) : Option Bool := (tyY v).map fun t => isAny t us
theorem f_isi {u : Tn} {b : Bool} (h : isiY u v = some b) : F1 (isiF u) v (.bl b) := by
  unfold F1 isiF
  rw [tyI_toD]
  unfold isiY at h
  cases ht : tyY v with
  | none => rw [ht] at h; cases h
  | some t => rw [ht] at h; cases h; rfl
theorem f_isiT {us : List Tn} {b : Bool} (h : isiYs us v = some b) : F1 (isiTF us) v (.bl b) := by
  unfold F1 isiTF
  rw [tyI_toD]
  unfold isiYs at h
  cases ht : tyY v with
  | none => rw [ht] at h; cases h
  | some t => rw [ht] at h; cases h; rfl
theorem x_andV {a : Bool} {tb : O Bool} {F : Bool → Fr} (h : V fr f (.bl a)) (q : a = true → Rf (g fr) tb (KV eB F) KE) (hF : F false = fr := by rfl) : Rf (eAnd f g fr) (if a = true then tb else .ok false) (KV eB F) KE := by
  unfold eAnd
  rw [h]
  cases a
  · exact ⟨_, _, rfl, rfl, hF.symm⟩
  · exact q rfl
theorem v_make {α : Type} {F : Fn} {c n : Nat} {vs : List DV} {E f : α → DV} {ta : O α} {a : α} {es : Av} {ox : List DV → List (Nat × DV)} (hF : Rf (F (toDs (.obj c [] [] :: vs))) ta (KF E n (os1 0 f)) (KX n ox)) (ha : ta = .ok a) (h : VA fr es vs) (hE : E a = .non := by rfl) : V fr (eMake c F es) (f a) := by
  subst ha
  obtain ⟨d, outs, e, rfl, hl, ho⟩ := hF
  have ho := ho (0, f a) (List.mem_singleton.mpr rfl)
  unfold V eMake
  rw [h, Res.bind, if_pos (all_pers_toDs vs)]
  show (match F (toDs (.obj c [] [] :: vs)) with
    | .ok .non (o :: _) => Res.ok o fr
    | .exc k fs _ => .exc k fs fr
    | _ => .bad) = _
  rw [e, hE]
  cases outs with
  | nil => cases ho
  | cons o os => cases ho; rfl
def kFld (i n : Nat) (cs : List Nat) (b : Sv) : D → Fr → Res Fr Fl := fun d fr1 => (if pers d = true then (match fr1[i]? with
  | some (some (.obj c ns fs)) => if c ∈ cs then (if ns.length < 1000 then Res.ok Fl.nx (fr1.set i (some (.obj c (putN n d ns fs).1 (putN n d ns fs).2))) else .bad) else .bad
  | _ => .bad) else .bad).bind (kQ b)
theorem s_fldX {β : Type} {t : O β} {K : β → Fl → Fr → Prop} {i n : Nat} {cs : List Nat} {b : Sv} (q : Rf ((f fr).bind (kFld i n cs b)) t K KE) : Rf (sSeq (sFldS i n cs f) b fr) t K KE := by
  unfold sSeq sFldS
  cases h2 : f fr with
  | ok x fr1 => rw [h2] at q; exact q
  | exc c fs fr1 => rw [h2] at q; exact q
  | bad => rw [h2] at q; exact q
theorem k_fldN {β α : Type} {K : β → Fl → Fr → Prop} {tk : α → O β} {E : α → DV} {a : α} {i n : Nat} {cs : List Nat} {b : Sv} {c : Nat} {ns ns' : List Nat} {fs : List DV} {fs' : α → List DV} (h : fr[i]? = some (some (toD (.obj c ns fs)))) (hc : decide (c ∈ cs) = true) (hn : decide (ns.length < 1000) = true) {fr' : α → Fr} (hp : ∀ a, putN n (toD (E a)) ns (toDs fs) = (ns', toDs (fs' a))) (hf : ∀ a, fr.set i (some (toD (.obj c ns' (fs' a)))) = fr' a) (q : ∀ a, Rf (b (fr' a)) (tk a) K KE) : Rf (kFld i n cs b (toD (E a)) fr) (O.lt a tk) K KE := by
  unfold kFld
  rw [if_pos (pers_toD _), h]
  show Rf ((if c ∈ cs then (if ns.length < 1000 then Res.ok Fl.nx (fr.set i (some (.obj c (putN n (toD (E a)) ns (toDs fs)).1 (putN n (toD (E a)) ns (toDs fs)).2))) else Res.bad) else Res.bad).bind _) _ K KE
  rw [if_pos (of_decide_eq_true hc), if_pos (of_decide_eq_true hn), hp]
  have := q a
  rw [← hf] at this
  exact this
def insT {α : Type} (l : List α) (i : Int) (a : α) : List α := l.take i.toNat ++ [a] ++ l.drop i.toNat
end
section
variable {β σ ρ : Type} {K : β → Fl → Fr → Prop} {KE : List DV → Fr → Prop} {fr fr1 : Fr} {t : O β} {b g : Sv} {e f : Ev}
def kFor (js : List Bool) (tg : Tv) (g b : Sv) : List D → Fr → Res Fr Fl := fun ds fr1 => (loopF tg (sK js g) ds (killF fr1 js)).bind (kQ b)
theorem s_forH {js : List Bool} {tg : Tv} {hI : Iv} (q : Rf ((hI fr).bind (kFor js tg g b)) t K KE) : Rf (sSeq (sFor (iK js hI) tg (sK js g)) b fr) t K KE := by
  unfold sSeq sFor iK
  cases h : hI fr with
  | ok x fr1 => rw [h] at q; exact q
  | exc c fs fr1 => rw [h] at q; exact q
  | bad => rw [h] at q; exact q
variable {α : Type} {E : α → DV} {F : σ → Fr} {G : α → σ → Fr} {tg : Tv} {js : List Bool}
theorem k_for {l : List α} {s0 : σ} {tb : α → σ → O σ} {tk : σ → O β} (h0 : killF fr js = F s0) (ht : ∀ a s, tg (toD (E a)) (F s) = some (G a s))
    (hb : ∀ a s, Rf (g (G a s)) (tb a s) (fun s fl fr => (fl = .nx ∨ fl = .cnt) ∧ killF fr js = F s) KE) (r : ∀ s, Rf (b (F s)) (tk s) K KE) : Rf (kFor js tg g b (l.map fun a => toD (E a)) fr) ((foldT l s0 tb).bind tk) K KE := by
  unfold kFor
  rw [h0]
  refine Rf.bind (fold_r ht hb l s0) fun s fl fr2 hs => ?_
  obtain ⟨rfl, rfl⟩ := hs
  exact r s
theorem k_loop {KR : ρ → Fl → Fr → Prop} {l : List α} {s0 : σ} {tb : α → σ → O (Fw ρ σ)} {tk : σ → O β} {tr : ρ → O β} (h0 : killF fr js = F s0) (ht : ∀ a s, tg (toD (E a)) (F s) = some (G a s))
    (hb : ∀ a s, Rf (g (G a s)) (tb a s) (fun w fl fr => match w with | .nx s => (fl = .nx ∨ fl = .cnt) ∧ killF fr js = F s | .brk s => fl = .brk ∧ killF fr js = F s | .ret r => (∃ d, fl = .ret d) ∧ KR r fl fr) KE) (r : ∀ s, Rf (b (F s)) (tk s) K KE)
    (hr : ∀ x d fr, KR x (.ret d) fr → Rf (Res.ok (Fl.ret d) fr) (tr x) K KE) : Rf (kFor js tg g b (l.map fun a => toD (E a)) fr) ((loopT l s0 tb).aft tk tr) K KE := by
  unfold kFor
  rw [h0]
  refine Rf.bind (loop_r ht hb l s0) fun w fl fr2 hs => ?_
  cases w with
  | nx s => obtain ⟨rfl, rfl⟩ := hs; exact r s
  | brk s => exact hs.elim
  | ret x => obtain ⟨⟨d, rfl⟩, z⟩ := hs; exact hr x d fr2 z
end
section
variable {β δ : Type} {K : β → δ → Fr → Prop} {KE : List DV → Fr → Prop} {fr fr1 : Fr} {t : O β} {e f g : Ev} {k : D → Fr → Res Fr δ} {kI : List D → Fr → Res Fr δ} {v w : DV}
theorem x_vi {α : Type} {E : α → DV} {hI : Iv} {l : List α} {fr' : Fr} (h : VI fr hI l E fr') (q : Rf (kI (l.map fun a => toD (E a)) fr') t K KE) : Rf ((hI fr).bind kI) t K KE := by rw [h]; exact q
def kComp (vs : List Nat) (tg : Tv) (c : Bv) (e : Ev) (k : D → Fr → Res Fr δ) : List D → Fr → Res Fr δ := fun ds fr1 => (if ds.length ≤ sizeLine then (match compL vs tg c e ds fr1 with
  | .ok r fr2 => Res.ok (D.lst r) (restF fr1 fr2 vs)
  | _ => Res.bad) else Res.bad).bind k
theorem x_compH {vs : List Nat} {tg : Tv} {c : Bv} {hI : Iv} (q : Rf ((hI fr).bind (kComp vs tg c e k)) t K KE) : Rf ((eComp vs hI tg c e fr).bind k) t K KE := by
  unfold eComp
  cases h : hI fr with
  | ok x fr1 => rw [h] at q; exact q
  | exc c fs fr1 => rw [h] at q; exact q
  | bad => rw [h] at q; exact q
theorem k_comp {σ α γ : Type} {E : α → DV} {E2 : γ → DV} {vs : List Nat} {tg : Tv} {c : Bv} {t : List γ × σ → O β} {l : List α} {s0 : σ} {G : σ → Fr} {tb : α → σ → O (Option γ × σ)} (hl : l.length ≤ 16777216) (h0 : fr = G s0) (ht : ∀ a s, (tg (toD (E a)) (wipeF (G s) vs)).isSome = true)
    (hb : ∀ a s, Rf (turnF c e (tgF tg vs (E a) (G s))) (tb a s) (fun p o fr => o = p.1.map (fun y => toD (E2 y)) ∧ wipeF fr vs = wipeF (G p.2) vs) fun _ _ => True) (hG : ∀ s, restF (G s0) (G s) vs = G s)
    (q : ∀ p, Rf (k (toD (eL E2 p.1)) (G p.2)) (t p) K KE) : Rf (kComp vs tg c e k (l.map fun a => toD (E a)) fr) ((compT l s0 tb).no.bind t) K KE := by
  subst h0
  refine Rf.no fun p hp => ?_
  obtain ⟨fr2, e1, w⟩ := compL_x (fun a s => tgF_eq (ht a s)) hb l s0 (G s0) rfl p hp
  unfold kComp
  rw [if_pos (by rw [List.length_map]; exact Nat.le_trans hl (by decide)), e1]
  show Rf ((Res.ok (D.lst _) (restF (G s0) fr2 vs)).bind k) _ _ _
  rw [restF_wipe (G s0) w, hG, ← toDs_map]
  exact q p
def leYo (v w : DV) : Option Bool := match leA (toD v) (toD w) with
  | some (.bl b) => some b
  | _ => none
theorem f_leY {v w : DV} {b : Bool} (h : leYo v w = some b) : F2 leA v w (.bl b) := by
  unfold leYo at h
  unfold F2
  split at h
  · next c e => cases h; rw [e]; rfl
  · cases h
end
theorem f_sortI {l : List Int} : F1 sortF (eL eI l) (eL eI (l.mergeSort leI)) := by
  show (match intsOf (toDs (l.map eI)) with
    | some ns => some (D.lst ((ns.mergeSort leI).map D.int))
    | none => sortRs (toDs (l.map eI))) = _
  rw [ints_m]
  show some (D.lst _) = some (D.lst (toDs _))
  rw [toDs_m]; rfl
theorem rows_m : ∀ l : List (List Int), rowsOf (toDs (l.map (eT eI))) = some l
  | [] => rfl
  | r :: l => by
    show (match intsOf (toDs (r.map eI)), rowsOf (toDs (l.map (eT eI))) with
      | some r, some rs => some (r :: rs)
      | _, _ => none) = _
    rw [ints_m, rows_m l]
theorem sortRs_m {l : List (List Int)} (h : ∀ r ∈ l, r ≠ []) : sortRs (toDs (l.map (eT eI))) = some (toD (eL (eT eI) (l.mergeSort leR))) := by
  unfold sortRs
  rw [rows_m]
  dsimp only
  rw [if_pos (List.all_eq_true.mpr fun r hr => by
    cases r with
    | nil => exact absurd rfl (h _ hr)
    | cons => rfl)]
  show some (D.lst _) = some (D.lst (toDs _))
  rw [toDs_m]
  congr 2
  refine List.map_congr_left fun r _ => ?_
  show D.tup (r.map D.int) = D.tup (toDs (r.map eI))
  rw [toDs_m]; rfl
theorem f_sortLT {l : List (List Int)} (h : ∀ r ∈ l, r ≠ []) : F1 sortF (eL (eT eI) l) (eL (eT eI) (l.mergeSort leR)) := by
  cases l with
  | nil =>
    have := f_sortI (l := [])
    rw [List.mergeSort_nil] at this ⊢
    exact this
  | cons r l => exact sortRs_m h
theorem leR_pair (p q : PP) : leP p q = leR [p.1, p.2] [q.1, q.2] := by
  unfold leP leR
  rw [Bool.eq_iff_iff, decide_eq_true_eq, decide_eq_true_eq]
  simp only [List.cons_le_cons_iff]
  constructor
  · rintro (h | ⟨h1, h2⟩)
    · exact .inl h
    · refine .inr ⟨h1, ?_⟩
      rcases Int.lt_or_eq_of_le h2 with z | z
      · exact .inl z
      · exact .inr ⟨z, by simp⟩
  · rintro (h | ⟨h1, h2 | ⟨h2, _⟩⟩)
    · exact .inl h
    · exact .inr ⟨h1, by omega⟩
    · exact .inr ⟨h1, by omega⟩
theorem pairs_m (l : List PP) : toDs (l.map (eP2 eI eI)) = toDs ((l.map fun p => [p.1, p.2]).map (eT eI)) := by
  rw [List.map_map]; rfl
theorem sort_pairs (l : List PP) : (l.map fun p => [p.1, p.2]).mergeSort leR = (l.mergeSort leP).map fun p => [p.1, p.2] := (List.map_mergeSort fun a _ b _ => leR_pair a b).symm
theorem f_sortLP {l : List PP} : F1 sortF (eL (eP2 eI eI) l) (eL (eP2 eI eI) (l.mergeSort leP)) := by
  have := f_sortLT (l := l.map fun p => [p.1, p.2]) (fun r hr => by obtain ⟨p, _, rfl⟩ := List.mem_map.mp hr; exact List.cons_ne_nil _ _)
  unfold F1 at this ⊢
  show sortF (.lst (toDs (l.map (eP2 eI eI)))) = some (.lst (toDs ((l.mergeSort leP).map (eP2 eI eI))))
  rw [pairs_m, pairs_m, ← sort_pairs]
  exact this
end KT
namespace KT
open PySem KS
section
variable {α : Type} [DecidableEq α] {e : α → DV} {n : Nat}
/-- data that list.remove may look at -/
structure DatR (A : Dat e n) : Prop where
  pl : ∀ a, (A.p a).plain = true
theorem datR_I : DatR dat_I := ⟨fun a => by show PyData.plain (.int a) = true; simp [PyData.plain]⟩
theorem plainAll_m {A : Dat e n} (R : DatR A) : ∀ l : List α, PyData.plainAll (l.map A.p) = true
  | [] => by simp [PyData.plainAll]
  | a :: l => by simp [PyData.plainAll, R.pl a, plainAll_m R l]
theorem datR_P {β : Type} [DecidableEq β] {f : β → DV} {m : Nat} {A : Dat e n} {B : Dat f m} (R : DatR A) (S : DatR B) : DatR (dat_P A B) := ⟨fun p => by show PyData.plain (.tuple [A.p p.1, B.p p.2]) = true; simp [PyData.plain, PyData.plainAll, R.pl, S.pl]⟩
theorem place_m (A : Dat e n) (a : α) : ∀ l : List α, SeqAt.dataPlace (l.map A.p) (A.p a) = l.findIdx? fun b => decide (b = a)
  | [] => rfl
  | b :: l => by
    have ih := place_m A a l
    unfold SeqAt.dataPlace at ih ⊢
    rw [List.map_cons, List.findIdx?_cons, List.findIdx?_cons, ih, A.eq]
/-- the first one is left out -/
def eraseT {α : Type} [DecidableEq α] (l : List α) (a : α) : List α := match l with
  | [] => []
  | b :: l => if b = a then l else b :: eraseT l a
theorem erase_idx (a : α) : ∀ (l : List α) (j : Nat), (l.findIdx? fun b => decide (b = a)) = some j → l.eraseIdx j = eraseT l a
  | [], j, h => by cases h
  | b :: l, j, h => by
    rw [List.findIdx?_cons] at h
    by_cases c : b = a
    · subst c
      simp at h
      subst h
      simp [eraseT]
    · simp only [c, decide_false, Bool.false_eq_true, if_false, Option.map_eq_some_iff] at h
      obtain ⟨k, hk, rfl⟩ := h
      rw [List.eraseIdx_cons_succ, erase_idx a l k hk, eraseT, if_neg c]
theorem m_rem {A : Dat e n} (R : DatR A) (hn : n ≤ 60) {l : List α} {a : α} (h : memT a l = true) : remM (toD (eL e l)) (toDs [e a]) = some (toD .non, toD (eL e (eraseT l a))) := by
  have hp : ∃ j, (l.findIdx? fun b => decide (b = a)) = some j := by
    cases e : l.findIdx? fun b => decide (b = a) with
    | some j => exact ⟨j, rfl⟩
    | none =>
      rw [List.findIdx?_eq_none_iff] at e
      have := e a (memT_iff.mp h)
      simp at this
  obtain ⟨j, hj⟩ := hp
  show (match pyOfL (toDs (l.map e)), pyOf (toD (e a)) with
    | some ps, some p => if PyData.plainAll ps = true ∧ p.plain = true ∧ p.depth ≤ 60 then (match SeqAt.dataPlace ps p with
      | some j => some (D.non, D.lst ((toDs (l.map e)).eraseIdx j))
      | none => none) else none
    | _, _ => none) = _
  rw [pyOfL_eq A, A.py]
  dsimp only
  rw [if_pos ⟨plainAll_m R l, R.pl a, Nat.le_trans (A.dp a) hn⟩, place_m, hj]
  dsimp only
  rw [toDs_eq, eraseIdx_m, eraseIdx_m, erase_idx a l j hj, ← toDs_eq]
  rfl
end
end KT
namespace KT
open PySem KS
def tryT {α : Type} (t : O α) (h : Nat → List DV → O α) : O α := match t with
  | .ok a => .ok a
  | .exc c fs _ => h c fs
  | .bad => .bad
@[simp] theorem tryT_ok {α : Type} (a : α) (h : Nat → List DV → O α) : tryT (.ok a) h = .ok a := rfl
@[simp] theorem tryT_exc {α : Type} (c : Nat) (fs st : List DV) (h : Nat → List DV → O α) : tryT (.exc c fs st) h = h c fs := rfl
@[simp] theorem tryT_bad {α : Type} (h : Nat → List DV → O α) : tryT .bad h = .bad := rfl
section
variable {α : Type} {E : α → DV} {fr fr1 : Fr} {n : Nat} {g : Sv} {hs : List Hd} {h : Hd} {t ta tb : O α} {th : Nat → List DV → O α} {KE : List DV → Fr → Prop} {K : α → Fl → Fr → Prop} {c : Nat} {fs : List DV}
theorem s_tryR (hb : Rf (g fr) tb K (fun _ s => s = fr)) (hh : ∀ c fs st, tb = .exc c fs st → Rf (if c < n then hand hs c (toDs fs) fr else .bad) (th c fs) K KE) : Rf (sTry n g hs fr) (tryT tb th) K KE := by
  unfold sTry
  cases ht : tb with
  | bad => exact ⟨trivial⟩
  | ok a =>
    rw [ht] at hb
    obtain ⟨d, s, e, k⟩ := hb
    rw [e]
    exact ⟨d, s, rfl, k⟩
  | exc c fs st =>
    have hb' := hb
    rw [ht] at hb'
    obtain ⟨s, e, rfl⟩ := hb'
    rw [e]
    exact hh c fs st ht
theorem s_tryL (q : Rf (sTry n g hs fr) t K KE) : Rf (sSeq (sTry n g hs) sNx fr) t K KE := by
  have e : sSeq (sTry n g hs) sNx fr = sTry n g hs fr := by
    unfold sSeq sNx
    cases sTry n g hs fr with
    | ok fl s => cases fl <;> rfl
    | exc c fs s => rfl
    | bad => rfl
  rw [e]
  exact q
theorem hd_ck {r : Res Fr Fl} (q : c < n → Rf r t K KE) : Rf (if c < n then r else .bad) (O.ck (c < n) t) K KE := by
  unfold O.ck
  split
  · next hc => exact q hc
  · exact ⟨trivial⟩
theorem hd_cons (hy : h.t c = true → Rf (suiteE h c (toDs fs) fr) ta K KE) (hn : Rf (hand hs c (toDs fs) fr) tb K KE) : Rf (hand (h :: hs) c (toDs fs) fr) (if h.t c = true then ta else tb) K KE := by
  show Rf (if h.t c = true then _ else _) _ K KE
  split
  · next k => exact hy k
  · exact hn
theorem hd_nil (k : KE [] fr) : Rf (hand [] c (toDs fs) fr) (.exc c fs []) K KE := ⟨fr, rfl, k⟩
theorem su_in {K1 : α → Fl → Fr → Prop} {KE1 : List DV → Fr → Prop} (hf : inN fr h.nm = fr1) (hb : Rf (h.g c (toDs fs) fr1) t K1 KE1) (hK : ∀ a fl s, K1 a fl s → K a fl (outN s h.nm)) : Rf (suiteE h c (toDs fs) fr) t.no K KE := by
  subst hf
  unfold suiteE
  cases ht : t with
  | bad => exact ⟨trivial⟩
  | exc c' fs' st => exact ⟨trivial⟩
  | ok a =>
    rw [ht] at hb
    obtain ⟨d, s, e, k⟩ := hb
    rw [e]
    exact ⟨d, _, rfl, hK _ _ _ k⟩
theorem kd_out {a : α} {fl : Fl} {s : Fr} {nm : Option Nat} (k : KD E os0 a fl s) : KD E os0 a fl (outN s nm) := ⟨k.1, fun _ h => by cases h⟩
/-- a def that the exception is handed to -/
def RfX (o : Option D) (t : O α) (E : α → DV) : Prop := ∀ a, t = .ok a → o = some (toD (E a))
theorem fnx_rf {m : Nat} {gx : Nat → List D → Sv} {fr0 : Fr} {KE : List DV → Fr → Prop} (h0 : startF m [.tup [.var 0]] = fr0) (q : Rf (gx c (toDs fs) fr0) t (KD E os0) KE) : RfX (runX m gx c (toDs fs)) t E := by
  intro a e
  subst e
  obtain ⟨d, s, e, k, _⟩ := q
  unfold runX
  rw [h0, e]
  rcases k with k | ⟨k, k2⟩
  · rw [k]
  · rw [k, k2]
    rfl
def xfT (ko : Option Nat) (fs : List DV) : Option DV := ko.bind (fs[·]?)
theorem v_xf {i : Nat} {ko : Option Nat} {v : DV} (hi : exIn i fr = true) (h : xfT ko fs = some v) : V fr (eXf i ko (toDs fs)) v := by
  unfold V eXf
  rw [if_pos hi]
  cases ko with
  | none => cases h
  | some j =>
    have h : fs[j]? = some v := h
    show (match (toDs fs)[j]? with | some d => Res.ok d fr | none => Res.bad) = _
    rw [toDs_get, h]
    rfl
theorem v_isE {i : Nat} {b : Bool} (hi : exIn i fr = true) : V fr (eIsE i b) (.bl b) := by
  unfold V eIsE
  rw [if_pos hi]
  rfl
theorem v_callX {i : Nat} {o : Option D} {a : α} (hF : RfX o t E) (ha : t = .ok a) (hi : exIn i fr = true) : V fr (eCallX i o) (E a) := by
  unfold V eCallX
  rw [if_pos hi, hF a ha]
  dsimp only
  rw [if_pos (pers_toD _)]
end
/-- the text of a value -/
def reprV (v : DV) : Option Str := reprD (toD v)
theorem f_repr {v : DV} {x : Str} (h : reprV v = some x) : F1 reprF v (.str x) := by
  unfold F1 reprF
  have h : reprD (toD v) = some x := h
  rw [h]
  rfl
theorem v_eq {fr : Fr} {f : Ev} {v w : DV} (h : v = w) (q : V fr f v) : V fr f w := h ▸ q
end KT
namespace KT
open PySem KS
def comp2T {α β : Type} (l : List α) (b : α → O (List β)) : O (List β) := match l with
  | [] => .ok []
  | a :: l => (b a).bind fun x => (comp2T l b).bind fun y => .ok (x ++ y)
def turn2 (c : Bv) (h1 : Iv) (vs1 : List Nat) (t1 : Tv) (c1 : Bv) (e : Ev) (fr1 : Fr) : Res Fr (List D) := (c fr1).bind fun b fr2 => if b = true then (h1 fr2).bind fun ds1 fr3 => compL vs1 t1 c1 e ds1 fr3 else .ok [] fr2
section
variable {α γ β δ : Type} {E : α → DV} {E2 : γ → DV} {vs vs1 : List Nat} {tg t1 : Tv} {c c1 : Bv} {h1 : Iv} {e : Ev} {fr : Fr} {K : β → δ → Fr → Prop} {KE : List DV → Fr → Prop} {k : D → Fr → Res Fr δ}
theorem compL2_turn (ds : List D) (d : D) (fr0 : Fr) : compL2 vs tg c h1 vs1 t1 c1 e (d :: ds) fr0 = match tg d (wipeF fr0 vs) with
    | none => .bad
    | some fr1 => (turn2 c h1 vs1 t1 c1 e fr1).bind fun r fr4 => (compL2 vs tg c h1 vs1 t1 c1 e ds fr4).bind fun r2 fr5 => .ok (r ++ r2) fr5 := by
  rw [compL2]
  cases tg d (wipeF fr0 vs) with
  | none => rfl
  | some fr1 =>
    dsimp only
    unfold turn2
    generalize compL2 vs tg c h1 vs1 t1 c1 e ds = F
    cases c fr1 with
    | bad => rfl
    | exc k fs fr2 => rfl
    | ok b fr2 =>
      dsimp only [Res.bind]
      cases b with
      | false =>
        rw [if_neg Bool.false_ne_true, if_neg Bool.false_ne_true]
        show F fr2 = (F fr2).bind fun r2 fr5 => .ok ([] ++ r2) fr5
        cases F fr2 <;> rfl
      | true =>
        rw [if_pos rfl, if_pos rfl]
        cases h1 fr2 with
        | bad => rfl
        | exc k fs fr3 => rfl
        | ok ds1 fr3 => rfl
theorem compL2_x {tb : α → O (List γ)} (ht : ∀ a, (tg (toD (E a)) (wipeF fr vs)).isSome = true)
    (hb : ∀ a, Rf (turn2 c h1 vs1 t1 c1 e (tgF tg vs (E a) fr)) (tb a) (fun ys out fr' => out = ys.map (fun y => toD (E2 y)) ∧ wipeF fr' vs = wipeF fr vs) fun _ _ => True) :
    ∀ (l : List α) (fr0 : Fr), wipeF fr0 vs = wipeF fr vs → ∀ p, comp2T l tb = .ok p → ∃ fr2, compL2 vs tg c h1 vs1 t1 c1 e (l.map fun a => toD (E a)) fr0 = .ok (p.map fun y => toD (E2 y)) fr2 ∧ wipeF fr2 vs = wipeF fr vs
  | [], fr0, h0, p, hp => by cases hp; exact ⟨fr0, rfl, h0⟩
  | a :: l, fr0, h0, p, hp => by
    unfold comp2T at hp
    have h1' := hb a
    cases hq : tb a with
    | bad => rw [hq] at hp; cases hp
    | exc k fs st => rw [hq] at hp; cases hp
    | ok o =>
      rw [hq] at hp h1'
      obtain ⟨o', fr3, e1, rfl, w1⟩ := h1'
      have hp : ((comp2T l tb).bind fun y => O.ok (o ++ y)) = .ok p := hp
      cases hr : comp2T l tb with
      | bad => rw [hr] at hp; cases hp
      | exc k fs st => rw [hr] at hp; cases hp
      | ok q =>
        rw [hr] at hp
        cases hp
        obtain ⟨fr2, e2, w2⟩ := compL2_x ht hb l fr3 w1 q hr
        refine ⟨fr2, ?_, w2⟩
        rw [List.map_cons, compL2_turn, h0, tgF_eq (ht a)]
        dsimp only
        rw [e1, Res.bind, e2, List.map_append]
        rfl
theorem x_comp2 {t : List γ → O β} {hI : Iv} {l : List α} {tb : α → O (List γ)} (hi : VI fr hI l E fr) (ht : ∀ a, (tg (toD (E a)) (wipeF fr vs)).isSome = true)
    (hb : ∀ a, Rf (turn2 c h1 vs1 t1 c1 e (tgF tg vs (E a) fr)) (tb a) (fun ys out fr' => out = ys.map (fun y => toD (E2 y)) ∧ wipeF fr' vs = wipeF fr vs) fun _ _ => True)
    (q : ∀ p, Rf (k (toD (eL E2 p)) fr) (t p) K KE) : Rf ((eComp2 vs hI tg c h1 vs1 t1 c1 e fr).bind k) ((comp2T l tb).no.bind fun p => O.ck (p.length ≤ 16777216) (t p)) K KE := by
  refine Rf.no fun p hp => Rf.ck fun hl => ?_
  obtain ⟨fr2, e1, w⟩ := compL2_x ht hb l fr rfl p hp
  unfold eComp2
  rw [hi, Res.bind, e1]
  dsimp only
  rw [if_pos (by rw [List.length_map]; exact Nat.le_trans hl (by decide))]
  show Rf ((Res.ok (D.lst _) (restF fr fr2 vs)).bind k) _ _ _
  rw [restF_wipe fr w, restF_self, ← toDs_map]
  exact q p
/-- the second clause, behind the first -/
theorem t2_yes {α1 : Type} {E1 : α1 → DV} {l1 : List α1} {frx : Fr} {tb1 : α1 → Unit → O (Option γ × Unit)} (h11 : ∀ i ∈ vs1, i ∈ vs) (hw : wipeF frx vs = wipeF fr vs) (hi : VI frx h1 l1 E1 frx) (ht : ∀ a, (t1 (toD (E1 a)) (wipeF frx vs1)).isSome = true)
    (hb : ∀ a s, Rf (turnF c1 e (tgF t1 vs1 (E1 a) frx)) (tb1 a s) (fun p o fr' => o = p.1.map (fun y => toD (E2 y)) ∧ wipeF fr' vs1 = wipeF frx vs1) fun _ _ => True) :
    Rf (turn2 bYes h1 vs1 t1 c1 e frx) ((compT l1 () tb1).no.bind fun p => .ok p.1) (fun ys out fr' => out = ys.map (fun y => toD (E2 y)) ∧ wipeF fr' vs = wipeF fr vs) (fun _ _ => True) := by
  refine Rf.no fun p hp => ?_
  obtain ⟨fr2, e1, w⟩ := compL_x (G := fun _ : Unit => frx) (fun a s => tgF_eq (ht a)) hb l1 () frx rfl p hp
  show Rf ((h1 frx).bind fun ds1 fr3 => compL vs1 t1 c1 e ds1 fr3) _ _ _
  rw [hi, Res.bind, e1]
  refine ⟨_, _, rfl, rfl, ?_⟩
  rw [← hw, ← wipeF_wipeF h11, w, wipeF_wipeF h11]
theorem tgw {d : DV} (h : (tg (toD d) (wipeF fr vs)).isSome = true) (hg : TgIn tg vs) : wipeF (tgF tg vs d fr) vs = wipeF fr vs := (hg _ _ _ (tgF_eq h)).trans (wipeF_wipe fr vs)
theorem sub_dec {vs vs1 : List Nat} (h : (vs1.all fun i => decide (i ∈ vs)) = true) : ∀ i ∈ vs1, i ∈ vs := fun i hi => of_decide_eq_true (List.all_eq_true.mp h i hi)
end
end KT
namespace KT
open PySem KS
section
variable {α : Type} {f : α → DV} {fr : Fr} {e e2 : Ev} {δ : Type} {KE : List DV → Fr → Prop}
theorem f_ltA {i j : Int} : F2 ltA (.int i) (.int j) (.bl (decide (i < j))) := rfl
theorem s_fz1 {β : Type} {K : β → Fl → Fr → Prop} {t : O β} {i : Nat} {g b : Sv} {fr' : Fr} (hf : fz1 i fr = fr') (q : Rf (sSeq g b fr') t K KE) : Rf (sSeq (fzS i g) b fr) t K KE := by
  subst hf
  exact q
end
end KT
namespace KT
open PySem KS
end KT
namespace KT
open PySem KS
end KT
namespace KT
open PySem KS
theorem f_andI {a b : Int} : F2 andF (.int a) (.int b) (.int (Builtin.bitAnd a b)) := rfl
theorem f_xorI {a b : Int} : F2 xorF (.int a) (.int b) (.int (Builtin.bitXor a b)) := rfl
def shlC (a b : Int) : Prop := 0 ≤ b ∧ b ≤ 1000000 ∧ a.natAbs < 2 ^ 64
instance (a b : Int) : Decidable (shlC a b) := by unfold shlC; exact inferInstance
theorem f_shl {a b : Int} (h : shlC a b) : F2 shlF (.int a) (.int b) (.int (a * 2 ^ b.toNat)) := by
  unfold F2 shlF
  show (if 0 ≤ b ∧ b ≤ 1000000 ∧ a.natAbs < 2 ^ 64 then some (D.int (a * 2 ^ b.toNat)) else none) = _
  rw [if_pos (show 0 ≤ b ∧ b ≤ 1000000 ∧ a.natAbs < 2 ^ 64 from h)]
  rfl
end KT
namespace KT
open PySem KS
end KT
namespace KT
open PySem KS
end KT
namespace KT
open PySem KS
end KT
namespace KT
open PySem KS
def scal : DV → Bool
  | .non => true
  | .bl _ => true
  | .int _ => true
  | .str _ => true
  | _ => false
end KT
namespace KT
open PySem KS
end KT
namespace KT
open PySem KS
end KT
namespace KT
open PySem KS
end KT
namespace KT
open PySem KS
end KT
namespace KT
open PySem KS
end KT
namespace KT
open PySem KS
def okS (n : Int) : Prop := okR n ∧ n.toNat ≤ 16777216
instance (n : Int) : Decidable (okS n) := by unfold okS; exact inferInstance
theorem rg_toD (n : Int) : rangeD 0 n.toNat = toDs ((rngT 0 n).map eI) := by
  have : rangeD 0 (n - 0).toNat = (rngT 0 n).map fun a => toD (eI a) := (rangeD_eq (i := 0) (n := n))
  rw [Int.sub_zero] at this
  rw [this, toDs_m]
theorem f_rgT {n : Int} (h : okS n) : F1 rgTF (eI n) (eT eI (rngT 0 n)) := by
  show (if okI n = true ∧ n.toNat ≤ 16777216 then some (D.tup (rangeD 0 n.toNat)) else none) = some (D.tup (toDs ((rngT 0 n).map eI)))
  rw [if_pos ⟨okI_of h.1, h.2⟩, rg_toD]
end KT
namespace KT
open PySem KS
end KT
namespace KT
open PySem KS
end KT
namespace KT
open PySem KS
end KT
namespace KT
open PySem KS
end KT
namespace KT
open PySem KS
end KT
namespace KT
open PySem KS
end KT
namespace KT
open PySem KS
end KT
namespace KT
open PySem KS
end KT
namespace KT
open PySem KS
end KT
namespace KT
open PySem KS
theorem ints_toDs : ∀ p : List Int, intsOf (toDs (p.map eI)) = some p
  | [] => rfl
  | x :: p => by
    show (intsOf (toDs (p.map eI))).map (x :: ·) = _
    rw [ints_toDs p]; rfl
theorem f_sortTI {l : List Int} : F1 sortTIF (eT eI l) (eL eI (l.mergeSort leI)) := by
  unfold F1
  show (intsOf (toDs (l.map eI))).map (fun ns => D.lst ((ns.mergeSort leI).map D.int)) = _
  rw [ints_toDs]
  show some (D.lst ((l.mergeSort leI).map D.int)) = some (toD (eL eI (l.mergeSort leI)))
  congr 1
  show D.lst _ = D.lst (toDs ((l.mergeSort leI).map eI))
  congr 1
  rw [toDs_eq, List.map_map]
  rfl
end KT
namespace KT
open PySem KS
variable {α : Type} {e : α → DV}
theorem ev2_map {β : Type} (f : α → β) (l : List α) : ev2 (l.map f) = (ev2 l).map f := by
  unfold ev2
  rw [List.length_map, List.map_filterMap]
  congr 1
  funext k
  rw [List.getElem?_map]
theorem f_ev2L {l : List α} : F1 ev2LF (eL e l) (eL e (ev2 l)) := by
  show some (D.lst (ev2 (toDs (l.map e)))) = some (D.lst (toDs ((ev2 l).map e)))
  rw [toDs_m, toDs_m, ev2_map]
end KT
namespace KT
open PySem KS
/-- ends well, with P -/
def Oks {α : Type} (t : O α) (P : α → Prop) : Prop := ∃ a, t = .ok a ∧ P a
section
variable {α β σ ρ γ : Type}
theorem oks_ok {a : α} {P : α → Prop} (h : P a) : Oks (.ok a) P := ⟨a, rfl, h⟩
theorem Oks.imp {t : O α} {P Q : α → Prop} (h : Oks t P) (i : ∀ a, P a → Q a) : Oks t Q := let ⟨a, e, p⟩ := h; ⟨a, e, i a p⟩
theorem oks_bind {t : O α} {k : α → O β} {P : α → Prop} {Q : β → Prop} (h : Oks t P) (q : ∀ a, P a → Oks (k a) Q) : Oks (t.bind k) Q := by
  obtain ⟨a, rfl, p⟩ := h
  exact q a p
theorem oks_no {t : O α} {P : α → Prop} (h : Oks t P) : Oks t.no P := by
  obtain ⟨a, rfl, p⟩ := h
  exact ⟨a, rfl, p⟩
theorem oks_call {t : O α} {k : α → O β} {P : α → Prop} {Q : β → Prop} (h : Oks t P) (q : ∀ a, P a → Oks (k a) Q) : Oks (t.no.bind k) Q := oks_bind (oks_no h) q
theorem oks_ck {c : Prop} [Decidable c] {t : O α} {Q : α → Prop} (h : c) (q : Oks t Q) : Oks (O.ck c t) Q := by
  unfold O.ck
  rw [if_pos h]
  exact q
theorem oks_opt {o : Option α} {k : α → O β} {Q : β → Prop} {a : α} (h : o = some a) (q : Oks (k a) Q) : Oks ((O.opt o).bind k) Q := by
  subst h
  exact q
theorem oks_lt {a : α} {k : α → O β} {Q : β → Prop} (q : Oks (k a) Q) : Oks (O.lt a k) Q := q
theorem oks_if {c : Prop} [Decidable c] {t u : O α} {Q : α → Prop} (h1 : c → Oks t Q) (h2 : ¬ c → Oks u Q) : Oks (if c then t else u) Q := by
  split
  · next h => exact h1 h
  · next h => exact h2 h
theorem oks_ifb {b : Bool} {t u : O α} {Q : α → Prop} (h1 : b = true → Oks t Q) (h2 : b = false → Oks u Q) : Oks (if b = true then t else u) Q := by
  cases b
  · exact h2 rfl
  · exact h1 rfl
theorem Oks.eq {t : O α} {a : α} (h : t = .ok a) : Oks t (· = a) := ⟨a, h, rfl⟩
theorem Oks.to {t : O α} {a : α} (h : Oks t (· = a)) : t = .ok a := by obtain ⟨b, e, rfl⟩ := h; exact e
@[simp] theorem no_ok (a : α) : (O.ok a).no = .ok a := rfl
@[simp] theorem opt_some (a : α) : O.opt (some a) = .ok a := rfl
@[simp] theorem opt_none : O.opt (none : Option α) = .bad := rfl
theorem ck_pos {c : Prop} [Decidable c] {t : O α} (h : c) : O.ck c t = t := if_pos h
theorem oks_fold {l : List α} {s0 : σ} {b : α → σ → O σ} (I : List α → σ → Prop) {Q : σ → Prop} (h0 : I [] s0) (hb : ∀ pre a post s, l = pre ++ a :: post → I pre s → Oks (b a s) (I (pre ++ [a]))) (hq : ∀ s, I l s → Q s) : Oks (foldT l s0 b) Q := by
  suffices h : ∀ (post pre : List α) (s : σ), l = pre ++ post → I pre s → Oks (foldT post s b) Q by
    exact h l [] s0 rfl h0
  intro post
  induction post with
  | nil =>
    intro pre s e h
    rw [List.append_nil] at e
    exact ⟨s, rfl, hq s (e ▸ h)⟩
  | cons a post ih =>
    intro pre s e h
    exact oks_bind (hb pre a post s e h) fun s2 h2 => ih (pre ++ [a]) s2 (by rw [e]; simp) h2
theorem oks_loop {l : List α} {s0 : σ} {b : α → σ → O (Fw ρ σ)} (I : List α → σ → Prop) {Q : Fw ρ σ → Prop} (h0 : I [] s0) (hb : ∀ pre a post s, l = pre ++ a :: post → I pre s → Oks (b a s) fun w => match w with
    | .nx s => I (pre ++ [a]) s
    | .brk s => Q (.nx s)
    | .ret r => Q (.ret r)) (hq : ∀ s, I l s → Q (.nx s)) : Oks (loopT l s0 b) Q := by
  suffices h : ∀ (post pre : List α) (s : σ), l = pre ++ post → I pre s → Oks (loopT post s b) Q by
    exact h l [] s0 rfl h0
  intro post
  induction post with
  | nil =>
    intro pre s e h
    rw [List.append_nil] at e
    exact ⟨.nx s, rfl, hq s (e ▸ h)⟩
  | cons a post ih =>
    intro pre s e h
    unfold loopT
    refine oks_bind (hb pre a post s e h) fun w h2 => ?_
    cases w with
    | nx s2 => exact ih (pre ++ [a]) s2 (by rw [e]; simp) h2
    | brk s2 => exact ⟨_, rfl, h2⟩
    | ret r => exact ⟨_, rfl, h2⟩
theorem oks_aft {t : O (Fw ρ σ)} {k : σ → O β} {r : ρ → O β} {P : Fw ρ σ → Prop} {Q : β → Prop} (h : Oks t P) (hk : ∀ s, P (.nx s) → Oks (k s) Q) (hb : ∀ s, P (.brk s) → Oks (k s) Q) (hr : ∀ x, P (.ret x) → Oks (r x) Q) : Oks (t.aft k r) Q := by
  obtain ⟨w, rfl, p⟩ := h
  cases w with
  | nx s => exact hk s p
  | brk s => exact hb s p
  | ret x => exact hr x p
@[simp] theorem aft_nx (s : σ) (k : σ → O β) (r : ρ → O β) : (O.ok (Fw.nx (ρ := ρ) s)).aft k r = k s := rfl
@[simp] theorem aft_ret (x : ρ) (k : σ → O β) (r : ρ → O β) : (O.ok (Fw.ret (σ := σ) x)).aft k r = r x := rfl
/-- a comprehension whose parts hold no state -/
theorem comp_eq {l : List α} {b : α → Unit → O (Option γ × Unit)} {g : α → Option γ} (h : ∀ a ∈ l, b a () = .ok (g a, ())) : compT l () b = .ok (l.filterMap g, ()) := by
  induction l with
  | nil => rfl
  | cons a l ih =>
    unfold compT
    rw [h a (List.mem_cons_self ..), O.bind_ok, ih fun x hx => h x (List.mem_cons_of_mem _ hx), O.bind_ok, List.filterMap_cons]
    cases g a <;> rfl
theorem comp_map {l : List α} {b : α → Unit → O (Option γ × Unit)} {g : α → γ} (h : ∀ a ∈ l, b a () = .ok (some (g a), ())) : compT l () b = .ok (l.map g, ()) := by
  rw [comp_eq (g := fun a => some (g a)) h, List.filterMap_eq_map']
end
theorem mem_rng {i n a : Int} : a ∈ rngT i n ↔ i ≤ a ∧ a < n := by
  unfold rngT
  rw [List.mem_map]
  constructor
  · rintro ⟨k, hk, rfl⟩
    have := List.mem_range.mp hk
    omega
  · rintro ⟨h1, h2⟩
    exact ⟨(a - i).toNat, List.mem_range.mpr (by omega), by omega⟩
theorem rng_len (i n : Int) : (rngT i n).length = (n - i).toNat := by simp [rngT]
theorem rng_get {i n : Int} {k : Nat} (h : k < (n - i).toNat) : (rngT i n)[k]? = some (i + k) := by
  unfold rngT
  rw [List.getElem?_map, List.getElem?_range h]; rfl
theorem rng_sorted (i n : Int) : (rngT i n).Pairwise (· < ·) := by
  unfold rngT
  rw [List.pairwise_map]
  exact List.Pairwise.imp (fun h => by omega) List.pairwise_lt_range
theorem rng_nodup (i n : Int) : (rngT i n).Nodup := (rng_sorted i n).imp fun h => Int.ne_of_lt h
theorem at_nat {α : Type} {l : List α} {i : Int} (h0 : 0 ≤ i) (h : i < l.length) : L2.atI l i = l[i.toNat]? := by
  unfold L2.atI L2.ixN
  rw [if_pos h0, if_pos h]; rfl
theorem at_some {α : Type} {l : List α} {i : Int} (h0 : 0 ≤ i) (h : i < l.length) : ∃ a, L2.atI l i = some a ∧ a ∈ l ∧ l[i.toNat]? = some a := by
  rw [at_nat h0 h]
  have hl : i.toNat < l.length := by omega
  exact ⟨l[i.toNat], List.getElem?_eq_getElem hl, List.getElem_mem hl, List.getElem?_eq_getElem hl⟩
end KT
namespace KT
open PySem KS
mutual
def smV : DV → Bool
  | .non => true
  | .bl _ => true
  | .int i => decide (i.natAbs < 1000000000000)
  | .str x => x.cps.toList.all fun c => decide (c < 16 ^ 8)
  | .tup ds => smL ds
  | .lst ds => smL ds
  | _ => false
def smL : List DV → Bool
  | [] => true
  | d :: ds => smV d && smL ds
end
mutual
def wtV : DV → Nat
  | .int _ => 41
  | .str x => x.cps.size
  | .tup ds => wtL ds
  | .lst ds => wtL ds
  | _ => 0
def wtL : List DV → Nat
  | [] => 0
  | d :: ds => wtV d + 1 + wtL ds
end
mutual
def dpV : DV → Nat
  | .tup ds => dpL ds + 1
  | .lst ds => dpL ds + 1
  | _ => 0
def dpL : List DV → Nat
  | [] => 0
  | d :: ds => max (dpV d) (dpL ds)
end
end KT
namespace KT
open PySem KS
theorem nodup_len : ∀ (K : Nat) {l : List Int}, l.Nodup → (∀ x ∈ l, 0 ≤ x ∧ x < (K : Int)) → l.length ≤ K
  | 0, l, _, h => by
    cases l with
    | nil => exact Nat.le_refl _
    | cons x l => have := h x List.mem_cons_self; omega
  | K + 1, l, hd, h => by
    have h2 : (l.filter fun x => !decide (x = (K : Int))).length ≤ K := nodup_len K (hd.filter _) fun x hx => by
      have h1 := (List.mem_filter.mp hx).1
      have h2 := (List.mem_filter.mp hx).2
      have := h x h1
      simp only [Bool.not_eq_true', decide_eq_false_iff_not] at h2
      omega
    have h3 : l.length ≤ (l.filter fun x => !decide (x = (K : Int))).length + 1 := by
      have : ∀ {l : List Int}, l.Nodup → l.length ≤ (l.filter fun x => !decide (x = (K : Int))).length + 1 := by
        intro l hd
        induction l with
        | nil => simp
        | cons a l ih =>
          rw [List.nodup_cons] at hd
          rw [List.filter_cons]
          by_cases e : a = (K : Int)
          · have : (l.filter fun x => !decide (x = (K : Int))) = l := List.filter_eq_self.mpr fun x hx => by
              simp only [Bool.not_eq_true', decide_eq_false_iff_not]
              intro z
              exact hd.1 (e ▸ z ▸ hx)
            rw [this]
            simp [e]
          · simp only [e, decide_false, Bool.not_false, if_true, List.length_cons]
            have := ih hd.2
            omega
      exact this hd
    omega
theorem cut_at {α : Type} (l : List α) {k : Nat} (h : k ≤ l.length) : cutT l none (some (k : Int)) = l.take k := by
  unfold cutT cutD
  rw [HT.sIx_nat, HT.sIx_none, List.drop_zero, Nat.sub_zero, Nat.min_eq_left h]
theorem at_last {α : Type} {l : List α} (h : l ≠ []) : L2.atI l (-1) = some (l.getLast h) := by
  have hl := List.length_pos_iff.mpr h
  unfold L2.atI L2.ixN
  rw [if_neg (by decide), if_pos (by omega)]
  show l[((-1 : Int) + (l.length : Int)).toNat]? = _
  rw [show ((-1 : Int) + (l.length : Int)).toNat = l.length - 1 by omega, ← List.getLast?_eq_getElem?, List.getLast?_eq_some_getLast h]
/-- a loop that never returns -/
def EndQ {ρ σ : Type} (P : σ → Prop) : Fw ρ σ → Prop
  | .nx s => P s
  | .brk s => P s
  | .ret _ => False
end KT
namespace KT
open PySem KS
structure Sm (k m : Nat) (v : DV) : Prop where
  s : smV v = true
  w : wtV v ≤ k
  d : dpV v ≤ m
theorem Sm.mono {k m k2 m2 : Nat} {v : DV} (h : Sm k m v) (hk : k ≤ k2) (hm : m ≤ m2) : Sm k2 m2 v := ⟨h.s, Nat.le_trans h.w hk, Nat.le_trans h.d hm⟩
def plV : Nat → DV → Bool
  | n + 1, .tup ds => decide (ds.length ≤ 1000000) && ds.all (plV n)
  | _ + 1, .non => true
  | _ + 1, .bl _ => true
  | _ + 1, .int _ => true
  | _ + 1, .str _ => true
  | _, _ => false
theorem eqY_str (x y : Str) : eqY (.str x) (.str y) = some (decide (x = y)) := rfl
theorem eqY_int (x y : Int) : eqY (.int x) (.int y) = some (decide (x = y)) := rfl
theorem eqY_bl (x y : Bool) : eqY (.bl x) (.bl y) = some (decide (x = y)) := rfl
theorem pl_word (n : Nat) (w : List Int) (h : w.length ≤ 1000000) : plV (n + 2) (eT eI w) = true := by
  show (decide ((w.map eI).length ≤ 1000000) && (w.map eI).all (plV (n + 1))) = true
  rw [Bool.and_eq_true, List.length_map, List.all_eq_true]
  exact ⟨decide_eq_true h, fun d hd => by obtain ⟨x, _, rfl⟩ := List.mem_map.mp hd; rfl⟩
end KT
namespace KT
open PySem KS
def jn : List (List Nat) → List Nat
  | [] => []
  | [x] => x
  | x :: y :: r => x ++ 44 :: 32 :: jn (y :: r)
def tt (ts : List (List Nat)) : List Nat := 40 :: (jn ts ++ (if ts.length = 1 then [44, 41] else [41]))
end KT
namespace KT
open PySem KS
end KT
namespace KL
def ix (v : List Int) (j : Nat) : Int := v.getD j 0
theorem dv0 {p e : Int} (h : e = 0) : p ∣ e := by subst h; exact Int.dvd_zero p
theorem dv1 {p e e1 : Int} (a : Int) (h1 : p ∣ e1) (h : e = a * e1) : p ∣ e := by subst h; exact Int.dvd_mul_of_dvd_right h1
theorem dv2 {p e e1 e2 : Int} (a b : Int) (h1 : p ∣ e1) (h2 : p ∣ e2) (h : e = a * e1 + b * e2) : p ∣ e := by
  subst h; exact Int.dvd_add (Int.dvd_mul_of_dvd_right h1) (Int.dvd_mul_of_dvd_right h2)
theorem dv3 {p e e1 e2 e3 : Int} (a b c : Int) (h1 : p ∣ e1) (h2 : p ∣ e2) (h3 : p ∣ e3) (h : e = a * e1 + b * e2 + c * e3) : p ∣ e := by
  subst h; exact Int.dvd_add (Int.dvd_add (Int.dvd_mul_of_dvd_right h1) (Int.dvd_mul_of_dvd_right h2)) (Int.dvd_mul_of_dvd_right h3)
theorem dvm (p x : Int) : p ∣ x % p - x := ⟨-(x / p), by have := Int.mul_ediv_add_emod x p; grind⟩
theorem dvs {p a b : Int} (h : p ∣ a - b) : p ∣ b - a := dv1 (-1) h (by grind)
/-- the span of rows, as words without end -/
inductive Sp (p : Int) (R : List (List Int)) : (Nat → Int) → Prop
  | nil {v : Nat → Int} (h : ∀ j, p ∣ v j) : Sp p R v
  | add {v w : Nat → Int} {r : List Int} (a : Int) (hr : r ∈ R) (hv : Sp p R v) (h : ∀ j, p ∣ w j - (v j + a * ix r j)) : Sp p R w
theorem Sp.cong {p : Int} {R : List (List Int)} {v w : Nat → Int} (h : Sp p R v) (e : ∀ j, p ∣ w j - v j) : Sp p R w := by
  cases h with
  | nil h => exact .nil fun j => dv2 1 1 (h j) (e j) (by grind)
  | add a hr hv h => exact .add a hr hv fun j => dv2 1 1 (h j) (e j) (by grind)
theorem Sp.plus {p : Int} {R : List (List Int)} {v u : Nat → Int} (hv : Sp p R v) (hu : Sp p R u) : ∀ {w : Nat → Int} (b : Int), (∀ j, p ∣ w j - (v j + b * u j)) → Sp p R w := by
  induction hu with
  | nil h => exact fun b e => hv.cong fun j => dv2 1 b (e j) (h j) (by grind)
  | @add u' u'' r a hr _ h ih =>
    intro w b e
    exact .add (b * a) hr (ih (w := fun j => v j + b * u' j) b fun j => dv0 (by grind)) fun j => dv2 1 b (e j) (h j) (by grind)
theorem Sp.mem {p : Int} {R : List (List Int)} {r : List Int} (h : r ∈ R) : Sp p R (ix r) :=
  .add (v := fun _ => 0) 1 h (.nil fun _ => Int.dvd_zero p) fun j => dv0 (by grind)
theorem Sp.sub {p : Int} {R R' : List (List Int)} (h : ∀ r ∈ R, Sp p R' (ix r)) {v : Nat → Int} (hv : Sp p R v) : Sp p R' v := by
  induction hv with
  | nil h => exact .nil h
  | add a hr _ e ih => exact ih.plus (h _ hr) a e
theorem Sp.mono {p : Int} {R R' : List (List Int)} (h : ∀ r ∈ R, r ∈ R') {v : Nat → Int} (hv : Sp p R v) : Sp p R' v := Sp.sub (fun r m => .mem (h r m)) hv
/-- sums -/
def sm : Nat → (Nat → Int) → Int
  | 0, _ => 0
  | n + 1, f => sm n f + f n
/-- a row's product with a word -/
def dt (n : Nat) (r v : Nat → Int) : Int := sm n fun j => r j * v j
/-- the word with given letters at the pivots -/
def lin : List (Nat × List Int) → (Nat → Int) → Nat → Int
  | [], _, _ => 0
  | (c, m) :: t, v, j => v c * ix m j + lin t v j
theorem lin_lin {p : Int} {v w u : Nat → Int} (a : Int) (h : ∀ j, p ∣ w j - (v j + a * u j)) (j : Nat) : ∀ F, p ∣ lin F w j - (lin F v j + a * lin F u j)
  | [] => dv0 (by simp [lin])
  | (c, m) :: t => dv2 (ix m j) 1 (h c) (lin_lin a h j t) (by simp only [lin]; grind)
theorem lin_dv {p : Int} {v : Nat → Int} (j : Nat) : ∀ F : List (Nat × List Int), (∀ q m, (q, m) ∈ F → p ∣ v q * ix m j) → p ∣ lin F v j
  | [], _ => Int.dvd_zero p
  | (c, m) :: t, h => Int.dvd_add (h c m (.head _)) (lin_dv j t fun q m' hm => h q m' (.tail _ hm))
theorem lin_sp {p : Int} {M : List (List Int)} (v : Nat → Int) : ∀ F : List (Nat × List Int), (∀ q m, (q, m) ∈ F → m ∈ M) → Sp p M (lin F v)
  | [], _ => .nil fun _ => Int.dvd_zero p
  | (c, m) :: t, h => .add (v c) (h c m (.head _)) (lin_sp v t fun q m' hm => h q m' (.tail _ hm)) fun j => dv0 (by simp only [lin]; grind)
theorem lin_off {v : Nat → Int} (j : Nat) : ∀ F : List (Nat × List Int), (∀ q m, (q, m) ∈ F → v q = 0) → lin F v j = 0
  | [], _ => rfl
  | (c, m) :: t, h => by simp only [lin]; rw [h c m (.head _), lin_off j t fun q m' hm => h q m' (.tail _ hm)]; grind
theorem lin_delta {v : Nat → Int} {q : Nat} {m : List Int} (j : Nat) : ∀ F : List (Nat × List Int), (F.map (·.1)).Nodup → (q, m) ∈ F → v q = 1 → (∀ q' m', (q', m') ∈ F → q' ≠ q → v q' = 0) → lin F v j = ix m j
  | (c, m') :: t, nd, hm, h1, h0 => by
    simp only [List.map_cons, List.nodup_cons] at nd
    simp only [lin]
    rcases List.mem_cons.1 hm with e | e
    · cases e
      rw [h1, lin_off j t fun q' m'' hq => h0 q' m'' (.tail _ hq) (by rintro rfl; exact nd.1 (List.mem_map.2 ⟨_, hq, rfl⟩))]; grind
    · rw [h0 c m' (.head _) (by rintro rfl; exact nd.1 (List.mem_map.2 ⟨_, e, rfl⟩)), lin_delta j t nd.2 e h1 fun q' m'' hq => h0 q' m'' (.tail _ hq)]; grind
end KL
namespace KL
/-- a word of n letters below p -/
def Wd (p : Int) (n : Nat) (v : List Int) : Prop := v.length = n ∧ ∀ x ∈ v, 0 ≤ x ∧ x < p
theorem Wd.ix {p : Int} {n : Nat} {v : List Int} (h : Wd p n v) (hp : 0 < p) (j : Nat) : 0 ≤ ix v j ∧ ix v j < p := by
  by_cases hj : j < v.length
  · rw [show KL.ix v j = v[j] by simp [KL.ix, List.getD, hj]]; exact h.2 _ (List.getElem_mem hj)
  · rw [show KL.ix v j = 0 by simp [KL.ix, List.getD, List.getElem?_eq_none (Nat.le_of_not_lt hj)]]; omega
theorem ix_off {v : List Int} {j : Nat} (h : v.length ≤ j) : ix v j = 0 := by simp [ix, List.getD, List.getElem?_eq_none h]
theorem ix_in {v : List Int} {j : Nat} (h : j < v.length) : v[j]? = some (ix v j) := by simp [ix, List.getD, h]
theorem Wd.zero {p : Int} {n : Nat} {v : List Int} (h : Wd p n v) (hp : 0 < p) {j : Nat} (d : p ∣ KL.ix v j) : KL.ix v j = 0 := by
  have := h.ix hp j; have e := Int.emod_eq_zero_of_dvd d; rwa [Int.emod_eq_of_lt this.1 this.2] at e
/-- the echelon form M of R, with its pivots -/
structure Ech (p : Int) (n : Nat) (M : List (List Int)) (P : List Nat) : Prop where
  len : P.length = M.length
  w : ∀ m ∈ M, Wd p n m
  lt : ∀ c ∈ P, c < n
  srt : P.Pairwise (· < ·)
  one : ∀ q m, (q, m) ∈ P.zip M → ix m q = 1
  bef : ∀ q m, (q, m) ∈ P.zip M → ∀ j, j < q → ix m j = 0
  off : ∀ q m, (q, m) ∈ P.zip M → ∀ q' ∈ P, q' ≠ q → ix m q' = 0
structure RR (p : Int) (n : Nat) (R M : List (List Int)) (P : List Nat) : Prop extends Ech p n M P where
  sp : ∀ v, Sp p R v ↔ Sp p M v
theorem Ech.nd {p : Int} {n : Nat} {M : List (List Int)} {P : List Nat} (h : Ech p n M P) : P.Nodup := h.srt.imp fun h => Nat.ne_of_lt h
theorem Ech.znd {p : Int} {n : Nat} {M : List (List Int)} {P : List Nat} (h : Ech p n M P) : ((P.zip M).map (·.1)).Nodup := by
  rw [show (fun x : Nat × List Int => x.1) = Prod.fst from rfl, List.map_fst_zip (by have := h.len; omega)]; exact h.nd
theorem Ech.zfst {p : Int} {n : Nat} {M : List (List Int)} {P : List Nat} (h : Ech p n M P) : (P.zip M).map (·.1) = P := by
  rw [show (fun x : Nat × List Int => x.1) = Prod.fst from rfl, List.map_fst_zip (by have := h.len; omega)]
theorem Ech.row {p : Int} {n : Nat} {M : List (List Int)} {P : List Nat} (h : Ech p n M P) {m : List Int} (hm : m ∈ M) : ∃ q, (q, m) ∈ P.zip M := by
  have e : (P.zip M).map (·.2) = M := by rw [show (fun x : Nat × List Int => x.2) = Prod.snd from rfl, List.map_snd_zip (by have := h.len; omega)]
  rw [← e] at hm
  obtain ⟨⟨q, m'⟩, h1, rfl⟩ := List.mem_map.1 hm
  exact ⟨q, h1⟩
theorem Ech.piv {p : Int} {n : Nat} {M : List (List Int)} {P : List Nat} (h : Ech p n M P) {q : Nat} (hq : q ∈ P) : ∃ m, (q, m) ∈ P.zip M := by
  rw [← h.zfst] at hq
  obtain ⟨⟨q, m⟩, h1, rfl⟩ := List.mem_map.1 hq
  exact ⟨m, h1⟩
theorem Ech.self {p : Int} {n : Nat} {M : List (List Int)} {P : List Nat} (h : Ech p n M P) {m : List Int} (hm : m ∈ M) (j : Nat) : lin (P.zip M) (ix m) j = ix m j := by
  obtain ⟨q, hq⟩ := h.row hm
  refine lin_delta j _ h.znd hq (h.one q m hq) fun q' m' hq' ne => h.off q m hq q' ?_ ne
  exact (List.of_mem_zip hq').1
theorem Ech.at {p : Int} {n : Nat} {M : List (List Int)} {P : List Nat} (h : Ech p n M P) {v : Nat → Int} {q : Nat} (hq : q ∈ P) : lin (P.zip M) v q = v q := by
  obtain ⟨m, hm⟩ := h.piv hq
  have nd : ((P.zip M).map (·.1)).Nodup := h.znd
  have hone := h.one
  have hoff : ∀ q' m', (q', m') ∈ P.zip M → q ≠ q' → ix m' q = 0 := fun q' m' h' ne => h.off q' m' h' q hq ne
  suffices h : ∀ F : List (Nat × List Int), (F.map (·.1)).Nodup → (∀ q m, (q, m) ∈ F → ix m q = 1) → (∀ q' m', (q', m') ∈ F → q ≠ q' → ix m' q = 0) → (q ∈ F.map (·.1) → lin F v q = v q) ∧ (q ∉ F.map (·.1) → lin F v q = 0) from
    (h _ nd hone hoff).1 (List.mem_map.2 ⟨_, hm, rfl⟩)
  intro F
  induction F with
  | nil => simp [lin]
  | cons x t ih =>
    obtain ⟨c, m'⟩ := x
    intro nd h1 h2
    simp only [List.map_cons, List.nodup_cons] at nd
    obtain ⟨ih1, ih2⟩ := ih nd.2 (fun q m hm => h1 q m (.tail _ hm)) fun q m hm => h2 q m (.tail _ hm)
    simp only [List.map_cons, List.mem_cons, lin]
    refine ⟨fun hh => ?_, fun hh => ?_⟩
    · by_cases e : q = c
      · subst e; rw [h1 q m' (.head _), ih2 nd.1]; grind
      · rw [h2 c m' (.head _) e, ih1 (hh.resolve_left e)]; grind
    · rw [h2 c m' (.head _) fun e => hh (.inl e), ih2 fun e => hh (.inr e)]; grind
theorem Ech.expand {p : Int} {n : Nat} {M : List (List Int)} {P : List Nat} (h : Ech p n M P) {v : Nat → Int} (hv : Sp p M v) (j : Nat) : p ∣ v j - lin (P.zip M) v j := by
  induction hv with
  | @nil v hz => exact dv2 1 (-1) (hz j) (lin_dv (p := p) (v := v) j (P.zip M) fun q m _ => dv1 (ix m j) (hz q) (by grind)) (by grind)
  | @add v w r a hr _ e ih => exact dv3 1 1 (-1) (e j) ih (lin_lin a e j (P.zip M)) (by rw [h.self hr]; grind)
theorem Ech.collect {p : Int} {n : Nat} {M : List (List Int)} {P : List Nat} (h : Ech p n M P) {v : Nat → Int} (e : ∀ j, p ∣ v j - lin (P.zip M) v j) : Sp p M v :=
  (lin_sp v (P.zip M) fun q m hm => (List.of_mem_zip hm).2).cong e
/-- the pivots are the span's own -/
theorem Ech.lead {p : Int} (hp : 1 < p) {n : Nat} {M : List (List Int)} {P : List Nat} (h : Ech p n M P) (c : Nat) : c ∈ P ↔ ∃ v, Sp p M v ∧ (∀ j, j < c → p ∣ v j) ∧ ¬ p ∣ v c := by
  constructor
  · intro hc
    obtain ⟨m, hm⟩ := h.piv hc
    refine ⟨ix m, .mem (List.of_mem_zip hm).2, fun j hj => dv0 (h.bef c m hm j hj), ?_⟩
    rw [h.one c m hm]
    intro d; have := Int.le_of_dvd (by omega) d; omega
  · rintro ⟨v, hv, hz, hn⟩
    refine Classical.byContradiction fun hc => hn ?_
    have hl : p ∣ lin (P.zip M) v c := lin_dv c _ fun q m hm => by
      by_cases hq : q < c
      · exact dv1 (ix m c) (hz q hq) (by grind)
      · have : q ≠ c := by rintro rfl; exact hc (List.of_mem_zip hm).1
        exact dv0 (by rw [h.bef q m hm c (by omega)]; grind)
    exact dv2 1 1 (h.expand hv c) hl (by grind)
theorem nodup_le {α : Type} [DecidableEq α] : ∀ {l l' : List α}, l.Nodup → (∀ x ∈ l, x ∈ l') → l.length ≤ l'.length
  | [], _, _, _ => Nat.zero_le _
  | a :: t, l', nd, h => by
    have ha := h a (.head _)
    have hn := List.nodup_cons.1 nd
    have := nodup_le (l := t) (l' := l'.erase a) hn.2 fun x hx => (List.mem_erase_of_ne (by rintro rfl; exact hn.1 hx)).2 (h x (.tail _ hx))
    rw [List.length_erase_of_mem ha] at this
    have : 0 < l'.length := List.length_pos_of_mem ha
    simp only [List.length_cons]; omega
theorem Ech.sub_piv {p : Int} (hp : 1 < p) {n : Nat} {M M' : List (List Int)} {P P' : List Nat} (h : Ech p n M P) (h' : Ech p n M' P') (s : ∀ v, Sp p M v → Sp p M' v) : ∀ c ∈ P, c ∈ P' := fun c hc => by
  obtain ⟨v, h1, h2⟩ := (h.lead hp c).1 hc
  exact (h'.lead hp c).2 ⟨v, s v h1, h2⟩
end KL
namespace KL
/-- column by column: before column c -/
structure St (p : Int) (n : Nat) (R : List (List Int)) (c : Nat) (left found : List (List Int)) (P : List Nat) : Prop extends Ech p n found P where
  ltc : ∀ q ∈ P, q < c
  wl : ∀ r ∈ left, Wd p n r
  z : ∀ r ∈ left, ∀ j, j < c → ix r j = 0
  sp : ∀ v, Sp p R v ↔ Sp p (left ++ found) v
theorem St.start {p : Int} {n : Nat} {R : List (List Int)} (h : ∀ r ∈ R, Wd p n r) : St p n R 0 R [] [] where
  len := rfl
  w := fun _ h => nomatch h
  lt := fun _ h => nomatch h
  srt := .nil
  one := fun _ _ h => nomatch h
  bef := fun _ _ h => nomatch h
  off := fun _ _ h => nomatch h
  ltc := fun _ h => nomatch h
  wl := h
  z := fun _ _ j hj => absurd hj (Nat.not_lt_zero j)
  sp := fun v => by rw [List.append_nil]
theorem St.fin {p : Int} {n : Nat} {R : List (List Int)} {left found : List (List Int)} {P : List Nat} (h : St p n R n left found P) : RR p n R found P :=
  { h.toEch with sp := fun v => (h.sp v).trans ⟨fun hv => Sp.sub (fun r hr => by
      rcases List.mem_append.1 hr with hl | hf
      · refine .nil fun j => dv0 ?_
        by_cases hj : j < n
        · exact h.z r hl j hj
        · exact ix_off (by rw [(h.wl r hl).1]; omega)
      · exact .mem hf) hv, fun hv => hv.mono fun r hr => List.mem_append_right _ hr⟩ }
/-- a row less so many times another -/
def lessR (p : Int) (n c : Nat) (g r : List Int) : List Int := (List.range n).map fun j => (ix r j - ix r c * ix g j) % p
def scale (p a : Int) (h : List Int) : List Int := h.map fun x => (a * x) % p
theorem ix_scale {p a : Int} {h : List Int} (j : Nat) : ix (scale p a h) j = (a * ix h j) % p := by
  by_cases hj : j < h.length
  · simp [ix, scale, List.getD, hj]
  · rw [ix_off (v := h) (by omega), ix_off (by simp [scale]; omega)]; simp
theorem ix_less {p : Int} {n c : Nat} {g r : List Int} (hg : g.length = n) (hr : r.length = n) (j : Nat) : ix (lessR p n c g r) j = (ix r j - ix r c * ix g j) % p := by
  by_cases hj : j < n
  · simp [ix, lessR, List.getD, hj]
  · rw [ix_off (v := r) (by omega), ix_off (v := g) (by omega), ix_off (by simp [lessR]; omega)]; simp
theorem wd_less {p : Int} (hp : 0 < p) {n c : Nat} {g r : List Int} : Wd p n (lessR p n c g r) :=
  ⟨by simp [lessR], fun x hx => by
    obtain ⟨j, _, rfl⟩ := List.mem_map.1 hx
    exact ⟨Int.emod_nonneg _ (by omega), Int.emod_lt_of_pos _ hp⟩⟩
theorem wd_scale {p a : Int} (hp : 0 < p) {n : Nat} {h : List Int} (w : h.length = n) : Wd p n (scale p a h) :=
  ⟨by simp [scale, w], fun x hx => by
    obtain ⟨j, _, rfl⟩ := List.mem_map.1 hx
    exact ⟨Int.emod_nonneg _ (by omega), Int.emod_lt_of_pos _ hp⟩⟩
/-- how many -/
theorem Ech.le {p : Int} {n : Nat} {M : List (List Int)} {P : List Nat} (h : Ech p n M P) : M.length ≤ n := by
  rw [← h.len]
  have := nodup_le (l := P) (l' := List.range n) h.nd fun x hx => List.mem_range.2 (h.lt x hx)
  simpa using this
end KL
namespace KL
/-- words that all rows of the span send to zero, and that know the span -/
structure Zer (p : Int) (n : Nat) (R N : List (List Int)) : Prop where
  w : ∀ z ∈ N, Wd p n z
  len : N.length ≤ n
  to : ∀ z ∈ N, ∀ v, Sp p R v → p ∣ dt n v (ix z)
  fro : ∀ r : Nat → Int, (∀ j, n ≤ j → r j = 0) → (∀ z ∈ N, p ∣ dt n r (ix z)) → Sp p R r
theorem ix_rep {n j : Nat} : ix (List.replicate n 0) j = 0 := by
  unfold ix
  rw [List.getD, List.getElem?_replicate]
  split <;> rfl
theorem wd_rep {p : Int} (hp : 0 < p) {n : Nat} : Wd p n (List.replicate n 0) := ⟨List.length_replicate, fun x hx => by rw [(List.mem_replicate.1 hx).2]; omega⟩
end KL
namespace KL
theorem sorted_eq : ∀ {l l' : List Nat}, l.Pairwise (· < ·) → l'.Pairwise (· < ·) → (∀ x, x ∈ l ↔ x ∈ l') → l = l'
  | [], [], _, _, _ => rfl
  | [], b :: t, _, _, h => absurd ((h b).2 (.head _)) (by simp)
  | a :: t, [], _, _, h => absurd ((h a).1 (.head _)) (by simp)
  | a :: t, b :: u, h1, h2, h => by
    obtain ⟨a1, a2⟩ := List.pairwise_cons.1 h1
    obtain ⟨b1, b2⟩ := List.pairwise_cons.1 h2
    have e : a = b := by
      have x := (h a).1 (.head _)
      have y := (h b).2 (.head _)
      rcases List.mem_cons.1 x with x | x
      · exact x
      · rcases List.mem_cons.1 y with y | y
        · exact y.symm
        · have := b1 a x; have := a1 b y; omega
    subst e
    rw [sorted_eq a2 b2 fun x => ?_]
    constructor
    · intro hx
      rcases List.mem_cons.1 ((h x).1 (.tail _ hx)) with rfl | hx'
      · exact absurd (a1 x hx) (Nat.lt_irrefl _)
      · exact hx'
    · intro hx
      rcases List.mem_cons.1 ((h x).2 (.tail _ hx)) with rfl | hx'
      · exact absurd (b1 x hx) (Nat.lt_irrefl _)
      · exact hx'
theorem word_ext {p : Int} (hp : 1 < p) {n : Nat} {v w : List Int} (hv : Wd p n v) (hw : Wd p n w) (h : ∀ j, p ∣ ix v j - ix w j) : v = w := by
  refine List.ext_getElem? fun j => ?_
  by_cases hj : j < n
  · rw [ix_in (by rw [hv.1]; exact hj), ix_in (by rw [hw.1]; exact hj)]
    have a := hv.ix (by omega) j
    have b := hw.ix (by omega) j
    have e : ix v j % p = ix w j % p := Int.emod_eq_emod_iff_emod_sub_eq_zero.2 (Int.emod_eq_zero_of_dvd (h j))
    rw [Int.emod_eq_of_lt a.1 a.2, Int.emod_eq_of_lt b.1 b.2] at e
    rw [e]
  · rw [List.getElem?_eq_none (by rw [hv.1]; omega), List.getElem?_eq_none (by rw [hw.1]; omega)]
/-- the reduced form is one -/
theorem Ech.uniq {p : Int} (hp : 1 < p) {n : Nat} {M M' : List (List Int)} {P P' : List Nat} (h : Ech p n M P) (h' : Ech p n M' P') (s : ∀ v, Sp p M v ↔ Sp p M' v) : M = M' := by
  have e : P = P' := sorted_eq h.srt h'.srt fun c => ⟨h.sub_piv hp h' (fun v => (s v).1) c, h'.sub_piv hp h (fun v => (s v).2) c⟩
  subst e
  refine List.ext_getElem? fun k => ?_
  have hl := h.len
  have hl' := h'.len
  by_cases hk : k < M.length
  · have hk' : k < M'.length := by omega
    have hkP : k < P.length := by omega
    rw [List.getElem?_eq_getElem hk, List.getElem?_eq_getElem hk']
    have z1 : (P[k], M[k]) ∈ P.zip M := List.mem_iff_getElem?.2 ⟨k, List.getElem?_zip_eq_some.2 ⟨List.getElem?_eq_getElem hkP, List.getElem?_eq_getElem hk⟩⟩
    have z2 : (P[k], M'[k]) ∈ P.zip M' := List.mem_iff_getElem?.2 ⟨k, List.getElem?_zip_eq_some.2 ⟨List.getElem?_eq_getElem hkP, List.getElem?_eq_getElem hk'⟩⟩
    congr 1
    refine word_ext hp (h.w _ (List.getElem_mem hk)) (h'.w _ (List.getElem_mem hk')) fun j => ?_
    have := h'.expand ((s _).1 (.mem (List.getElem_mem hk))) j
    rwa [lin_delta j _ h'.znd z2 (h.one _ _ z1) fun q' m'' hq' ne => h.off _ _ z1 q' (List.of_mem_zip hq').1 ne] at this
  · rw [List.getElem?_eq_none (by omega), List.getElem?_eq_none (by omega)]
theorem RR.uniq {p : Int} (hp : 1 < p) {n : Nat} {R M M' : List (List Int)} {P P' : List Nat} (h : RR p n R M P) (h' : RR p n R M' P') : M = M' :=
  h.toEch.uniq hp h'.toEch fun v => (h.sp v).symm.trans (h'.sp v)
end KL
namespace KL
end KL
namespace KL
theorem ech_insert {p : Int} (hp : 1 < p) {n : Nat} {M : List (List Int)} {P : List Nat} (s : Ech p n M P) {c : Nat} (hc : c < n) {g : List Int} (wg : Wd p n g) (gc : ix g c = 1) (g0 : ∀ j, j < c → ix g j = 0) (gp : ∀ q ∈ P, ix g q = 0)
    {k : Nat} (h1 : ∀ q ∈ P.take k, q < c) (h2 : ∀ q ∈ P.drop k, c < q) :
    Ech p n (((M.map (lessR p n c g)).take k ++ [g]) ++ (M.map (lessR p n c g)).drop k) ((P.take k ++ [c]) ++ P.drop k) ∧
    ∀ v, Sp p (M ++ [g]) v ↔ Sp p (((M.map (lessR p n c g)).take k ++ [g]) ++ (M.map (lessR p n c g)).drop k) v := by
  have lx : ∀ r, r.length = n → ∀ j, ix (lessR p n c g r) j = (ix r j - ix r c * ix g j) % p := fun r h j => ix_less wg.1 h j
  have md : ∀ {r} (w : Wd p n r) (j : Nat), ix g j = 0 → ix (lessR p n c g r) j = ix r j := fun {r} w j e => by
    rw [lx r w.1, e, Int.mul_zero, Int.sub_zero, Int.emod_eq_of_lt (w.ix (by omega) j).1 (w.ix (by omega) j).2]
  have mc : ∀ {r} (w : Wd p n r), ix (lessR p n c g r) c = 0 := fun {r} w => by rw [lx r w.1, gc, Int.mul_one, Int.sub_self]; simp
  have mn : ∀ {r} (w : Wd p n r) (j : Nat), ix r c = 0 → ix (lessR p n c g r) j = ix r j := fun {r} w j e => by
    rw [lx r w.1, e, Int.zero_mul, Int.sub_zero, Int.emod_eq_of_lt (w.ix (by omega) j).1 (w.ix (by omega) j).2]
  have ms : ∀ q, q ∈ P ↔ q ∈ P.take k ∨ q ∈ P.drop k := fun q => by
    have e := List.take_append_drop k P
    constructor
    · intro h; rw [← e] at h; exact List.mem_append.1 h
    · intro h; rw [← e]; exact List.mem_append.2 h
  have hz : ∀ {q m}, (q, m) ∈ ((P.take k ++ [c]) ++ P.drop k).zip (((M.map (lessR p n c g)).take k ++ [g]) ++ (M.map (lessR p n c g)).drop k) → (∃ m', (q, m') ∈ P.zip M ∧ m = lessR p n c g m' ∧ Wd p n m') ∨ (q = c ∧ m = g) := fun {q m} h => by
    have el : (P.take k).length = ((M.map (lessR p n c g)).take k).length := by rw [List.length_take, List.length_take, List.length_map, s.len]
    rw [List.zip_append (by rw [List.length_append, List.length_append, el]; rfl), List.zip_append el] at h
    have up : (q, m) ∈ P.zip (M.map (lessR p n c g)) → ∃ m', (q, m') ∈ P.zip M ∧ m = lessR p n c g m' ∧ Wd p n m' := fun h => by
      rw [List.zip_map_right] at h
      obtain ⟨⟨q', m'⟩, h1, h2⟩ := List.mem_map.1 h
      cases h2
      exact ⟨m', h1, rfl, s.w _ (List.of_mem_zip h1).2⟩
    have ez : P.zip (M.map (lessR p n c g)) = (P.take k).zip ((M.map (lessR p n c g)).take k) ++ (P.drop k).zip ((M.map (lessR p n c g)).drop k) := by
      rw [← List.zip_append el, List.take_append_drop, List.take_append_drop]
    rw [ez] at up
    rcases List.mem_append.1 h with h | h
    · rcases List.mem_append.1 h with h | h
      · exact .inl (up (List.mem_append_left _ h))
      · have : (q, m) = (c, g) := by simpa using h
        cases this
        exact .inr ⟨rfl, rfl⟩
    · exact .inl (up (List.mem_append_right _ h))
  have hmm : ∀ m, m ∈ (((M.map (lessR p n c g)).take k ++ [g]) ++ (M.map (lessR p n c g)).drop k) ↔ m ∈ M.map (lessR p n c g) ∨ m = g := fun m => by
    have e := List.take_append_drop k (M.map (lessR p n c g))
    constructor
    · intro h
      rcases List.mem_append.1 h with h | h
      · rcases List.mem_append.1 h with h | h
        · exact .inl (List.take_subset _ _ h)
        · exact .inr (by simpa using h)
      · exact .inl (List.drop_subset _ _ h)
    · intro h
      rcases h with h | h
      · rw [← e] at h
        rcases List.mem_append.1 h with h | h
        · exact List.mem_append_left _ (List.mem_append_left _ h)
        · exact List.mem_append_right _ h
      · subst h; simp
  have hpp : ∀ q, q ∈ ((P.take k ++ [c]) ++ P.drop k) → q ∈ P ∨ q = c := fun q h => by
    rcases List.mem_append.1 h with h | h
    · rcases List.mem_append.1 h with h | h
      · exact .inl ((ms q).2 (.inl h))
      · exact .inr (by simpa using h)
    · exact .inl ((ms q).2 (.inr h))
  have ne : ∀ q ∈ P, q ≠ c := fun q hq e => by
    rcases (ms q).1 hq with h | h
    · have := h1 q h; omega
    · have := h2 q h; omega
  refine ⟨
    { len := by simp [s.len]
      w := fun m hm => ?_
      lt := fun q hq => ?_
      srt := ?_
      one := fun q m h => ?_
      bef := fun q m h j hj => ?_
      off := fun q m h q' hq' nq => ?_ }, fun v => ⟨Sp.sub fun r hr => ?_, Sp.sub fun r hr => ?_⟩⟩
  · rcases (hmm m).1 hm with h | h
    · obtain ⟨m', _, rfl⟩ := List.mem_map.1 h; exact wd_less (by omega)
    · exact h ▸ wg
  · rcases hpp q hq with h | h
    · exact s.lt q h
    · exact h ▸ hc
  · have e := s.srt
    rw [← List.take_append_drop k P, List.pairwise_append] at e
    obtain ⟨e1, e2, e3⟩ := e
    rw [List.pairwise_append, List.pairwise_append]
    refine ⟨⟨e1, List.pairwise_singleton _ _, fun a ha b hb => ?_⟩, e2, fun a ha b hb => ?_⟩
    · simp only [List.mem_singleton] at hb; rw [hb]; exact h1 a ha
    · rcases List.mem_append.1 ha with ha | ha
      · exact e3 a ha b hb
      · simp only [List.mem_singleton] at ha; rw [ha]; exact h2 b hb
  · rcases hz h with ⟨m', h3, rfl, wm⟩ | ⟨rfl, rfl⟩
    · rw [md wm q (gp q (List.of_mem_zip h3).1), s.one q m' h3]
    · exact gc
  · rcases hz h with ⟨m', h3, rfl, wm⟩ | ⟨rfl, rfl⟩
    · have hq := (List.of_mem_zip h3).1
      rcases (ms q).1 hq with h4 | h4
      · rw [md wm j (g0 j (by have := h1 q h4; omega)), s.bef q m' h3 j hj]
      · rw [mn wm j (s.bef q m' h3 c (h2 q h4)), s.bef q m' h3 j hj]
    · exact g0 j hj
  · rcases hz h with ⟨m', h3, rfl, wm⟩ | ⟨rfl, rfl⟩
    · rcases hpp q' hq' with h4 | h4
      · rw [md wm q' (gp q' h4), s.off q m' h3 q' h4 nq]
      · subst h4; exact mc wm
    · rcases hpp q' hq' with h4 | h4
      · exact gp q' h4
      · exact absurd h4 nq
  · have sg : Sp p (((M.map (lessR p n c g)).take k ++ [g]) ++ (M.map (lessR p n c g)).drop k) (ix g) := .mem ((hmm g).2 (.inr rfl))
    rcases List.mem_append.1 hr with hr | hr
    · exact (Sp.mem ((hmm _).2 (.inl (List.mem_map.2 ⟨r, hr, rfl⟩)))).plus sg (ix r c) fun j => by
        rw [lx r (s.w r hr).1]; exact dv1 (-1) (dvm p (ix r j - ix r c * ix g j)) (by grind)
    · simp only [List.mem_singleton] at hr; exact hr ▸ sg
  · have sg : Sp p (M ++ [g]) (ix g) := .mem (by simp)
    rcases (hmm r).1 hr with hr | hr
    · obtain ⟨m', hm', rfl⟩ := List.mem_map.1 hr
      exact (Sp.mem (List.mem_append_left _ hm')).plus sg (-(ix m' c)) fun j => by
        rw [lx m' (s.w m' hm').1]; exact dv1 1 (dvm p (ix m' j - ix m' c * ix g j)) (by grind)
    · exact hr ▸ sg
/-- what a span with a row more holds -/
theorem Sp.snoc {p : Int} (hp : 0 < p) {R : List (List Int)} {r : List Int} {v : Nat → Int} (h : Sp p (R ++ [r]) v) : ∃ b : Int, 0 ≤ b ∧ b < p ∧ Sp p R fun j => v j - b * ix r j := by
  have h2 : ∃ b : Int, Sp p R fun j => v j - b * ix r j := by
    induction h with
    | nil h => exact ⟨0, Sp.nil fun j => by have := h j; simpa using this⟩
    | @add v w m a hm hv e ih =>
      obtain ⟨b, hb⟩ := ih
      rcases List.mem_append.1 hm with hm | hm
      · exact ⟨b, (hb.plus (.mem hm) a) fun j => dv1 1 (e j) (by grind)⟩
      · simp only [List.mem_singleton] at hm
        subst hm
        exact ⟨b + a, hb.cong fun j => dv1 1 (e j) (by grind)⟩
  obtain ⟨b, hb⟩ := h2
  refine ⟨b % p, Int.emod_nonneg _ (by omega), Int.emod_lt_of_pos _ hp, hb.cong fun j => dv1 (-(ix r j)) (dvm p b) (by grind)⟩
end KL
namespace KL
end KL
namespace KL
theorem Zer.off {p : Int} {n : Nat} {R N : List (List Int)} (z : Zer p n R N) {x : List Int} (hx : x ∈ N) : ∀ j, n ≤ j → ix x j = 0 := fun j hj => ix_off (by rw [(z.w x hx).1]; exact hj)
end KL
namespace KL
theorem snoc_ind {α : Type} {P : List α → Prop} (h0 : P []) (hs : ∀ l a, P l → P (l ++ [a])) (l : List α) : P l := by
  rw [← List.reverse_reverse l]
  induction l.reverse with
  | nil => exact h0
  | cons a t ih => rw [List.reverse_cons]; exact hs _ _ ih
def Rk (p : Int) (n : Nat) (R : List (List Int)) (k : Nat) : Prop := ∃ M P, RR p n R M P ∧ M.length = k
theorem Rk.uniq {p : Int} (hp : 1 < p) {n : Nat} {R : List (List Int)} {k k' : Nat} (h : Rk p n R k) (h' : Rk p n R k') : k = k' := by
  obtain ⟨M, P, h, rfl⟩ := h
  obtain ⟨M', P', h', rfl⟩ := h'
  rw [h.uniq hp h']
theorem rk_nil (p : Int) (n : Nat) : Rk p n [] 0 := ⟨[], [], { len := rfl, w := (fun _ h => nomatch h), lt := (fun _ h => nomatch h), srt := .nil, one := (fun _ _ h => nomatch h), bef := (fun _ _ h => nomatch h), off := (fun _ _ h => nomatch h), sp := fun _ => .rfl }, rfl⟩
theorem sp_nil {p : Int} {v : Nat → Int} (h : Sp p [] v) : ∀ j, p ∣ v j := by
  cases h with
  | nil h => exact h
  | add a hr _ _ => cases hr
theorem Sp.times {p : Int} {R : List (List Int)} {v w : Nat → Int} (h : Sp p R v) (c : Int) (e : ∀ j, p ∣ w j - c * v j) : Sp p R w :=
  (Sp.nil (v := fun _ => 0) fun _ => Int.dvd_zero p).plus h c fun j => dv1 1 (e j) (by grind)
end KL
namespace KL
theorem cut_at {c : Nat} : ∀ {P : List Nat}, P.Pairwise (· < ·) → c ∉ P → ∃ k, (∀ q ∈ P.take k, q < c) ∧ (∀ q ∈ P.drop k, c < q)
  | [], _, _ => ⟨0, by simp, by simp⟩
  | q :: P, h, hc => by
    rw [List.pairwise_cons] at h
    rw [List.mem_cons, not_or] at hc
    by_cases e : q < c
    · obtain ⟨k, h1, h2⟩ := cut_at h.2 hc.2
      exact ⟨k + 1, fun x hx => by
        rw [List.take_succ_cons] at hx
        rcases List.mem_cons.1 hx with rfl | hx
        · exact e
        · exact h1 x hx, fun x hx => by rw [List.drop_succ_cons] at hx; exact h2 x hx⟩
    · refine ⟨0, by simp, fun x hx => ?_⟩
      rw [List.drop_zero] at hx
      rcases List.mem_cons.1 hx with rfl | hx
      · omega
      · have := h.1 x hx
        omega
theorem least_at {Q : Nat → Prop} : ∀ {n : Nat}, (∃ j, j < n ∧ Q j) → ∃ c, c < n ∧ Q c ∧ ∀ j, j < c → ¬ Q j
  | 0, ⟨j, h, _⟩ => absurd h (Nat.not_lt_zero j)
  | n + 1, h => by
    by_cases e : ∃ j, j < n ∧ Q j
    · obtain ⟨c, h1, h2, h3⟩ := least_at e
      exact ⟨c, by omega, h2, h3⟩
    · obtain ⟨j, hj, hq⟩ := h
      have : j = n := by
        refine Classical.byContradiction fun z => e ⟨j, by omega, hq⟩
      subst this
      exact ⟨j, by omega, hq, fun i hi hqi => e ⟨i, hi, hqi⟩⟩
theorem ix_rng {n : Nat} {f : Nat → Int} (j : Nat) : ix ((List.range n).map f) j = if j < n then f j else 0 := by
  unfold ix
  rw [List.getD_eq_getElem?_getD, List.getElem?_map]
  by_cases h : j < n
  · rw [List.getElem?_range h, if_pos h]; rfl
  · rw [List.getElem?_eq_none (by rw [List.length_range]; omega), if_neg h]; rfl
theorem wd_rng {p : Int} (hp : 0 < p) {n : Nat} {f : Nat → Int} : Wd p n ((List.range n).map fun j => f j % p) := ⟨by rw [List.length_map, List.length_range], fun x hx => by
  obtain ⟨j, _, rfl⟩ := List.mem_map.1 hx
  exact ⟨Int.emod_nonneg _ (by omega), Int.emod_lt_of_pos _ hp⟩⟩
theorem lin_out {p : Int} {n : Nat} {M : List (List Int)} {P : List Nat} (h : Ech p n M P) {v : Nat → Int} {j : Nat} (hj : n ≤ j) : p ∣ lin (P.zip M) v j := by
  refine lin_dv j _ fun q m hm => ?_
  rw [ix_off (by rw [(h.w m (List.of_mem_zip hm).2).1]; exact hj), Int.mul_zero]
  exact Int.dvd_zero p
theorem rr_step {p : Int} (hp : 1 < p) (inv : ∀ x : Int, 0 < x → x < p → ∃ b, p ∣ b * x - 1) {n : Nat} {R M : List (List Int)} {P : List Nat} (h : RR p n R M P) {r : List Int} (wr : Wd p n r) :
    (Sp p R (ix r) ∧ RR p n (R ++ [r]) M P) ∨ (¬ Sp p R (ix r) ∧ ∃ M' P', RR p n (R ++ [r]) M' P' ∧ M'.length = M.length + 1) := by
  have e := h.toEch
  have up : ∀ x ∈ R, x ∈ R ++ [r] := fun x hx => List.mem_append_left _ hx
  by_cases hs : Sp p R (ix r)
  · refine .inl ⟨hs, { toEch := e, sp := fun v => ⟨fun hv => (h.sp v).1 (Sp.sub (fun x hx => ?_) hv), fun hv => ((h.sp v).2 hv).mono up⟩ }⟩
    rcases List.mem_append.1 hx with hx | hx
    · exact .mem hx
    · rw [List.mem_singleton.1 hx]; exact hs
  · refine .inr ⟨hs, ?_⟩
    obtain ⟨g0, hg0⟩ : ∃ g0, g0 = (List.range n).map fun j => (ix r j - lin (P.zip M) (ix r) j) % p := ⟨_, rfl⟩
    have w0 : Wd p n g0 := by rw [hg0]; exact wd_rng (by omega)
    have i0 : ∀ j, p ∣ ix g0 j - (ix r j - lin (P.zip M) (ix r) j) := fun j => by
      rw [hg0, ix_rng]
      split
      · exact dvm p _
      · next hj =>
        rw [ix_off (by rw [wr.1]; omega)]
        exact dv1 1 (lin_out e (v := ix r) (j := j) (by omega)) (by grind)
    have hne : ∃ j, j < n ∧ ix g0 j ≠ 0 := by
      refine Classical.byContradiction fun z => hs ((h.sp _).2 (e.collect fun j => ?_))
      have : ix g0 j = 0 := by
        by_cases hj : j < n
        · exact Classical.byContradiction fun y => z ⟨j, hj, y⟩
        · exact ix_off (by rw [w0.1]; omega)
      have := i0 j
      exact dv1 (-1) this (by grind)
    obtain ⟨c, hc, hgc, hlt⟩ := least_at hne
    have hb := w0.ix (by omega) c
    obtain ⟨b, hb1⟩ := inv (ix g0 c) (by omega) hb.2
    have wg : Wd p n (scale p b g0) := wd_scale (by omega) w0.1
    have gc : ix (scale p b g0) c = 1 := by
      rw [ix_scale]
      obtain ⟨t, ht⟩ := hb1
      have : b * ix g0 c = 1 + p * t := by omega
      rw [this, Int.add_mul_emod_self_left, Int.emod_eq_of_lt (by decide) hp]
    have gz : ∀ j, ix g0 j = 0 → ix (scale p b g0) j = 0 := fun j z => by rw [ix_scale, z, Int.mul_zero, Int.zero_emod]
    have gP : ∀ q ∈ P, ix g0 q = 0 := fun q hq => by
      rw [hg0, ix_rng, if_pos (e.lt q hq), e.at hq, Int.sub_self, Int.zero_emod]
    have hcP : c ∉ P := fun z => hgc (gP c z)
    obtain ⟨k, h1, h2⟩ := cut_at e.srt hcP
    obtain ⟨e1, e2⟩ := ech_insert hp e hc wg gc (fun j hj => gz j (Classical.byContradiction fun z => hlt j hj z)) (fun q hq => gz q (gP q hq)) h1 h2
    refine ⟨_, _, { toEch := e1, sp := fun v => Iff.trans ⟨fun hv => Sp.sub (fun x hx => ?_) hv, fun hv => Sp.sub (fun x hx => ?_) hv⟩ (e2 v) }, ?_⟩
    · rcases List.mem_append.1 hx with hx | hx
      · exact ((h.sp _).1 (.mem hx)).mono fun y hy => List.mem_append_left _ hy
      · rw [List.mem_singleton.1 hx]
        refine Sp.plus ((lin_sp (p := p) (ix r) (P.zip M) fun q m hm => (List.of_mem_zip hm).2).mono fun y hy => List.mem_append_left _ hy) (Sp.mem (r := scale p b g0) (by simp)) (ix g0 c) fun j => ?_
        have q1 := i0 j
        have q2 : p ∣ ix (scale p b g0) j - b * ix g0 j := by rw [ix_scale]; exact dvm p _
        exact dv3 (-1) (-(ix g0 c)) (-(ix g0 j)) q1 q2 hb1 (by grind)
    · rcases List.mem_append.1 hx with hx | hx
      · exact ((h.sp _).2 (.mem hx)).mono up
      · rw [List.mem_singleton.1 hx]
        have hr : Sp p (R ++ [r]) (ix r) := .mem (by simp)
        have hl : Sp p (R ++ [r]) (lin (P.zip M) (ix r)) := ((h.sp _).2 (lin_sp (p := p) (ix r) (P.zip M) fun q m hm => (List.of_mem_zip hm).2)).mono up
        refine Sp.times (hr.plus hl (w := fun j => ix r j - lin (P.zip M) (ix r) j) (-1) fun j => dv0 (by grind)) b fun j => ?_
        have q1 := i0 j
        have q2 : p ∣ ix (scale p b g0) j - b * ix g0 j := by rw [ix_scale]; exact dvm p _
        exact dv2 1 b q2 q1 (by grind)
    · have hk := congrArg List.length (List.take_append_drop k (M.map (lessR p n c (scale p b g0))))
      simp only [List.length_append, List.length_map, List.length_cons, List.length_nil] at hk ⊢
      omega
theorem rr_ex {p : Int} (hp : 1 < p) (inv : ∀ x : Int, 0 < x → x < p → ∃ b, p ∣ b * x - 1) {n : Nat} (R : List (List Int)) : (∀ r ∈ R, Wd p n r) → ∃ M P, RR p n R M P ∧ M.length ≤ R.length := by
  refine snoc_ind (P := fun R => (∀ r ∈ R, Wd p n r) → ∃ M P, RR p n R M P ∧ M.length ≤ R.length) ?_ ?_ R
  · intro _
    obtain ⟨M, P, h, hl⟩ := rk_nil p n
    exact ⟨M, P, h, by rw [hl]; exact Nat.zero_le _⟩
  · intro R r ih hw
    obtain ⟨M, P, h, hl⟩ := ih fun x hx => hw x (List.mem_append_left _ hx)
    rcases rr_step hp inv h (hw r (by simp)) with ⟨_, h'⟩ | ⟨_, M', P', h', hl'⟩
    · exact ⟨M, P, h', by rw [List.length_append]; omega⟩
    · exact ⟨M', P', h', by rw [List.length_append, List.length_singleton]; omega⟩
end KL
namespace KL
def plusR (p : Int) (n : Nat) (w r : List Int) (t : Int) : List Int := (List.range n).map fun j => (ix w j + t * ix r j) % p
def stepL (p : Int) (n : Nat) (S : List (List Int)) (r : List Int) : List (List Int) := if r ∈ S then S else S.flatMap fun w => (List.range p.toNat).map fun (t : Nat) => plusR p n w r (t : Int)
structure SPn (p : Int) (n : Nat) (R S : List (List Int)) : Prop where
  nd : S.Nodup
  mem : ∀ v, v ∈ S ↔ Wd p n v ∧ Sp p R (ix v)
  len : ∀ M P, RR p n R M P → S.length = p.toNat ^ M.length
theorem wd_plusR {p : Int} (hp : 0 < p) {n : Nat} {w r : List Int} {t : Int} : Wd p n (plusR p n w r t) := wd_rng hp
theorem ix_plusR {p : Int} {n : Nat} {w r : List Int} {t : Int} (hw : w.length = n) (hr : r.length = n) (j : Nat) : p ∣ ix (plusR p n w r t) j - (ix w j + t * ix r j) := by
  unfold plusR
  rw [ix_rng]
  split
  · exact dvm p _
  · next h =>
    rw [ix_off (v := w) (by omega), ix_off (v := r) (by omega)]
    exact dv0 (by grind)
theorem plusR_inj {p : Int} (hp : 1 < p) (inv : ∀ x : Int, 0 < x → x < p → ∃ b, p ∣ b * x - 1) {n : Nat} {R : List (List Int)} {r w w' : List Int} {t t' : Int} (wr : Wd p n r) (hr : ¬ Sp p R (ix r)) (ww : Wd p n w) (ww' : Wd p n w') (hw : Sp p R (ix w)) (hw' : Sp p R (ix w')) (t0 : 0 ≤ t) (t1 : t < p) (s0 : 0 ≤ t') (s1 : t' < p)
    (h : plusR p n w r t = plusR p n w' r t') : t = t' ∧ w = w' := by
  have key : ∀ j, p ∣ (ix w j + t * ix r j) - (ix w' j + t' * ix r j) := fun j => by
    have a := ix_plusR (p := p) (t := t) ww.1 wr.1 j
    have b := ix_plusR (p := p) (t := t') ww'.1 wr.1 j
    rw [h] at a
    exact dv2 (-1) 1 a b (by grind)
  have e : t = t' := by
    refine Classical.byContradiction fun ne => hr ?_
    obtain ⟨x, hx⟩ : ∃ x, x = (t - t') % p := ⟨_, rfl⟩
    have x0 : 0 ≤ x := by rw [hx]; exact Int.emod_nonneg _ (by omega)
    have x1 : x < p := by rw [hx]; exact Int.emod_lt_of_pos _ (by omega)
    have xne : x ≠ 0 := fun z => by
      rw [hx] at z
      obtain ⟨k, hk⟩ := Int.dvd_of_emod_eq_zero z
      have h1 : -p < p * k := by omega
      have h2 : p * k < p := by omega
      have k0 : k = 0 := by
        refine Classical.byContradiction fun kn => ?_
        rcases Int.lt_or_gt_of_ne kn with kl | kg
        · have := Int.mul_le_mul_of_nonneg_left (show k ≤ -1 by omega) (show 0 ≤ p by omega)
          omega
        · have := Int.mul_le_mul_of_nonneg_left (show 1 ≤ k by omega) (show 0 ≤ p by omega)
          omega
      rw [k0] at hk
      omega
    obtain ⟨b, hb⟩ := inv x (by omega) x1
    have hb' : p ∣ b * (t - t') - 1 := by
      have := dvm p (t - t')
      rw [← hx] at this
      exact dv2 1 (-b) hb this (by grind)
    refine Sp.times (hw'.plus hw (w := fun j => ix w' j - ix w j) (-1) fun j => dv0 (by grind)) b fun j => ?_
    exact dv2 (-(ix r j)) b hb' (key j) (by grind)
  refine ⟨e, word_ext hp ww ww' fun j => ?_⟩
  subst e
  exact dv1 1 (key j) (by grind)
theorem SPn.nil {p : Int} (hp : 1 < p) {n : Nat} : SPn p n [] [List.replicate n 0] where
  nd := by simp
  mem := fun v => by
    rw [List.mem_singleton]
    constructor
    · rintro rfl
      exact ⟨wd_rep (by omega), .nil fun j => by rw [ix_rep]; exact Int.dvd_zero p⟩
    · rintro ⟨h1, h2⟩
      exact word_ext hp h1 (wd_rep (by omega)) fun j => by rw [ix_rep]; exact dv1 1 (sp_nil h2 j) (by grind)
  len := fun M P h => by
    have : M.length = 0 := Rk.uniq hp ⟨M, P, h, rfl⟩ (rk_nil p n)
    rw [this]; rfl
theorem SPn.step {p : Int} (hp : 1 < p) (inv : ∀ x : Int, 0 < x → x < p → ∃ b, p ∣ b * x - 1) {n : Nat} {R S : List (List Int)} (h : SPn p n R S) (hR : ∀ r ∈ R, Wd p n r) {r : List Int} (wr : Wd p n r) : SPn p n (R ++ [r]) (stepL p n S r) := by
  obtain ⟨M0, P0, h0, _⟩ := rr_ex hp inv R hR
  have l0 := h.len _ _ h0
  unfold stepL
  by_cases hm : r ∈ S
  · rw [if_pos hm]
    have hs := ((h.mem r).1 hm).2
    refine { nd := h.nd, mem := fun v => ?_, len := fun M P h' => ?_ }
    · rw [h.mem v]
      refine and_congr_right fun _ => ⟨fun x => x.mono fun y hy => List.mem_append_left _ hy, fun x => Sp.sub (fun y hy => ?_) x⟩
      rcases List.mem_append.1 hy with hy | hy
      · exact .mem hy
      · rw [List.mem_singleton.1 hy]; exact hs
    · rcases rr_step hp inv h0 wr with ⟨_, h1⟩ | ⟨h1, _⟩
      · rw [RR.uniq hp h' h1]; exact l0
      · exact absurd hs h1
  · rw [if_neg hm]
    have hs : ¬ Sp p R (ix r) := fun z => hm ((h.mem r).2 ⟨wr, z⟩)
    have hpn : ((p.toNat : Nat) : Int) = p := by omega
    refine { nd := ?_, mem := fun v => ?_, len := fun M P h' => ?_ }
    · refine List.pairwise_flatMap.2 ⟨fun w hw => ?_, List.Pairwise.imp_of_mem (fun {w w' : List Int} hw hw' (ne : w ≠ w') => ?_) (show S.Pairwise (· ≠ ·) from h.nd)⟩
      · obtain ⟨a1, a2⟩ := (h.mem w).1 hw
        refine List.pairwise_map.2 (List.Pairwise.imp_of_mem (fun {t t' : Nat} ht ht' (ne : t ≠ t') e => ?_) (show (List.range p.toNat).Pairwise (· ≠ ·) from List.nodup_range))
        have ht := List.mem_range.1 ht
        have ht' := List.mem_range.1 ht'
        have := (plusR_inj hp inv wr hs a1 a1 a2 a2 (by omega) (by omega) (by omega) (by omega) e).1
        omega
      · intro x hx y hy e
        obtain ⟨t, ht, rfl⟩ := List.mem_map.1 hx
        obtain ⟨t', ht', rfl⟩ := List.mem_map.1 hy
        have ht := List.mem_range.1 ht
        have ht' := List.mem_range.1 ht'
        obtain ⟨a1, a2⟩ := (h.mem w).1 hw
        obtain ⟨b1, b2⟩ := (h.mem w').1 hw'
        exact ne (plusR_inj hp inv wr hs a1 b1 a2 b2 (by omega) (by omega) (by omega) (by omega) e).2
    · rw [List.mem_flatMap]
      constructor
      · rintro ⟨w, hw, hv⟩
        obtain ⟨t, ht, rfl⟩ := List.mem_map.1 hv
        obtain ⟨a1, a2⟩ := (h.mem w).1 hw
        exact ⟨wd_plusR (by omega), Sp.plus (a2.mono fun y hy => List.mem_append_left _ hy) (Sp.mem (r := r) (by simp)) (t : Int) fun j => ix_plusR a1.1 wr.1 j⟩
      · rintro ⟨wv, hv⟩
        obtain ⟨b, b0, b1, hb⟩ := Sp.snoc (by omega) hv
        have ww : Wd p n ((List.range n).map fun j => (ix v j - b * ix r j) % p) := wd_rng (by omega)
        have iw : ∀ j, p ∣ ix ((List.range n).map fun j => (ix v j - b * ix r j) % p) j - (ix v j - b * ix r j) := fun j => by
          rw [ix_rng]
          split
          · exact dvm p _
          · next hj =>
            rw [ix_off (v := v) (by rw [wv.1]; omega), ix_off (v := r) (by rw [wr.1]; omega)]
            exact dv0 (by grind)
        refine ⟨_, (h.mem _).2 ⟨ww, hb.cong iw⟩, List.mem_map.2 ⟨b.toNat, List.mem_range.2 (by omega), ?_⟩⟩
        refine word_ext hp (wd_plusR (by omega)) wv fun j => ?_
        have q1 := ix_plusR (p := p) (t := ((b.toNat : Nat) : Int)) ww.1 wr.1 j
        rw [show ((b.toNat : Nat) : Int) = b by omega] at q1 ⊢
        exact dv2 1 1 q1 (iw j) (by grind)
    · rcases rr_step hp inv h0 wr with ⟨h1, _⟩ | ⟨_, M', P', h1, hl⟩
      · exact absurd h1 hs
      · rw [RR.uniq hp h' h1, hl, Nat.pow_succ, ← l0]
        generalize S = S'
        induction S' with
        | nil => simp
        | cons a l ih =>
          rw [List.flatMap_cons, List.length_append, ih, List.length_map, List.length_range, List.length_cons, Nat.add_mul]
          omega
end KL
namespace KL
end KL
namespace KT
open PySem KS
theorem at_cons {α : Type} (a : α) (l : List α) : L2.atI (a :: l) 0 = some a := by rw [at_nat (by omega) (by simp)]; rfl
end KT
namespace KN
open PySem KS KT
def ltP (p q : Int × Int) : Prop := p.1 < q.1 ∨ (p.1 = q.1 ∧ p.2 < q.2)
/-- a net's arcs -/
structure VN (n : Int) (as : List (Int × Int)) : Prop where
  lo : 1 ≤ n
  hi : n ≤ 12
  rng : ∀ p ∈ as, (0 ≤ p.1 ∧ p.1 < n) ∧ (0 ≤ p.2 ∧ p.2 < n) ∧ p.1 ≠ p.2
  ord : as.Pairwise ltP
  len : as.length ≤ 1000
theorem leP_iff {p q : Int × Int} : leP p q = true ↔ p.1 < q.1 ∨ (p.1 = q.1 ∧ p.2 ≤ q.2) := by
  unfold leP
  rw [decide_eq_true_iff]
theorem ord_sort {l : List (Int × Int)} (h : l.Nodup) : (l.mergeSort leP).Pairwise ltP := by
  have h1 : (l.mergeSort leP).Pairwise fun a b => leP a b = true := List.pairwise_mergeSort (fun a b c h1 h2 => by
    rw [leP_iff] at *; omega) (fun a b => by
    have : leP a b = true ∨ leP b a = true := by rw [leP_iff, leP_iff]; omega
    rcases this with h | h <;> simp [h]) l
  have h2 : (l.mergeSort leP).Pairwise (· ≠ ·) := ((List.mergeSort_perm l leP).nodup_iff).mpr h
  refine (h1.and h2).imp ?_
  rintro ⟨a, b⟩ ⟨c, d⟩ ⟨h, n⟩
  rw [leP_iff] at h
  unfold ltP
  dsimp only at h ⊢
  have : ¬ (a = c ∧ b = d) := fun ⟨x, y⟩ => n (by rw [x, y])
  omega
theorem leTs_pp (p q : Int × Int) : leTs [p.1, p.2] [q.1, q.2] = decide (p.1 < q.1 ∨ (p.1 = q.1 ∧ p.2 ≤ q.2)) := by
  unfold leTs
  show Ob.lexAt _ _ _ 0 2 = _
  rw [Ob.lexAt_succ, Ob.lexAt_succ, Ob.lexAt_zero]
  simp only [List.getD_cons_zero, List.getD_cons_succ, Nat.zero_add]
  by_cases h1 : p.1 = q.1
  · by_cases h2 : p.2 = q.2
    · simp [h1, h2]
    · simp [h1, h2]
  · simp [h1]
    omega
abbrev eA : Int × Int → DV := eP2 eI eI
theorem le_arc (p q : Int × Int) : leYo (eA p) (eA q) = some (decide (p.1 < q.1 ∨ (p.1 = q.1 ∧ p.2 ≤ q.2))) := by
  rw [← leTs_pp]
  rfl
/-- arcs in any order, each once -/
structure AK (n : Int) (ks : List (Int × Int)) : Prop where
  rng : ∀ p ∈ ks, (0 ≤ p.1 ∧ p.1 < n) ∧ (0 ≤ p.2 ∧ p.2 < n) ∧ p.1 ≠ p.2
  nd : ks.Nodup
theorem AK.nil {n : Int} : AK n [] := ⟨(fun _ h => nomatch h), .nil⟩
theorem put_keys {α : Type} (l : List (PP × α)) (k : PP) (a : α) : (putT l k a).map (·.1) = if hasT l k = true then l.map (·.1) else l.map (·.1) ++ [k] := by
  unfold putT
  split
  · rw [List.map_map]
    refine List.map_congr_left fun p _ => ?_
    show (if p.1 = k then (p.1, a) else p).1 = p.1
    split <;> rfl
  · rw [List.map_append]; rfl
theorem has_iff {α : Type} {l : List (PP × α)} {k : PP} : hasT l k = true ↔ k ∈ l.map (·.1) := by
  unfold hasT
  rw [List.any_eq_true, List.mem_map]
  simp
theorem AK.put {α : Type} {n : Int} {l : List (PP × α)} {k : PP} {a : α} (h : AK n (l.map (·.1))) (hk : (0 ≤ k.1 ∧ k.1 < n) ∧ (0 ≤ k.2 ∧ k.2 < n) ∧ k.1 ≠ k.2) : AK n ((putT l k a).map (·.1)) := by
  rw [put_keys]
  split
  · exact h
  · next hn =>
    rw [has_iff] at hn
    refine ⟨fun p hp => ?_, List.nodup_append.2 ⟨h.nd, by simp, fun x hx y hy => ?_⟩⟩
    · rcases List.mem_append.1 hp with hp | hp
      · exact h.rng p hp
      · rw [List.mem_singleton.1 hp]; exact hk
    · rw [List.mem_singleton.1 hy]
      rintro rfl
      exact hn hx
/-- whom a place knows; whom each place knows -/
def kw (as : List (Int × Int)) (i : Int) : List Int := (as.filter fun p => decide (p.1 = i)).map fun p => p.2
def kn (n : Int) (as : List (Int × Int)) : List (List Int) := (rngT 0 n).map (kw as)
theorem kn_len {n : Int} {as : List (Int × Int)} (h : 0 ≤ n) : ((kn n as).length : Int) = n := by
  unfold kn
  rw [List.length_map, rng_len]
  omega
theorem kn_at {n : Int} {as : List (Int × Int)} {i : Int} (h0 : 0 ≤ i) (h1 : i < n) : L2.atI (kn n as) i = some (kw as i) := by
  rw [at_nat h0 (by rw [kn_len (by omega)]; exact h1)]
  unfold kn
  rw [List.getElem?_map, rng_get (by omega), Option.map_some, show (0 : Int) + (i.toNat : Int) = i by omega]
def LotOf (n : Int) (lot : List Int) : Prop := lot.Pairwise (· < ·) ∧ ∀ x ∈ lot, 0 ≤ x ∧ x < n
theorem LotOf.nil {n : Int} : LotOf n [] := ⟨.nil, fun _ h => nomatch h⟩
theorem LotOf.filter {n : Int} {l : List Int} (h : LotOf n l) (c : Int → Bool) : LotOf n (l.filter c) := ⟨h.1.sublist List.filter_sublist, fun x hx => h.2 x (List.mem_filter.1 hx).1⟩
theorem LotOf.snoc {n : Int} {l : List Int} (h : LotOf n l) (hn : 0 ≤ n) : LotOf (n + 1) (l ++ [n]) := ⟨List.pairwise_append.2 ⟨h.1, List.pairwise_singleton .., fun y hy z hz => by rw [List.mem_singleton.1 hz]; exact (h.2 y hy).2⟩, fun y hy => by
  rcases List.mem_append.1 hy with hy | hy
  · have := h.2 y hy; omega
  · rw [List.mem_singleton.1 hy]; omega⟩
theorem LotOf.mono {n m : Int} {l : List Int} (h : LotOf n l) (hn : n ≤ m) : LotOf m l := ⟨h.1, fun x hx => by have := h.2 x hx; omega⟩
theorem LotOf.nd {n : Int} {l : List Int} (h : LotOf n l) : l.Nodup := h.1.imp fun h => Int.ne_of_lt h
theorem LotOf.len {n : Int} {l : List Int} (h : LotOf n l) (hn : 0 ≤ n) : l.length ≤ n.toNat := nodup_len n.toNat h.nd fun x hx => by have := h.2 x hx; omega
/-- each place of it knows one of it -/
def Stab (as : List (Int × Int)) (S : List Int) : Prop := ∀ i ∈ S, ∃ j ∈ kw as i, j ∈ S
/-- there is no ring within -/
def NoRing (as : List (Int × Int)) (L : List Int) : Prop := ∀ S, Stab as S → (∀ x ∈ S, x ∈ L) → S = []
theorem mem_T {α : Type} [DecidableEq α] {x : α} {l : List α} : memT x l = true ↔ x ∈ l := by
  unfold memT; simp
end KN
namespace KN
open PySem KS KT
def lotsN : Nat → List (List Int)
  | 0 => [[]]
  | k + 1 => lotsN k ++ (lotsN k).map fun l => l ++ [(k : Int)]
theorem lotsN_len : ∀ k, (lotsN k).length = 2 ^ k
  | 0 => rfl
  | k + 1 => by
    unfold lotsN
    rw [List.length_append, List.length_map, lotsN_len k, Nat.pow_succ]; omega
theorem lotsN_len_of : ∀ {k : Nat} {l : List Int}, l ∈ lotsN k → l.length ≤ k
  | 0, l, h => by
    rw [show lotsN 0 = [[]] from rfl, List.mem_singleton] at h
    rw [h]; simp
  | k + 1, l, h => by
    unfold lotsN at h
    rcases List.mem_append.1 h with h | h
    · have := lotsN_len_of h; omega
    · obtain ⟨m, hm, rfl⟩ := List.mem_map.1 h
      have := lotsN_len_of hm
      simp; omega
theorem mem_lotsN : ∀ {k : Nat} {l : List Int}, l ∈ lotsN k ↔ LotOf k l
  | 0, l => by
    rw [show lotsN 0 = [[]] from rfl, List.mem_singleton]
    constructor
    · rintro rfl; exact LotOf.nil
    · intro h
      refine List.eq_nil_iff_forall_not_mem.2 fun x hx => ?_
      have := h.2 x hx
      omega
  | k + 1, l => by
    unfold lotsN
    rw [List.mem_append, List.mem_map]
    constructor
    · rintro (h | ⟨m, hm, rfl⟩)
      · exact (mem_lotsN.1 h).mono (by omega)
      · have := (mem_lotsN.1 hm).snoc (by omega)
        rw [Int.natCast_add, Int.natCast_one]
        exact this
    · intro h
      by_cases hk : (k : Int) ∈ l
      · have hne : l ≠ [] := by rintro rfl; cases hk
        have hlast : l.getLast hne = (k : Int) := by
          have h1 := (h.2 _ (List.getLast_mem hne)).2
          have h2 : (k : Int) ≤ l.getLast hne := by
            have hd := List.dropLast_concat_getLast hne
            rw [← hd] at hk
            rcases List.mem_append.1 hk with hk | hk
            · have hp := h.1
              rw [← hd, List.pairwise_append] at hp
              exact Int.le_of_lt (hp.2.2 _ hk _ (List.mem_singleton.2 rfl))
            · rw [List.mem_singleton.1 hk]; exact Int.le_refl _
          omega
        refine .inr ⟨l.dropLast, mem_lotsN.2 ⟨h.1.sublist (List.dropLast_sublist l), fun x hx => ?_⟩, ?_⟩
        · have hd := List.dropLast_concat_getLast hne
          have hp := h.1
          rw [← hd, List.pairwise_append] at hp
          have := hp.2.2 x hx _ (List.mem_singleton.2 rfl)
          have h0 := (h.2 x (List.dropLast_subset l hx)).1
          omega
        · rw [← hlast]; exact List.dropLast_concat_getLast hne
      · refine .inl (mem_lotsN.2 ⟨h.1, fun x hx => ?_⟩)
        have := h.2 x hx
        have : x ≠ (k : Int) := fun z => hk (z ▸ hx)
        omega
/-- a lot without a ring has a place that knows none of it -/
theorem NoRing.free {as : List (Int × Int)} {L : List Int} (h : NoRing as L) {D : List Int} (hD : ∀ x ∈ D, x ∈ L) (hne : D ≠ []) : ∃ i ∈ D, ∀ j ∈ kw as i, j ∉ D := by
  refine Decidable.byContradiction fun hc => hne (h D (fun i hi => ?_) hD)
  refine Decidable.byContradiction fun hn => hc ⟨i, hi, fun j hj hjd => hn ⟨j, hj, hjd⟩⟩
end KN
namespace KN
open PySem KS KT
/-- the lot that a number tells -/
def bitsL (n a : Nat) : List Int := (rngT 0 n).filter fun i => a.testBit i.toNat
theorem mem_bits {n a : Nat} {i : Int} : i ∈ bitsL n a ↔ (0 ≤ i ∧ i < n) ∧ a.testBit i.toNat = true := by
  unfold bitsL
  rw [List.mem_filter, mem_rng]
theorem bits_lot (n a : Nat) : LotOf n (bitsL n a) := (show LotOf n (rngT 0 n) from ⟨rng_sorted 0 n, fun x hx => mem_rng.1 hx⟩).filter _
theorem rng_last (k : Nat) : rngT 0 ((k : Int) + 1) = rngT 0 k ++ [(k : Int)] := by
  refine List.ext_getElem? fun j => ?_
  by_cases hj : j < k
  · rw [rng_get (by omega), List.getElem?_append_left (by rw [rng_len]; omega), rng_get (by omega)]
  · by_cases e : j = k
    · subst e
      rw [rng_get (by omega), List.getElem?_append_right (by rw [rng_len]; omega), rng_len]
      simp
    · rw [List.getElem?_eq_none (by rw [rng_len]; omega), List.getElem?_eq_none (by simp [rng_len]; omega)]
theorem bits_succ (n a : Nat) : bitsL (n + 1) a = bitsL n a ++ if a.testBit n = true then [(n : Int)] else [] := by
  unfold bitsL
  rw [Int.natCast_add, Int.natCast_one, rng_last, List.filter_append, List.filter_cons, List.filter_nil]
  simp
theorem lots_bits : ∀ {n a : Nat}, a < 2 ^ n → (lotsN n)[a]? = some (bitsL n a)
  | 0, a, h => by
    have : a = 0 := by simpa using h
    subst this
    rfl
  | n + 1, a, h => by
    unfold lotsN
    rw [bits_succ]
    by_cases hl : a < 2 ^ n
    · rw [List.getElem?_append_left (by rw [lotsN_len]; exact hl), lots_bits hl, Nat.testBit_lt_two_pow hl]
      simp
    · have h2 : a - 2 ^ n < 2 ^ n := by rw [Nat.pow_succ] at h; omega
      have e : a = 2 ^ n + (a - 2 ^ n) := by omega
      have e1 : a.testBit n = true := by
        rw [e, Nat.testBit_two_pow_add_eq, Nat.testBit_lt_two_pow h2]; rfl
      have e2 : bitsL n a = bitsL n (a - 2 ^ n) := by
        unfold bitsL
        refine List.filter_congr fun i hi => ?_
        obtain ⟨h0, h1⟩ := mem_rng.1 hi
        rw [e, Nat.testBit_two_pow_add_gt (by omega)]
        congr 1
        omega
      rw [List.getElem?_append_right (by rw [lotsN_len]; omega), lotsN_len, List.getElem?_map, lots_bits h2, e1, e2]
      rfl
/-- the one's bits are the other's -/
def Sub (p a : Nat) : Prop := ∀ i, p.testBit i = true → a.testBit i = true
theorem Sub.refl (a : Nat) : Sub a a := fun _ h => h
theorem Sub.and (p a : Nat) : Sub (p &&& a) a := fun i h => by
  rw [Nat.testBit_and, Bool.and_eq_true] at h
  exact h.2
theorem sub_spec : ∀ (a p : Nat), Sub p a → p ≤ a ∧ ∀ i, (a - p).testBit i = (a.testBit i && !p.testBit i) := fun a => by
  induction a using Nat.strongRecOn with
  | ind a ih =>
    intro p h
    by_cases h0 : a = 0
    · subst h0
      have : p = 0 := Nat.eq_of_testBit_eq fun i => by
        rw [Nat.zero_testBit]
        cases hp : p.testBit i with
        | false => rfl
        | true => have := h i hp; simp at this
      subst this
      exact ⟨Nat.le_refl _, fun i => by simp⟩
    · have hs : Sub (p / 2) (a / 2) := fun i hi => by
        rw [Nat.testBit_div_two] at hi ⊢
        exact h _ hi
      obtain ⟨h1, h2⟩ := ih (a / 2) (by omega) (p / 2) hs
      have h3 : p % 2 = 1 → a % 2 = 1 := fun hp => by
        have := h 0 (by rw [Nat.testBit_zero]; exact decide_eq_true hp)
        rw [Nat.testBit_zero] at this
        exact of_decide_eq_true this
      have e1 : (a - p) / 2 = a / 2 - p / 2 := by omega
      refine ⟨by omega, fun i => ?_⟩
      cases i with
      | zero =>
        rw [Nat.testBit_zero, Nat.testBit_zero, Nat.testBit_zero]
        by_cases c1 : a % 2 = 1 <;> by_cases c2 : p % 2 = 1 <;> simp [c1, c2] <;> omega
      | succ i =>
        rw [← Nat.testBit_div_two, ← Nat.testBit_div_two, ← Nat.testBit_div_two, e1, h2]
theorem Sub.le {p a : Nat} (h : Sub p a) : p ≤ a := (sub_spec a p h).1
theorem Sub.bits {p a : Nat} (h : Sub p a) {n : Nat} : ∀ i ∈ bitsL n p, i ∈ bitsL n a := fun i hi => by
  obtain ⟨h1, h2⟩ := mem_bits.1 hi
  exact mem_bits.2 ⟨h1, h _ h2⟩
theorem bits_sub {p a : Nat} (h : Sub p a) {n : Nat} {i : Int} : i ∈ bitsL n (a - p) ↔ i ∈ bitsL n a ∧ i ∉ bitsL n p := by
  rw [mem_bits, mem_bits, mem_bits, (sub_spec a p h).2, Bool.and_eq_true, Bool.not_eq_true', ← Bool.not_eq_true]
  exact ⟨fun ⟨a, b, c⟩ => ⟨⟨a, b⟩, fun z => c z.2⟩, fun ⟨⟨a, b⟩, c⟩ => ⟨a, b, fun z => c ⟨a, z⟩⟩⟩
theorem sub_pow {j a : Nat} (h : a.testBit j = true) : Sub (2 ^ j) a := fun i hi => by
  rw [Nat.testBit_two_pow, decide_eq_true_iff] at hi
  rw [← hi]; exact h
theorem and_int (a b : Nat) : Builtin.bitAnd (a : Int) (b : Int) = ((a &&& b : Nat) : Int) := by
  unfold Builtin.bitAnd
  simp
theorem rng_snocI {i n : Int} {pre post : List Int} {a : Int} (e : rngT i n = pre ++ a :: post) : a = i + pre.length ∧ a < n := by
  have hl := congrArg List.length e
  rw [rng_len, List.length_append, List.length_cons] at hl
  have h2 := rng_get (i := i) (n := n) (k := pre.length) (by omega)
  rw [e] at h2
  simp at h2
  exact ⟨h2, by omega⟩
end KN
namespace KN
open PySem KS KT
/-- b is the sum of k lots that fit, no two with a place in common -/
inductive Pt (fr : Nat → Bool) : Nat → Nat → Prop
  | nil : Pt fr 0 0
  | cons {b p k : Nat} (h0 : p ≠ 0) (hs : Sub p b) (hf : fr p = true) (h : Pt fr (b - p) k) : Pt fr b (k + 1)
def Mn (fr : Nat → Bool) (b k : Nat) : Prop := Pt fr b k ∧ ∀ k', Pt fr b k' → k ≤ k'
theorem Mn.uniq {fr : Nat → Bool} {b k k' : Nat} (h : Mn fr b k) (h' : Mn fr b k') : k = k' := Nat.le_antisymm (h.2 _ h'.1) (h'.2 _ h.1)
theorem sub_zero {p : Nat} (h : Sub p 0) : p = 0 := Nat.le_zero.1 h.le
theorem Pt.zero {fr : Nat → Bool} {k : Nat} (h : Pt fr 0 k) : k = 0 := by
  cases h with
  | nil => rfl
  | cons h0 hs _ _ => exact absurd (sub_zero hs) h0
theorem mn_zero (fr : Nat → Bool) : Mn fr 0 0 := ⟨.nil, fun k h => by rw [h.zero]; exact Nat.le_refl _⟩
theorem and_lo (x y : Nat) : (x &&& y) % 2 = 1 ↔ x % 2 = 1 ∧ y % 2 = 1 := by
  have h := Nat.testBit_and x y 0
  rw [Nat.testBit_zero, Nat.testBit_zero, Nat.testBit_zero] at h
  rw [Bool.eq_iff_iff, Bool.and_eq_true, decide_eq_true_iff, decide_eq_true_iff, decide_eq_true_iff] at h
  exact h
theorem next_le : ∀ (p b q : Nat), Sub p b → Sub q b → q < p → q ≤ (p - 1) &&& b := fun p => by
  induction p using Nat.strongRecOn with
  | ind p ih =>
    intro b q hp hq hlt
    have h2 : ∀ {x y : Nat}, Sub x y → Sub (x / 2) (y / 2) := fun {x y} h i hi => by
      rw [Nat.testBit_div_two] at hi ⊢
      exact h _ hi
    have hlo : ∀ {x y : Nat}, Sub x y → x % 2 = 1 → y % 2 = 1 := fun {x y} h hx => by
      have := h 0 (by rw [Nat.testBit_zero]; exact decide_eq_true hx)
      rw [Nat.testBit_zero] at this
      exact of_decide_eq_true this
    have e1 : ((p - 1) &&& b) / 2 = (p - 1) / 2 &&& b / 2 := Nat.and_div_two
    have e2 := and_lo (p - 1) b
    by_cases c : p % 2 = 1
    · have e3 : (p - 1) / 2 = p / 2 := by omega
      have e4 : p / 2 &&& b / 2 = p / 2 := by
        refine Nat.eq_of_testBit_eq fun i => ?_
        rw [Nat.testBit_and]
        cases hx : (p / 2).testBit i with
        | false => rfl
        | true => rw [h2 hp i hx]; rfl
      rw [e3, e4] at e1
      omega
    · have hq2 : q / 2 < p / 2 := by omega
      have h3 := ih (p / 2) (by omega) (b / 2) (q / 2) (h2 hp) (h2 hq) hq2
      have e3 : (p - 1) / 2 = p / 2 - 1 := by omega
      rw [e3] at e1
      have h4 := hlo hq
      have e5 : (p - 1) % 2 = 1 := by omega
      by_cases cq : q % 2 = 1
      · have := e2.2 ⟨e5, h4 cq⟩
        omega
      · omega
theorem sub_left {p q b : Nat} (hp : Sub p b) (hq : Sub q (b - p)) : Sub q b ∧ Sub p (b - q) := by
  have s1 := sub_spec b p hp
  have h1 : Sub q b := fun i hi => by
    have := hq i hi
    rw [s1.2, Bool.and_eq_true] at this
    exact this.1
  refine ⟨h1, fun i hi => ?_⟩
  rw [(sub_spec b q h1).2, Bool.and_eq_true]
  refine ⟨hp i hi, ?_⟩
  cases hx : q.testBit i with
  | false => rfl
  | true =>
    have := hq i hx
    rw [s1.2, hi] at this
    simp at this
theorem Pt.first {fr : Nat → Bool} {t : Nat} : ∀ {b k : Nat}, Pt fr b k → b.testBit t = true → ∃ p k', k = k' + 1 ∧ p ≠ 0 ∧ Sub p b ∧ fr p = true ∧ p.testBit t = true ∧ Pt fr (b - p) k' := by
  intro b k h
  induction h with
  | nil => intro ht; simp at ht
  | @cons b p0 k h0 hs hf h ih =>
    intro ht
    by_cases c : p0.testBit t = true
    · exact ⟨p0, k, rfl, h0, hs, hf, c, h⟩
    · have : (b - p0).testBit t = true := by
        rw [(sub_spec b p0 hs).2, ht]
        simpa using c
      obtain ⟨p, k', rfl, g0, g1, g2, g3, g4⟩ := ih this
      obtain ⟨s1, s2⟩ := sub_left hs g1
      refine ⟨p, k' + 1, rfl, g0, s1, g2, g3, .cons h0 s2 hf ?_⟩
      rw [Nat.sub_right_comm]
      exact g4
theorem Pt.some {fr : Nat → Bool} : ∀ {n b : Nat}, b < 2 ^ n → (∀ t < n, fr (2 ^ t) = true) → ∃ k, k ≤ n ∧ Pt fr b k
  | 0, b, h, _ => ⟨0, Nat.le_refl _, by
    have : b = 0 := by simpa using h
    rw [this]; exact .nil⟩
  | n + 1, b, h, hf => by
    by_cases hl : b < 2 ^ n
    · obtain ⟨k, h1, h2⟩ := Pt.some hl fun t ht => hf t (by omega)
      exact ⟨k, by omega, h2⟩
    · have h2 : b - 2 ^ n < 2 ^ n := by rw [Nat.pow_succ] at h; omega
      obtain ⟨k, h3, h4⟩ := Pt.some h2 fun t ht => hf t (by omega)
      have e : b = 2 ^ n + (b - 2 ^ n) := by omega
      have e1 : b.testBit n = true := by
        rw [e, Nat.testBit_two_pow_add_eq, Nat.testBit_lt_two_pow h2]; rfl
      exact ⟨k + 1, by omega, .cons (Nat.ne_of_gt (Nat.pow_pos (by decide))) (sub_pow e1) (hf n (by omega)) h4⟩
/-- the first place of a lot that a number tells -/
theorem head_bits {n b : Nat} {h : Int} {r : List Int} (e : bitsL n b = h :: r) : (0 ≤ h ∧ h < n) ∧ b.testBit h.toNat = true ∧ ∀ j : Nat, j < n → b.testBit j = true → h ≤ j := by
  have hm := mem_bits.1 (show h ∈ bitsL n b by rw [e]; exact .head _)
  refine ⟨hm.1, hm.2, fun j hj hb => ?_⟩
  have hj : (j : Int) ∈ bitsL n b := mem_bits.2 ⟨⟨by omega, by omega⟩, by rw [Int.toNat_natCast]; exact hb⟩
  have hp := (bits_lot n b).1
  rw [e] at hj hp
  rcases List.mem_cons.1 hj with rfl | hj
  · exact Int.le_refl _
  · exact Int.le_of_lt ((List.pairwise_cons.1 hp).1 _ hj)
theorem bits_ne {n b : Nat} (h : b < 2 ^ n) (h0 : b ≠ 0) : ∃ x r, bitsL n b = x :: r := by
  cases e : bitsL n b with
  | cons x r => exact ⟨x, r, rfl⟩
  | nil =>
    exfalso
    refine h0 (Nat.eq_of_testBit_eq fun i => ?_)
    rw [Nat.zero_testBit]
    cases hb : b.testBit i with
    | false => rfl
    | true =>
      by_cases hi : i < n
      · have : (i : Int) ∈ bitsL n b := mem_bits.2 ⟨⟨by omega, by omega⟩, by rw [Int.toNat_natCast]; exact hb⟩
        rw [e] at this
        cases this
      · rw [Nat.testBit_lt_two_pow (Nat.lt_of_lt_of_le h (Nat.pow_le_pow_right (by decide) (by omega)))] at hb
        cases hb
theorem sub_lt {n p b : Nat} (h : Sub p b) (hb : b < 2 ^ n) : p < 2 ^ n := Nat.lt_of_le_of_lt h.le hb
/-- a lot within begins with the same place just if it holds it -/
theorem head_same {n p b : Nat} {x y : Int} {r s : List Int} (hs : Sub p b) (hp : bitsL n p = x :: r) (hb : bitsL n b = y :: s) : x = y ↔ p.testBit y.toNat = true := by
  obtain ⟨h1, h2, h3⟩ := head_bits hp
  obtain ⟨g1, g2, g3⟩ := head_bits hb
  constructor
  · rintro rfl; exact h2
  · intro h
    have a1 := h3 y.toNat (by omega) h
    have a2 := g3 x.toNat (by omega) (hs _ h2)
    omega
theorem and_iff {p b : Nat} : p &&& b = p ↔ Sub p b := by
  constructor
  · intro h i hi
    rw [← h, Nat.testBit_and, Bool.and_eq_true] at hi
    exact hi.2
  · intro h
    refine Nat.eq_of_testBit_eq fun i => ?_
    rw [Nat.testBit_and]
    cases hx : p.testBit i with
    | false => rfl
    | true => rw [h i hx]; rfl
theorem or_of_sub {p b : Nat} (h : Sub p b) : b ||| p = b := by
  refine Nat.eq_of_testBit_eq fun i => ?_
  rw [Nat.testBit_or]
  cases hx : p.testBit i with
  | false => simp
  | true => rw [h i hx]; rfl
theorem or_int (a b : Nat) : Builtin.bitOr (a : Int) (b : Int) = ((a ||| b : Nat) : Int) := by
  unfold Builtin.bitOr Builtin.bitAnd Builtin.bitNot
  have h1 : decide (0 ≤ (-(a : Int) - 1)) = false := decide_eq_false (by omega)
  have h2 : decide (0 ≤ (-(b : Int) - 1)) = false := decide_eq_false (by omega)
  simp only [h1, h2]
  have e1 : (-(-(a : Int) - 1) - 1).toNat = a := by omega
  have e2 : (-(-(b : Int) - 1) - 1).toNat = b := by omega
  rw [e1, e2]
  omega
theorem xor_int {p b : Nat} (h : Sub p b) : Builtin.bitXor (b : Int) (p : Int) = ((b - p : Nat) : Int) := by
  have := h.le
  unfold Builtin.bitXor
  rw [or_int, and_int, or_of_sub h, Nat.and_comm, and_iff.2 h]
  omega
theorem bit_test {b i : Nat} : (Builtin.bitAnd (b : Int) (1 * 2 ^ ((i : Int)).toNat) != 0) = b.testBit i := by
  have e : (1 : Int) * 2 ^ ((i : Int)).toNat = ((2 ^ i : Nat) : Int) := by
    rw [Int.one_mul, Int.toNat_natCast, Int.natCast_pow]; rfl
  rw [e, and_int]
  cases h : b.testBit i with
  | false =>
    have : b &&& 2 ^ i = 0 := by
      refine Nat.eq_of_testBit_eq fun j => ?_
      rw [Nat.testBit_and, Nat.testBit_two_pow, Nat.zero_testBit]
      by_cases c : i = j
      · subst c; rw [h]; rfl
      · rw [decide_eq_false c, Bool.and_false]
    rw [this]; rfl
  | true =>
    have : b &&& 2 ^ i ≠ 0 := fun z => by
      have h2 := congrArg (fun x => x.testBit i) z
      simp only [Nat.testBit_and, Nat.testBit_two_pow_self, h, Nat.zero_testBit] at h2
      simp at h2
    rw [bne_iff_ne, Ne]
    omega
end KN
namespace Lk33
open PySem PySem.Spec L2 KS
def kc_Net : Nat → Option Bool := fun c => if c = 0 then some true else none
def tI_SayError : Nat → Bool
  | 0 => true
  | 1 => true
  | _ => false
def tI_TooMany : Nat → Bool
  | 0 => true
  | 1 => false
  | _ => false
def tJ_0 : Nat → Bool
  | 0 => false
  | 1 => false
  | _ => false
def tJ_1 : Nat → Bool
  | 0 => false
  | 1 => true
  | _ => false
def tJ_2 : Nat → Bool
  | 0 => false
  | 1 => false
  | _ => false
def tB_ValueError : Nat → Bool
  | 0 => true
  | 1 => true
  | _ => false
def xf_what : Nat → Option Nat
  | 0 => some 0
  | 1 => none
  | _ => none
def g_law_numbers : Sv :=
  (sSeq (sSet 3 (eOp2 geF (eOp1 absF (eOp1 intF (eVar 0))) (eOp2 powF (eC (.int 10)) (eC (.int 18)))))
  (sSeq (sSet 4 (eOp2 addF (eOp2 mulF (eC (.int 2)) (eOp1 absF (eOp1 intF (eVar 0)))) (eOp1 intF (eOp2 ltA (eVar 0) (eC (.int 0))))))
  (sSeq (sSetF 5 (eLst aNil))
  (sSeq (sFor (iK [false, false, false, false, false, false, true, true] (iRg1 (eVar 2))) (tgN 6)
  (sK [false, false, false, false, false, false, true, true] (sSeq (sIf (bTru (eVar 3))
  (sSeq (sX (eMut 5 isLstD true appM (aCons (eOp2 modF (eOp1 intF (eVar 4)) (eC (.int 1000))) aNil)))
  (sSeq (sSet 4 (eOp2 fdivF (eVar 4) (eC (.int 1000))))
  sNx))
  (sSeq (sSet 7 (eOp2 modF (eOp1 intF (eOp2 addF (eOp2 addF (eOp2 addF (eOp2 mulF (eVar 4) (eC (.int 48271))) (eOp2 mulF (eVar 1) (eC (.int 69621)))) (eOp2 mulF (eVar 6) (eC (.int 16807)))) (eC (.int 7)))) (eC (.int 2147483647))))
  (sSeq (sSet 7 (eOp2 modF (eOp1 intF (eOp2 addF (eOp2 addF (eOp2 mulF (eVar 7) (eVar 7)) (eOp2 mulF (eVar 6) (eC (.int 40692)))) (eC (.int 3)))) (eC (.int 2147483629))))
  (sSeq (sSet 7 (eOp2 modF (eOp1 intF (eOp2 addF (eOp2 addF (eOp2 mulF (eVar 7) (eVar 7)) (eOp2 mulF (eVar 1) (eC (.int 30269)))) (eC (.int 5)))) (eC (.int 2147483587))))
  (sSeq (sX (eMut 5 isLstD true appM (aCons (eOp2 modF (eOp1 intF (eOp2 fdivF (eVar 7) (eC (.int 5)))) (eC (.int 1000))) aNil)))
  sNx)))))
  sNx)))
  (sSeq (sRet (eFz 5))
  sNx)))))
def fn_law_numbers : Fn := runFn 3 8 g_law_numbers
def g_law_order : Sv :=
  (sSeq (sSetF 3 (eLst aNil))
  (sSeq (sFor (iK [false, false, false, false, true] (iRg1 (eVar 2))) (tgN 4)
  (sK [false, false, false, false, true] (sSeq (sX (eMut 3 isLstD true insM (aCons (eOp2 modF (eOp1 intF (eOp2 ixF (eVar 0) (eOp2 addF (eVar 1) (eVar 4)))) (eOp2 addF (eVar 4) (eC (.int 1)))) (aCons (eVar 4) aNil))))
  sNx)))
  (sSeq (sRet (eFz 3))
  sNx)))
def fn_law_order : Fn := runFn 3 5 g_law_order
def g_law_ring_of_five : Sv :=
  (sSeq (sSet 2 (eCall [false, false, false] fn_law_order (aCons (eVar 0) (aCons (eVar 1) (aCons (eC (.int 5)) aNil)))))
  (sSeq (sSetF 3 (eLst aNil))
  (sSeq (sFor (iK [false, false, false, false, true, false, false] (iRg1 (eC (.int 5)))) (tgN 4)
  (sK [false, false, false, false, true, false, false] (sSeq (sX (eMut 3 isLstD true appM (aCons (eTup (aCons (eOp2 ixF (eVar 2) (eVar 4)) (aCons (eOp2 ixF (eVar 2) (eOp2 modF (eOp1 intF (eOp2 addF (eVar 4) (eC (.int 1)))) (eC (.int 5)))) aNil))) aNil)))
  (sSeq (sX (eMut 3 isLstD true appM (aCons (eTup (aCons (eOp2 ixF (eVar 2) (eOp2 modF (eOp1 intF (eOp2 addF (eVar 4) (eC (.int 1)))) (eC (.int 5)))) (aCons (eOp2 ixF (eVar 2) (eVar 4)) aNil))) aNil)))
  sNx))))
  (sSeq (sFor (iK [false, false, false, false, true, true, true] (iRg1 (eOp2 modF (eOp1 intF (eOp2 ixF (eVar 0) (eOp2 addF (eVar 1) (eC (.int 5))))) (eC (.int 4))))) (tgN 5)
  (sK [false, false, false, false, true, true, true] (sSeq (sSet 4 (eOp2 modF (eOp1 intF (eOp2 ixF (eVar 0) (eOp2 addF (eOp2 addF (eVar 1) (eC (.int 6))) (eVar 5)))) (eC (.int 5))))
  (sSeq (sSet 6 (eTup (aCons (eVar 4) (aCons (eOp2 modF (eOp1 intF (eOp2 addF (eOp2 addF (eVar 4) (eC (.int 1))) (eOp2 modF (eOp1 intF (eOp2 fdivF (eOp2 ixF (eVar 0) (eOp2 addF (eOp2 addF (eVar 1) (eC (.int 6))) (eVar 5))) (eC (.int 5)))) (eC (.int 4))))) (eC (.int 5))) aNil))))
  (sSeq (sIf (bE (eOp2 inA2 (eVar 6) (ePl 3)))
  (sSeq (sX (eMut 3 isLstD true remM (aCons (eVar 6) aNil)))
  sNx)
  (sSeq (sX (eMut 3 isLstD true appM (aCons (eVar 6) aNil)))
  sNx))
  sNx)))))
  (sSeq (sRet (eTup (aCons (eC (.int 5)) (aCons (eOp1 sortF (ePl 3)) aNil))))
  sNx)))))
def fn_law_ring_of_five : Fn := runFn 2 7 g_law_ring_of_five
def g_law_net : Sv :=
  (sSeq (sIf (bAnd (bE (eOp2 gtF (eVar 2) (eC (.int 4)))) (bE (eOp2 eqF (eOp2 modF (eOp1 intF (eOp2 ixF (eVar 0) (eVar 1))) (eC (.int 3))) (eC (.int 0)))))
  (sSeq (sRet (eCall [false, false] fn_law_ring_of_five (aCons (eVar 0) (aCons (eOp2 addF (eVar 1) (eC (.int 1))) aNil))))
  sNx)
  sNx)
  (sSeq (sSet 3 (eOp2 addF (eC (.int 1)) (eOp2 modF (eOp1 intF (eOp2 fdivF (eOp2 ixF (eVar 0) (eVar 1)) (eC (.int 3)))) (eVar 2))))
  (sSeq (sSetF 4 (eLst aNil))
  (sSeq (sSet 5 (eC (.int 0)))
  (sSeq (sFor (iK [false, false, false, false, false, false, true, true, true] (iRg1 (eVar 3))) (tgN 6)
  (sK [false, false, false, false, false, false, true, true, true] (sSeq (sFor (iK [false, false, false, false, false, false, false, true, true] (iRg1 (eVar 3))) (tgN 7)
  (sK [false, false, false, false, false, false, false, true, true] (sSeq (sIf (bE (eOp2 neF (eVar 6) (eVar 7)))
  (sSeq (sSet 8 (eOp2 modF (eOp1 intF (eOp2 fdivF (eOp2 ixF (eVar 0) (eOp2 addF (eOp2 addF (eVar 1) (eC (.int 1))) (eOp2 fdivF (eVar 5) (eC (.int 4))))) (eOp2 ixF (eLst (aCons (eC (.int 1)) (aCons (eC (.int 5)) (aCons (eC (.int 25)) (aCons (eC (.int 125)) aNil))))) (eOp2 modF (eOp1 intF (eVar 5)) (eC (.int 4)))))) (eC (.int 5))))
  (sSeq (sSet 5 (eOp2 addF (eVar 5) (eC (.int 1))))
  (sSeq (sIf (bE (eOp2 ltA (eVar 8) (eOp2 addF (eOp2 addF (eC (.int 1)) (eOp1 intF (eOp2 fdivF (eOp2 ixF (eVar 0) (eVar 1)) (eC (.int 300))))) (eOp2 modF (eOp1 intF (eOp2 ixF (eVar 0) (eVar 1))) (eC (.int 2))))))
  (sSeq (sX (eMut 4 isLstD true appM (aCons (eTup (aCons (eVar 6) (aCons (eVar 7) aNil))) aNil)))
  sNx)
  sNx)
  sNx)))
  sNx)
  sNx)))
  sNx)))
  (sSeq (sRet (eTup (aCons (eVar 3) (aCons (eFz 4) aNil))))
  sNx))))))
def fn_law_net : Fn := runFn 3 9 g_law_net
def g_law_knows : Sv :=
  (sSeq (sSetF 1 (eLst aNil))
  (sSeq (sFor (iK [false, false, true, false] (iRg1 (eOp2 ixF (eVar 0) (eC (.int 0))))) (tgN 2)
  (sK [false, false, true, false] (sSeq (sX (eMut 1 isLstD true appM (aCons (eComp [3] (iVal (eOp2 ixF (eVar 0) (eC (.int 1)))) (tgN 3) (bE (eOp2 eqF (eOp2 ixF (eVar 3) (eC (.int 0))) (eVar 2))) (eOp2 ixF (eVar 3) (eC (.int 1)))) aNil)))
  sNx)))
  (sSeq (sRet (eFz 1))
  sNx)))
def fn_law_knows : Fn := runFn 1 4 g_law_knows
def g_check_size : Sv :=
  (sSeq (sIf (bE (eOp2 gtF (eAttr [0] 0 (eVar 0)) (eC (.int 8))))
  (sSeq (sRaise 0 1 (aCons (eC (.str (PySem.Str.ofString "places"))) aNil))
  sNx)
  sNx)
  sNx)
def fn_check_size : Fn := runFn 1 1 g_check_size
def g_lot_of : Sv :=
  (sSeq (sRet (eOp1 tupF (eComp [2] (iRg1 (eVar 1)) (tgN 2) (bTru (eOp2 andF (eVar 0) (eOp2 shlF (eC (.int 1)) (eVar 2)))) (eVar 2))))
  sNx)
def fn_lot_of : Fn := runFn 2 3 g_lot_of
def g_are_friends : Sv :=
  (sSeq (sRet (eOp1 allF (eComp2 [2, 3] (iVal (eVar 1)) (tgN 2) bYes (iVal (eVar 1)) [3] (tgN 3) (bE (eOp2 neF (eVar 3) (eVar 2))) (eOp2 inA2 (eVar 3) (eOp2 ixF (eAttr [0] 2 (eVar 0)) (eVar 2))))))
  sNx)
def fn_are_friends : Fn := runFn 2 4 g_are_friends
def g_least_place : Sv :=
  (sSeq (sRet (eOp2 ixF (eCall [false, false] fn_lot_of (aCons (eVar 0) (aCons (eVar 1) aNil))) (eC (.int 0))))
  sNx)
def fn_least_place : Fn := runFn 2 2 g_least_place
def g_friend_lots : Sv :=
  (sSeq (sX (eCall [false] fn_check_size (aCons (eVar 0) aNil)))
  (sSeq (sSetF 1 (eLst aNil))
  (sSeq (sFor (iK [false, false, true, true, false, false, false, false] (iRg2 (eC (.int 1)) (eOp2 shlF (eC (.int 1)) (eAttr [0] 0 (eVar 0))))) (tgN 2)
  (sK [false, false, true, true, false, false, false, false] (sSeq (sSet 3 (eCall [false, false] fn_lot_of (aCons (eVar 2) (aCons (eAttr [0] 0 (eVar 0)) aNil))))
  (sSeq (sIf (bE (eCall [false, false] fn_are_friends (aCons (eVar 0) (aCons (eVar 3) aNil))))
  (sSeq (sX (eMut 1 isLstD true appM (aCons (eTup (aCons (eVar 2) (aCons (eVar 3) aNil))) aNil)))
  sNx)
  sNx)
  sNx))))
  (sSeq (sSetF 4 (eLst (aCons (eTup aNil) aNil)))
  (sSeq (fzS 1 (sFor (iK [false, false, true, true, false, true, true, true] (iRg2 (eC (.int 1)) (eOp2 shlF (eC (.int 1)) (eAttr [0] 0 (eVar 0))))) (tgN 2)
  (sK [false, false, true, true, false, true, true, true] (sSeq (sSet 5 (eCall [false, false] fn_least_place (aCons (eVar 2) (aCons (eAttr [0] 0 (eVar 0)) aNil))))
  (sSeq (sSet 6 (eC .non))
  (sSeq (sFor (iK [false, false, false, true, false, false, false, true] (iVal (eFz 1))) (tgT [7, 3])
  (sK [false, false, false, true, false, false, false, true] (sSeq (sIf (bAnd (bE (eOp2 eqF (eOp2 ixF (eVar 3) (eC (.int 0))) (eVar 5))) (bE (eOp2 eqF (eOp2 andF (eVar 7) (eVar 2)) (eVar 7))))
  (sSeq (sIf (bOr (bE (eOp2 isNF (eVar 6) (eC .non))) (bE (eOp2 ltA (eOp2 addF (eOp1 lenF (eOp2 ixF (ePl 4) (eOp2 xorF (eVar 2) (eVar 7)))) (eC (.int 1))) (eOp1 lenF (eVar 6)))))
  (sSeq (sSet 6 (eOp2 addF (eTup (aCons (eVar 3) aNil)) (eOp2 ixF (ePl 4) (eOp2 xorF (eVar 2) (eVar 7)))))
  sNx)
  sNx)
  sNx)
  sNx)
  sNx)))
  (sSeq (sX (eMut 4 isLstD true appM (aCons (eVar 6) aNil)))
  sNx)))))))
  (sSeq (sRet (eOp2 ixF (ePl 4) (eOp1 negF (eC (.int 1)))))
  sNx))))))
def fn_friend_lots : Fn := runFn 1 8 g_friend_lots
def g_law_kinds (c : Nat) (fs : List D) : Sv :=
  (sSeq (sSetF 1 (eLst aNil))
  (sSeq (sKn [false, false] (sIf (bE (eIsE 0 (tI_TooMany c)))
  (sSeq (sX (eMut 1 isLstD true appM (aCons (eTup (aCons (eC (.str (PySem.Str.ofString "TooMany"))) (aCons (eOp1 reprF (eXf 0 (xf_what c) fs)) aNil))) aNil)))
  sNx)
  sNx))
  (sSeq (sKn [false, false] (sIf (bE (eIsE 0 (tJ_0 c)))
  (sSeq (sX (eMut 1 isLstD true appM (aCons (eTup (aCons (eC (.str (PySem.Str.ofString "other"))) (aCons (eC (.str (PySem.Str.ofString ""))) aNil))) aNil)))
  sNx)
  sNx))
  (sSeq (sKn [false, false] (sIf (bE (eIsE 0 (tJ_1 c)))
  (sSeq (sX (eMut 1 isLstD true appM (aCons (eTup (aCons (eC (.str (PySem.Str.ofString "other"))) (aCons (eC (.str (PySem.Str.ofString ""))) aNil))) aNil)))
  sNx)
  sNx))
  (sSeq (sKn [false, false] (sIf (bE (eIsE 0 (tJ_2 c)))
  (sSeq (sX (eMut 1 isLstD true appM (aCons (eTup (aCons (eC (.str (PySem.Str.ofString "other"))) (aCons (eC (.str (PySem.Str.ofString ""))) aNil))) aNil)))
  sNx)
  sNx))
  (sSeq (sIf (bAnd (bE (eOp2 eqF (eOp1 lenF (ePl 1)) (eC (.int 1)))) (bE (eIsE 0 (tB_ValueError c))))
  (sSeq (sRet (eOp2 ixF (ePl 1) (eC (.int 0))))
  sNx)
  sNx)
  (sSeq (sRet (eTup (aCons (eC (.str (PySem.Str.ofString "other"))) (aCons (eC (.str (PySem.Str.ofString ""))) aNil))))
  sNx)))))))
def X_law_kinds : Nat → List D → Option D := runX 2 g_law_kinds
def g_law_told : Sv :=
  (sSeq (sTry 2
  (sSeq (sRet (eTup (aCons (eC (.str (PySem.Str.ofString ""))) (aCons (eCall [false] fn_friend_lots (aCons (eVar 0) aNil)) aNil))))
  sNx)
  [⟨tI_SayError, some 1, fun c fs =>
  (sSeq (sRet (eCallX 1 (X_law_kinds c fs)))
  sNx)⟩])
  sNx)
def fn_law_told : Fn := runFn 1 2 g_law_told
def g_law_fewest : Sv :=
  (sSeq (sSetF 1 (eLst (aCons (eC (.int 0)) aNil)))
  (sSeq (sFor (iK [false, false, true, true, true, true] (iRg2 (eC (.int 1)) (eOp1 lenF (eVar 0)))) (tgN 2)
  (sK [false, false, true, true, true, true] (sSeq (sSet 3 (eC (.int 99)))
  (sSeq (sSet 4 (eVar 2))
  (sSeq (sFor (iK [false, false, false, false, false, true] (iRg1 (eOp1 lenF (eVar 0)))) (tgN 5)
  (sK [false, false, false, false, false, true] (sSeq (sIf (bE (eOp2 eqF (eVar 4) (eC (.int 0))))
  (sSeq sBrk
  sNx)
  sNx)
  (sSeq (sKn [false, false, false, false, false, false] (sIf (bAnd (bTru (eOp2 ixF (eVar 0) (eVar 4))) (bE (eOp2 ltA (eOp2 addF (eOp2 ixF (ePl 1) (eOp2 subF (eVar 2) (eVar 4))) (eC (.int 1))) (eVar 3))))
  (sSeq (sSet 3 (eOp2 addF (eOp2 ixF (ePl 1) (eOp2 subF (eVar 2) (eVar 4))) (eC (.int 1))))
  sNx)
  sNx))
  (sSeq (sSet 4 (eOp2 andF (eOp2 subF (eVar 4) (eC (.int 1))) (eVar 2)))
  sNx)))))
  (sSeq (sX (eMut 1 isLstD true appM (aCons (eVar 3) aNil)))
  sNx))))))
  (sSeq (sRet (eOp2 ixF (ePl 1) (eOp1 negF (eC (.int 1)))))
  sNx)))
def fn_law_fewest : Fn := runFn 1 6 g_law_fewest
def g_is_below : Sv :=
  (sSeq (sRet (eAnd (eOp1 (isiF .int) (eVar 0)) (eAnd (eNot (eOp1 (isiF .bl) (eVar 0))) (eChain leA ltA (eC (.int 0)) (eVar 0) (eVar 1)))))
  sNx)
def fn_is_below : Fn := runFn 2 2 g_is_below
def g_first_wrong_arc : Sv :=
  (sSeq (sIf (bNot (bE (eOp1 (isiTF [.lst, .tup]) (eVar 1))))
  (sSeq (sRet (eC (.int 0)))
  sNx)
  sNx)
  (sSeq (sSet 2 (eTup (aCons (eOp1 negF (eC (.int 1))) (aCons (eOp1 negF (eC (.int 1))) aNil))))
  (sSeq (sFor (iK [false, false, false, true, true, false] (iEn (eVar 1))) (tgT [3, 4])
  (sK [false, false, false, true, true, false] (sSeq (sIf (bOr (bNot (bE (eOp1 (isiF .tup) (eVar 4)))) (bOr (bE (eOp2 neF (eOp1 lenF (eVar 4)) (eC (.int 2)))) (bNot (bE (eOp1 allF (eComp [5] (iVal (eVar 4)) (tgN 5) bYes (eCall [false, false] fn_is_below (aCons (eVar 5) (aCons (eVar 0) aNil)))))))))
  (sSeq (sRet (eVar 3))
  sNx)
  sNx)
  (sSeq (sIf (bOr (bE (eOp2 eqF (eOp2 ixF (eVar 4) (eC (.int 0))) (eOp2 ixF (eVar 4) (eC (.int 1))))) (bE (eOp2 leA (eVar 4) (eVar 2))))
  (sSeq (sRet (eVar 3))
  sNx)
  sNx)
  (sSeq (sSet 2 (eVar 4))
  sNx)))))
  (sSeq (sRet (eC .non))
  sNx))))
def fn_first_wrong_arc : Fn := runFn 2 6 g_first_wrong_arc
def g_Net_init : Sv :=
  (sSeq (sIf (bOr (bNot (bE (eCall [false, false] fn_is_below (aCons (eVar 1) (aCons (eOp2 addF (eC (.int 12)) (eC (.int 1))) aNil))))) (bE (eOp2 ltA (eVar 1) (eC (.int 1)))))
  (sSeq (sRaise 1 2 (aCons (eC (.str (PySem.Str.ofString "size"))) (aCons (eC (.int 0)) aNil)))
  sNx)
  sNx)
  (sSeq (sSet 3 (eCall [false, false] fn_first_wrong_arc (aCons (eVar 1) (aCons (eVar 2) aNil))))
  (sSeq (sIf (bE (eOp2 notNF (eVar 3) (eC .non)))
  (sSeq (sRaise 1 2 (aCons (eC (.str (PySem.Str.ofString "arcs"))) (aCons (eVar 3) aNil)))
  sNx)
  sNx)
  (sSeq (sFldS 0 0 [0] (eVar 1))
  (sSeq (sFldS 0 1 [0] (eOp1 tupF (eVar 2)))
  (sSeq (sFldS 0 2 [0] (eOp1 tupF (eComp [4] (iRg1 (eVar 1)) (tgN 4) bYes (eOp1 tupF (eComp [5, 6] (iVal (eAttr [0] 1 (ePl 0))) (tgT [5, 6]) (bE (eOp2 eqF (eVar 5) (eVar 4))) (eVar 6))))))
  sNx))))))
def fn_Net_init : Fn := runFn 3 7 g_Net_init
def g_law_same (rec : Fn) : Sv :=
  (sSeq (sIf (bE (eOp2 isNF (eVar 1) (eC .non)))
  (sSeq (sRet (eOp2 isNF (eVar 0) (eC .non)))
  sNx)
  sNx)
  (sSeq (sIf (bE (eOp1 (isiF .str) (eVar 1)))
  (sSeq (sRet (eAnd (eOp1 (isiF .str) (eVar 0)) (eOp2 eqF (eVar 0) (eVar 1))))
  sNx)
  sNx)
  (sSeq (sIf (bE (eOp1 (isiF .bl) (eVar 1)))
  (sSeq (sRet (eAnd (eOp1 (isiF .bl) (eVar 0)) (eOp2 eqF (eVar 0) (eVar 1))))
  sNx)
  sNx)
  (sSeq (sIf (bE (eOp1 (isiF .int) (eVar 1)))
  (sSeq (sRet (eAnd (eOp1 (isiF .int) (eVar 0)) (eAnd (eNot (eOp1 (isiF .bl) (eVar 0))) (eOp2 eqF (eVar 0) (eVar 1)))))
  sNx)
  sNx)
  (sSeq (sIf (bOr (bNot (bE (eOp1 (isiF .tup) (eVar 0)))) (bE (eOp2 neF (eOp1 lenF (eVar 0)) (eOp1 lenF (eVar 1)))))
  (sSeq (sRet (eC (.bl false)))
  sNx)
  sNx)
  (sSeq (sFor (iK [false, false, true] (iRg1 (eOp1 lenF (eVar 1)))) (tgN 2)
  (sK [false, false, true] (sSeq (sIf (bNot (bE (eCall [false, false] rec (aCons (eOp2 ixF (eVar 0) (eVar 2)) (aCons (eOp2 ixF (eVar 1) (eVar 2)) aNil)))))
  (sSeq (sRet (eC (.bl false)))
  sNx)
  sNx)
  sNx)))
  (sSeq (sRet (eC (.bl true)))
  sNx)))))))
def fn_law_sameN : Nat → Fn
  | 0 => fun _ => .bad
  | n + 1 => runFn 2 3 (g_law_same (fn_law_sameN n))
def fn_law_same : Fn := fn_law_sameN 6
def g_law_are_friends : Sv :=
  (sSeq (sFor (iK [false, false, true, true] (iVal (eVar 1))) (tgN 2)
  (sK [false, false, true, true] (sSeq (sFor (iK [false, false, false, true] (iVal (eVar 1))) (tgN 3)
  (sK [false, false, false, true] (sSeq (sIf (bAnd (bE (eOp2 neF (eVar 2) (eVar 3))) (bE (eOp2 notInA2 (eVar 3) (eOp2 ixF (eVar 0) (eVar 2)))))
  (sSeq (sRet (eC (.bl false)))
  sNx)
  sNx)
  sNx)))
  sNx)))
  (sSeq (sRet (eC (.bl true)))
  sNx))
def fn_law_are_friends : Fn := runFn 2 4 g_law_are_friends
def g_law_lots : Sv :=
  (sSeq (sSet 1 (eLst (aCons (eTup aNil) aNil)))
  (sSeq (sFor (iK [false, false, true, false] (iRg1 (eVar 0))) (tgN 2)
  (sK [false, false, true, false] (sSeq (sSet 1 (eOp2 catF (eVar 1) (eComp [3] (iVal (eVar 1)) (tgN 3) bYes (eOp2 addF (eVar 3) (eTup (aCons (eVar 2) aNil))))))
  sNx)))
  (sSeq (sRet (eVar 1))
  sNx)))
def fn_law_lots : Fn := runFn 1 4 g_law_lots
def g_law : Sv :=
  (sSeq (sFor (iK [false, true, true, true, true, true, true, true, true, true, true, true, true, false, false] (iRg1 (eOp2 min2F (eOp1 lenF (eVar 0)) (eC (.int 3))))) (tgN 1)
  (sK [false, true, true, true, true, true, true, true, true, true, true, true, true, false, false] (sSeq (sSet 2 (eCall [false, false, false] fn_law_numbers (aCons (eOp2 ixF (eVar 0) (eVar 1)) (aCons (eVar 1) (aCons (eC (.int 50)) aNil)))))
  (sSeq (sSet 3 (eCall [false, false, false] fn_law_net (aCons (eVar 2) (aCons (eC (.int 0)) (aCons (eC (.int 7)) aNil)))))
  (sSeq (sKn [false, false, false, false, true, false, false, false, false, false, false, false, false, false, false] (sIf (bE (eOp2 eqF (eOp2 modF (eOp1 intF (eOp2 ixF (eVar 2) (eC (.int 30)))) (eC (.int 3))) (eC (.int 0))))
  (sSeq (sSet 4 (eOp2 catF (eOp2 ixF (eVar 3) (eC (.int 1))) (eComp [13] (iVal (eOp2 ixF (eVar 3) (eC (.int 1)))) (tgN 13) (bE (eOp2 notInA2 (eTup (aCons (eOp2 ixF (eVar 13) (eC (.int 1))) (aCons (eOp2 ixF (eVar 13) (eC (.int 0))) aNil))) (eOp2 ixF (eVar 3) (eC (.int 1))))) (eTup (aCons (eOp2 ixF (eVar 13) (eC (.int 1))) (aCons (eOp2 ixF (eVar 13) (eC (.int 0))) aNil))))))
  (sSeq (sSet 3 (eTup (aCons (eOp2 ixF (eVar 3) (eC (.int 0))) (aCons (eOp1 sortF (eVar 4)) aNil))))
  sNx))
  sNx))
  (sSeq (sSet 5 (eCall [false] fn_law_knows (aCons (eVar 3) aNil)))
  (sSeq (sSet 6 (eCall [false] fn_law_told (aCons (eMake 0 fn_Net_init (aCons (eOp2 ixF (eVar 3) (eC (.int 0))) (aCons (eOp2 ixF (eVar 3) (eC (.int 1))) aNil))) aNil)))
  (sSeq (sSet 7 (eCall [false] fn_law_fewest (aCons (eComp [9] (iVal (eCall [false] fn_law_lots (aCons (eOp2 ixF (eVar 3) (eC (.int 0))) aNil))) (tgN 9) bYes (eCall [false, false] fn_law_are_friends (aCons (eVar 5) (aCons (eVar 9) aNil)))) aNil)))
  (sSeq (sIf (bOr (bE (eOp2 neF (eOp2 ixF (eVar 6) (eC (.int 0))) (eC (.str (PySem.Str.ofString ""))))) (bOr (bNot (bE (eOp1 (isiF .tup) (eOp2 ixF (eVar 6) (eC (.int 1)))))) (bE (eOp2 neF (eOp1 lenF (eOp2 ixF (eVar 6) (eC (.int 1)))) (eVar 7)))))
  (sSeq (sRet (eC (.bl false)))
  sNx)
  sNx)
  (sSeq (sSet 8 (eLst aNil))
  (sSeq (sFor (iK [false, false, false, false, false, false, false, false, false, true, false, false, false, false, false] (iVal (eOp2 ixF (eVar 6) (eC (.int 1))))) (tgN 9)
  (sK [false, false, false, false, false, false, false, false, false, true, false, false, false, false, false] (sSeq (sIf (bOr (bNot (bE (eOp1 (isiF .tup) (eVar 9)))) (bOr (bE (eOp2 eqF (eOp1 lenF (eVar 9)) (eC (.int 0)))) (bNot (bE (eCall [false, false] fn_law_are_friends (aCons (eVar 5) (aCons (eVar 9) aNil)))))))
  (sSeq (sRet (eC (.bl false)))
  sNx)
  sNx)
  (sSeq (sIf (bE (eOp2 neF (eOp1 lstF (eVar 9)) (eOp1 sortTIF (eVar 9))))
  (sSeq (sRet (eC (.bl false)))
  sNx)
  sNx)
  (sSeq (sSet 8 (eOp2 catF (eVar 8) (eOp1 lstF (eVar 9))))
  sNx)))))
  (sSeq (sIf (bNot (bE (eCall [false, false] fn_law_same (aCons (eOp1 tupF (eOp1 sortF (eVar 8))) (aCons (eOp1 rgTF (eOp2 ixF (eVar 3) (eC (.int 0)))) aNil)))))
  (sSeq (sRet (eC (.bl false)))
  sNx)
  sNx)
  (sSeq (sSet 10 (eComp [14] (iRg1 (eC (.int 8))) (tgN 14) bYes (eTup (aCons (eOp1 intF (eVar 14)) (aCons (eOp1 intF (eOp2 subF (eOp2 addF (eVar 14) (eC (.int 1))) (eOp2 mulF (eC (.int 2)) (eOp2 modF (eOp1 intF (eVar 14)) (eC (.int 2)))))) aNil)))))
  (sSeq (sSet 11 (eCall [false] fn_law_told (aCons (eMake 0 fn_Net_init (aCons (eC (.int 8)) (aCons (eVar 10) aNil))) aNil)))
  (sSeq (sIf (bOr (bE (eOp2 neF (eOp2 ixF (eVar 11) (eC (.int 0))) (eC (.str (PySem.Str.ofString ""))))) (bOr (bE (eOp2 neF (eOp1 lenF (eOp2 ixF (eVar 11) (eC (.int 1)))) (eC (.int 4)))) (bE (eOp2 neF (eOp1 sortF (eOp1 lstF (eOp2 ixF (eVar 11) (eC (.int 1))))) (eOp1 ev2LF (eVar 10))))))
  (sSeq (sRet (eC (.bl false)))
  sNx)
  sNx)
  (sSeq (sSet 12 (eOp2 addF (eC (.int 9)) (eOp2 modF (eOp1 intF (eOp2 ixF (eVar 2) (eC (.int 24)))) (eC (.int 4)))))
  (sSeq (sIf (bNot (bE (eCall [false, false] fn_law_same (aCons (eCall [false] fn_law_told (aCons (eMake 0 fn_Net_init (aCons (eVar 12) (aCons (eLst (aCons (eTup (aCons (eC (.int 0)) (aCons (eC (.int 1)) aNil))) (aCons (eTup (aCons (eC (.int 1)) (aCons (eC (.int 0)) aNil))) aNil))) aNil))) aNil)) (aCons (eTup (aCons (eC (.str (PySem.Str.ofString "TooMany"))) (aCons (eOp1 reprF (eC (.str (PySem.Str.ofString "places")))) aNil))) aNil)))))
  (sSeq (sRet (eC (.bl false)))
  sNx)
  sNx)
  sNx)))))))))))))))))
  (sSeq (sRet (eC (.bl true)))
  sNx))
def fn_law : Fn := runFn 1 15 g_law
end Lk33
namespace Lk33
open PySem KS KT
set_option synthInstance.maxSize 4000
set_option synthInstance.maxHeartbeats 400000
abbrev O_Net : Type := Int × (List (Int × Int)) × (List (List Int))
abbrev e_Net : O_Net → DV := fun p => .obj 0 [0, 1, 2] [eI p.1, (eT (eP2 eI eI)) p.2.1, (eT (eT eI)) p.2.2]
def T_law_numbers (cell_1 : Int) (at_2 : Int) (many_3 : Int) : O (List Int) :=
  O.lt ((decide ((10 ^ (18 : Int).toNat) ≤ (if cell_1 < 0 then -cell_1 else cell_1)))) fun great_4 =>
  O.lt (((2 * (if cell_1 < 0 then -cell_1 else cell_1)) + (if (decide (cell_1 < 0)) = true then 1 else 0))) fun rest_5 =>
  O.ck (okR many_3) <|
  (foldT (rngT 0 many_3) ((rest_5, ([] : List Int))) fun k_7 (s_9 : Int × (List Int)) =>
  (if great_4 = true then
  O.ck (appC s_9.2) <|
  O.lt ((s_9.1 / 1000)) fun rest_12 =>
  .ok ((rest_12, (s_9.2 ++ [(s_9.1 % 1000)])))
  else O.lt ((((((s_9.1 * 48271) + (at_2 * 69621)) + (k_7 * 16807)) + 7) % 2147483647)) fun mixed_13 =>
  O.ck (mulC mixed_13 mixed_13) <|
  O.lt (((((mixed_13 * mixed_13) + (k_7 * 40692)) + 3) % 2147483629)) fun mixed_15 =>
  O.ck (mulC mixed_15 mixed_15) <|
  O.lt (((((mixed_15 * mixed_15) + (at_2 * 30269)) + 5) % 2147483587)) fun mixed_17 =>
  O.ck (appC s_9.2) <|
  .ok ((s_9.1, (s_9.2 ++ [((mixed_17 / 5) % 1000)]))))).bind fun s_10 =>
  .ok s_10.2
def T_law_order (numbers_here_1 : List Int) (k_2 : Int) (size_3 : Int) : O (List Int) :=
  O.ck (okR size_3) <|
  (foldT (rngT 0 size_3) (([] : List Int)) fun i_5 (s_7 : (List Int)) =>
  (O.opt (L2.atI numbers_here_1 (k_2 + i_5))).bind fun r_10 =>
  O.ck (0 < (i_5 + 1)) <|
  O.ck (insC s_7 (r_10 % (i_5 + 1))) <|
  .ok ((insT s_7 (r_10 % (i_5 + 1)) i_5))).bind fun s_8 =>
  .ok s_8
def T_law_ring_of_five (numbers_here_1 : List Int) (k_2 : Int) : O (Int × (List (Int × Int))) :=
  (T_law_order numbers_here_1 k_2 5).no.bind fun r_4 =>
  (foldT (rngT 0 5) (([] : List (Int × Int))) fun i_5 (s_7 : (List (Int × Int))) =>
  (O.opt (L2.atI r_4 i_5)).bind fun r_10 =>
  (O.opt (L2.atI r_4 ((i_5 + 1) % 5))).bind fun r_12 =>
  O.ck (appC s_7) <|
  (O.opt (L2.atI r_4 ((i_5 + 1) % 5))).bind fun r_15 =>
  (O.opt (L2.atI r_4 i_5)).bind fun r_17 =>
  O.ck (appC (s_7 ++ [(r_10, r_12)])) <|
  .ok (((s_7 ++ [(r_10, r_12)]) ++ [(r_15, r_17)]))).bind fun s_8 =>
  (O.opt (L2.atI numbers_here_1 (k_2 + 5))).bind fun r_20 =>
  O.ck (okR (r_20 % 4)) <|
  (foldT (rngT 0 (r_20 % 4)) s_8 fun j_22 (s_24 : (List (Int × Int))) =>
  (O.opt (L2.atI numbers_here_1 ((k_2 + 6) + j_22))).bind fun r_27 =>
  O.lt ((r_27 % 5)) fun i_28 =>
  (O.opt (L2.atI numbers_here_1 ((k_2 + 6) + j_22))).bind fun r_30 =>
  O.lt ((i_28, (((i_28 + 1) + ((r_30 / 5) % 4)) % 5))) fun arc_31 =>
  (if (memT arc_31 s_24) = true then
  O.ck (memT arc_31 s_24 = true) <|
  .ok ((eraseT s_24 arc_31))
  else O.ck (appC s_24) <|
  .ok ((s_24 ++ [arc_31])))).bind fun s_25 =>
  .ok ((5, (s_25.mergeSort leP)))
def T_law_net (numbers_here_1 : List Int) (k_2 : Int) (most_3 : Int) : O (Int × (List (Int × Int))) :=
  ((if (decide (4 < most_3)) = true then (O.opt (L2.atI numbers_here_1 k_2)).bind fun r_7 =>
  .ok ((decide ((r_7 % 3) = 0)), ()) else .ok (false, ())) : O (Bool × Unit)).bind fun p_8 =>
  (if p_8.1 = true then
  (T_law_ring_of_five numbers_here_1 ((k_2 + 1))).no.bind fun r_10 =>
  .ok r_10
  else (O.opt (L2.atI numbers_here_1 k_2)).bind fun r_12 =>
  O.ck (0 < most_3) <|
  O.lt ((1 + ((r_12 / 3) % most_3))) fun size_14 =>
  O.ck (okR size_14) <|
  (foldT (rngT 0 size_14) ((([] : List (Int × Int)), 0)) fun i_16 (s_18 : (List (Int × Int)) × Int) =>
  O.ck (okR size_14) <|
  (foldT (rngT 0 size_14) ((s_18.1, s_18.2)) fun j_21 (s_23 : (List (Int × Int)) × Int) =>
  (if (!decide (i_16 = j_21)) = true then
  (O.opt (L2.atI numbers_here_1 ((k_2 + 1) + (s_23.2 / 4)))).bind fun r_26 =>
  (O.opt (L2.atI [1, 5, 25, 125] (s_23.2 % 4))).bind fun r_28 =>
  O.ck (divC r_28) <|
  O.lt (((r_26 / r_28) % 5)) fun seed_30 =>
  O.lt ((s_23.2 + 1)) fun at_31 =>
  (O.opt (L2.atI numbers_here_1 k_2)).bind fun r_33 =>
  (O.opt (L2.atI numbers_here_1 k_2)).bind fun r_35 =>
  (if (decide (seed_30 < ((1 + (r_33 / 300)) + (r_35 % 2)))) = true then
  O.ck (appC s_23.1) <|
  .ok (((s_23.1 ++ [(i_16, j_21)]), at_31))
  else .ok ((s_23.1, at_31)))
  else .ok ((s_23.1, s_23.2)))).bind fun s_24 =>
  .ok ((s_24.1, s_24.2))).bind fun s_19 =>
  .ok ((size_14, s_19.1)))
def T_law_knows (net_here_1 : (Int × (List (Int × Int)))) : O (List (List Int)) :=
  O.ck (okR net_here_1.1) <|
  (foldT (rngT 0 net_here_1.1) (([] : List (List Int))) fun i_3 (s_5 : (List (List Int))) =>
  O.ck (net_here_1.2.length ≤ 16777216) <|
  O.ck (appC s_5) <|
  .ok ((s_5 ++ [((net_here_1.2.filter fun arc_7 => (decide (arc_7.1 = i_3))).map fun arc_7 => arc_7.2)]))).bind fun s_6 =>
  .ok s_6
def T_check_size (net_1 : O_Net) : O Unit :=
  (if (decide (8 < net_1.1)) = true then
  .exc 0 [(eS ((PySem.Str.ofString "places")))] []
  else .ok ())
def T_lot_of (bits_1 : Int) (size_2 : Int) : O (List Int) :=
  O.ck (okR size_2) <|
  O.ck ((rngT 0 size_2).length ≤ 16777216) <|
  (compT (rngT 0 size_2) () fun place_11 s_12 =>
  O.ck (shlC 1 place_11) <|
  (if ((Builtin.bitAnd bits_1 ((1 * 2 ^ (place_11 : Int).toNat))) != 0) = true then .ok (some place_11, ()) else .ok (none, ()))).no.bind fun l_14 =>
  .ok l_14.1
def T_are_friends (net_1 : O_Net) (lot_2 : List Int) : O Bool :=
  (comp2T lot_2 fun place_3 =>
  (compT lot_2 () fun other_4 s_5 =>
  (if (!decide (other_4 = place_3)) = true then (O.opt (L2.atI net_1.2.2 place_3)).bind fun r_7 =>
  .ok (some ((memT other_4 r_7)), ()) else .ok (none, ()))).no.bind fun p => .ok p.1).no.bind fun l_8 => O.ck (l_8.length ≤ 16777216) <|
  .ok ((l_8.all id))
def T_least_place (bits_1 : Int) (size_2 : Int) : O Int :=
  (T_lot_of bits_1 size_2).no.bind fun r_4 =>
  (O.opt (L2.atI r_4 0)).bind fun r_6 =>
  .ok r_6
def T_friend_lots (net_1 : O_Net) : O (List (List Int)) :=
  (T_check_size net_1).bind fun r_2 =>
  O.ck (shlC 1 net_1.1) <|
  O.ck (okR (1 * 2 ^ (net_1.1 : Int).toNat)) <|
  (foldT (rngT 1 (1 * 2 ^ (net_1.1 : Int).toNat)) (([] : List (Int × (List Int)))) fun bits_6 (s_8 : (List (Int × (List Int)))) =>
  (T_lot_of bits_6 net_1.1).no.bind fun r_11 =>
  (T_are_friends net_1 r_11).no.bind fun r_13 =>
  (if r_13 = true then
  O.ck (appC s_8) <|
  .ok ((s_8 ++ [(bits_6, r_11)]))
  else .ok s_8)).bind fun s_9 =>
  O.lt ([[]]) fun best_15 =>
  O.ck (shlC 1 net_1.1) <|
  O.ck (okR (1 * 2 ^ (net_1.1 : Int).toNat)) <|
  (foldT (rngT 1 (1 * 2 ^ (net_1.1 : Int).toNat)) best_15 fun bits_18 (s_20 : (List (List (List Int)))) =>
  (T_least_place bits_18 net_1.1).no.bind fun r_23 =>
  (foldT s_9 none fun p_24 (s_26 : (Option (List (List Int)))) =>
  (O.opt (L2.atI p_24.2 0)).bind fun r_29 =>
  (if ((decide (r_29 = r_23)) && (decide ((Builtin.bitAnd p_24.1 bits_18) = p_24.1))) = true then
  ((if (s_26).isNone = true then .ok (true, ()) else (O.opt (L2.atI s_20 (Builtin.bitXor bits_18 p_24.1))).bind fun r_35 =>
  (O.opt s_26).bind fun r_37 =>
  .ok ((decide ((((r_35).length : Int) + 1) < ((r_37).length : Int))), ())) : O (Bool × Unit)).bind fun p_38 =>
  (if p_38.1 = true then
  (O.opt (L2.atI s_20 (Builtin.bitXor bits_18 p_24.1))).bind fun r_40 =>
  O.ck (catC [p_24.2] r_40) <|
  O.lt ((some ([p_24.2] ++ r_40))) fun found_42 =>
  .ok found_42
  else .ok s_26)
  else .ok s_26)).bind fun s_27 =>
  (O.opt s_27).bind fun r_45 =>
  O.ck (appC s_20) <|
  .ok ((s_20 ++ [r_45]))).bind fun s_21 =>
  (O.opt (L2.atI s_21 (-1))).bind fun r_48 =>
  .ok r_48
def T_law_kinds (c : Nat) (fs : List DV) : O (Str × DV) :=
  (if (tI_TooMany c) = true then
  (O.opt (xfT (xf_what c) fs)).bind fun r_4 =>
  (O.opt (reprV (r_4))).bind fun r_6 =>
  O.ck (appC ([] : List (Str × DV))) <|
  .ok ((([] : List (Str × DV)) ++ [((PySem.Str.ofString "TooMany"), (eS r_6))]))
  else .ok (([] : List (Str × DV))) : O (List (Str × DV))).bind fun s_2 =>
  (if (tJ_0 c) = true then
  O.ck (appC s_2) <|
  .ok ((s_2 ++ [((PySem.Str.ofString "other"), (eS ((PySem.Str.ofString ""))))]))
  else .ok s_2 : O (List (Str × DV))).bind fun s_9 =>
  (if (tJ_1 c) = true then
  O.ck (appC s_9) <|
  .ok ((s_9 ++ [((PySem.Str.ofString "other"), (eS ((PySem.Str.ofString ""))))]))
  else .ok s_9 : O (List (Str × DV))).bind fun s_12 =>
  (if (tJ_2 c) = true then
  O.ck (appC s_12) <|
  .ok ((s_12 ++ [((PySem.Str.ofString "other"), (eS ((PySem.Str.ofString ""))))]))
  else .ok s_12 : O (List (Str × DV))).bind fun s_15 =>
  (if ((decide (((s_15).length : Int) = 1)) && (tB_ValueError c)) = true then
  (O.opt (L2.atI s_15 0)).bind fun r_18 =>
  .ok r_18
  else .ok (((PySem.Str.ofString "other"), (eS ((PySem.Str.ofString ""))))))
def T_law_told (net_here_1 : O_Net) : O (Str × DV) :=
  (tryT ((T_friend_lots net_here_1).bind fun r_2 =>
  .ok (((PySem.Str.ofString ""), ((eT (eT eI)) r_2))) : O (Str × DV)) fun c fs => O.ck (c < 2) <| if tI_SayError c = true then ((T_law_kinds c fs).no.bind fun r_5 =>
  .ok r_5 : O (Str × DV)).no else .exc c fs [])
def T_law_fewest (fits_1 : List Bool) : O Int :=
  O.lt ([0]) fun fewest_here_2 =>
  O.ck (okR ((fits_1).length : Int)) <|
  (foldT (rngT 1 ((fits_1).length : Int)) fewest_here_2 fun at_4 (s_6 : (List Int)) =>
  O.ck (okR ((fits_1).length : Int)) <|
  (loopT (ρ := Int) (rngT 0 ((fits_1).length : Int)) ((99, at_4)) fun k_9 (s_11 : Int × Int) =>
  (if (decide (s_11.2 = 0)) = true then
  .ok (.brk ((s_11.1, s_11.2)))
  else (((O.opt (L2.atI fits_1 s_11.2)).bind fun r_20 =>
  (if r_20 = true then (O.opt (L2.atI s_6 (at_4 - s_11.2))).bind fun r_22 =>
  .ok ((decide ((r_22 + 1) < s_11.1)), ()) else .ok (false, ())) : O (Bool × Unit)).bind fun x_23 => (if x_23.1 = true then
  (O.opt (L2.atI s_6 (at_4 - s_11.2))).bind fun r_26 =>
  O.lt ((r_26 + 1)) fun best_27 =>
  .ok best_27
  else .ok s_11.1 : O Int)).bind fun s_14 =>
  O.lt ((Builtin.bitAnd ((s_11.2 - 1)) at_4)) fun part_31 =>
  .ok (.nx ((s_14, part_31))))).aft (fun s_12 =>
  O.ck (appC s_6) <|
  .ok ((s_6 ++ [s_12.1]))) (fun _ => .bad)).bind fun s_7 =>
  (O.opt (L2.atI s_7 (-1))).bind fun r_34 =>
  .ok r_34
def T_is_below (value_1 : DV) (many_2 : Int) : O Bool :=
  ((O.opt (isiY .int value_1)).bind fun r_9 =>
  (if r_9 = true then (O.opt (isiY .bl value_1)).bind fun r_11 =>
  (if (!r_11) = true then (O.opt (asI value_1)).bind fun r_13 =>
  .ok (((decide (0 ≤ r_13)) && (decide (r_13 < many_2)))) else .ok false) else .ok false) : O Bool).bind fun b_7 =>
  .ok b_7
def T_first_wrong_arc (size_1 : Int) (arcs_2 : DV) : O (Option Int) :=
  (O.opt (isiYs [.lst, .tup] arcs_2)).bind fun r_4 =>
  (if (!r_4) = true then
  .ok ((some 0))
  else O.lt (((eP2 eI eI) (((-1), (-1))))) fun ahead_5 =>
  (O.opt (seqY arcs_2)).bind fun r_7 =>
  (loopT (ρ := Option Int) (enumT r_7) ahead_5 fun p_8 (s_10 : DV) =>
  ((O.opt (isiY .tup p_8.2)).bind fun r_17 =>
  (if (!r_17) = true then .ok (true, ()) else (O.opt (lenY p_8.2)).bind fun r_19 =>
  (if (!decide (r_19 = 2)) = true then .ok (true, ()) else (O.opt (walkY p_8.2)).bind fun r_41 =>
  O.ck (r_41.length ≤ 16777216) <|
  (compT r_41 () fun place_43 s_44 =>
  (T_is_below place_43 size_1).no.bind fun r_46 =>
  .ok (some r_46, ())).no.bind fun l_47 =>
  .ok ((!(l_47.1.all id)), ()))) : O (Bool × Unit)).bind fun p_49 =>
  (if p_49.1 = true then
  .ok (.ret ((some p_8.1)))
  else ((O.opt (ixY p_8.2 0)).bind fun r_59 =>
  (O.opt (ixY p_8.2 1)).bind fun r_61 =>
  (O.opt (eqY r_59 r_61)).bind fun r_63 =>
  (if r_63 = true then .ok (true, ()) else (O.opt (leYo p_8.2 s_10)).bind fun r_65 =>
  .ok (r_65, ())) : O (Bool × Unit)).bind fun p_66 =>
  (if p_66.1 = true then
  .ok (.ret ((some p_8.1)))
  else .ok (.nx p_8.2)))).aft (fun s_11 =>
  .ok none) (fun r => .ok r))
def T_Net_init (size_1 : Int) (arcs_2 : DV) : O (Unit × O_Net) :=
  (T_is_below ((eI size_1)) ((12 + 1))).no.bind fun r_4 =>
  (if ((!r_4) || (decide (size_1 < 1))) = true then
  .exc 1 [(eS ((PySem.Str.ofString "size"))), (eI 0)] []
  else (T_first_wrong_arc size_1 arcs_2).no.bind fun r_6 =>
  (if (r_6).isSome = true then
  .exc 1 [(eS ((PySem.Str.ofString "arcs"))), ((eO eI) r_6)] []
  else O.lt size_1 fun size_7 =>
  (O.opt (tupY arcs_2)).bind fun r_9 =>
  (O.opt ((asT (asP2 asI asI)) r_9)).bind fun r_11 =>
  O.lt r_11 fun arcs_12 =>
  O.ck (okR size_1) <|
  O.ck (arcs_12.length ≤ 16777216) <|
  O.ck ((rngT 0 size_1).length ≤ 16777216) <|
  O.lt (((rngT 0 size_1).map fun place_14 => ((arcs_12.filter fun p_15 => (decide (p_15.1 = place_14))).map fun p_15 => p_15.2))) fun knows_18 =>
  .ok ((), (size_7, arcs_12, knows_18))))
def T_law_sameN : Nat → DV → DV → O Bool
  | 0 => fun _ _ => .bad
  | n + 1 => fun actual_1 expected_2 =>   (if (isNon (toD expected_2)) = true then
  .ok ((isNon (toD actual_1)))
  else (O.opt (isiY .str expected_2)).bind fun r_4 =>
  (if r_4 = true then
  ((O.opt (isiY .str actual_1)).bind fun r_11 =>
  (if r_11 = true then (O.opt (eqY actual_1 expected_2)).bind fun r_13 =>
  .ok r_13 else .ok false) : O Bool).bind fun b_9 =>
  .ok b_9
  else (O.opt (isiY .bl expected_2)).bind fun r_15 =>
  (if r_15 = true then
  ((O.opt (isiY .bl actual_1)).bind fun r_22 =>
  (if r_22 = true then (O.opt (eqY actual_1 expected_2)).bind fun r_24 =>
  .ok r_24 else .ok false) : O Bool).bind fun b_20 =>
  .ok b_20
  else (O.opt (isiY .int expected_2)).bind fun r_26 =>
  (if r_26 = true then
  ((O.opt (isiY .int actual_1)).bind fun r_33 =>
  (if r_33 = true then (O.opt (isiY .bl actual_1)).bind fun r_35 =>
  (if (!r_35) = true then (O.opt (eqY actual_1 expected_2)).bind fun r_37 =>
  .ok r_37 else .ok false) else .ok false) : O Bool).bind fun b_31 =>
  .ok b_31
  else ((O.opt (isiY .tup actual_1)).bind fun r_45 =>
  (if (!r_45) = true then .ok (true, ()) else (O.opt (lenY actual_1)).bind fun r_47 =>
  (O.opt (lenY expected_2)).bind fun r_49 =>
  .ok ((!decide (r_47 = r_49)), ())) : O (Bool × Unit)).bind fun p_50 =>
  (if p_50.1 = true then
  .ok false
  else (O.opt (lenY expected_2)).bind fun r_52 =>
  O.ck (okR r_52) <|
  (loopT (ρ := Bool) (rngT 0 r_52) () fun k_54 (s_56 : Unit) =>
  (O.opt (ixY actual_1 k_54)).bind fun r_59 =>
  (O.opt (ixY expected_2 k_54)).bind fun r_61 =>
  (T_law_sameN n r_59 r_61).no.bind fun r_63 =>
  (if (!r_63) = true then
  .ok (.ret false)
  else .ok (.nx ()))).aft (fun s_57 =>
  .ok true) (fun r => .ok r))))))
def T_law_same (actual_1 : DV) (expected_2 : DV) : O Bool := T_law_sameN 6 actual_1 expected_2
def T_law_are_friends (knows_here_1 : List (List Int)) (lot_2 : List Int) : O Bool :=
  (loopT (ρ := Bool) lot_2 () fun i_3 (s_5 : Unit) =>
  (loopT (ρ := Bool) lot_2 () fun j_7 (s_9 : Unit) =>
  ((if (!decide (i_3 = j_7)) = true then (O.opt (L2.atI knows_here_1 i_3)).bind fun r_14 =>
  .ok ((!memT j_7 r_14), ()) else .ok (false, ())) : O (Bool × Unit)).bind fun p_15 =>
  (if p_15.1 = true then
  .ok (.ret false)
  else .ok (.nx ()))).aft (fun s_10 =>
  .ok (.nx ())) (fun r => .ok (.ret r))).aft (fun s_6 =>
  .ok true) (fun r => .ok r)
def T_law_lots (size_1 : Int) : O (List (List Int)) :=
  O.lt ([[]]) fun lots_here_2 =>
  O.ck (okR size_1) <|
  (foldT (rngT 0 size_1) lots_here_2 fun i_4 (s_6 : (List (List Int))) =>
  O.ck (s_6.length ≤ 16777216) <|
  (compT s_6 () fun lot_13 s_14 =>
  O.ck (catC lot_13 [i_4]) <|
  .ok (some ((lot_13 ++ [i_4])), ())).no.bind fun l_16 =>
  O.ck (catC s_6 l_16.1) <|
  O.lt ((s_6 ++ l_16.1)) fun lots_here_18 =>
  .ok lots_here_18).bind fun s_7 =>
  .ok s_7
def T_law (script_1 : List Int) : O Bool :=
  O.ck (okR (if 3 < ((script_1).length : Int) then 3 else ((script_1).length : Int))) <|
  (loopT (ρ := Bool) (rngT 0 (if 3 < ((script_1).length : Int) then 3 else ((script_1).length : Int))) () fun at_3 (s_5 : Unit) =>
  (O.opt (L2.atI script_1 at_3)).bind fun r_8 =>
  (T_law_numbers r_8 at_3 50).no.bind fun r_10 =>
  (T_law_net r_10 0 7).no.bind fun r_12 =>
  (O.opt (L2.atI r_10 30)).bind fun r_16 =>
  (if (decide ((r_16 % 3) = 0)) = true then
  O.ck (r_12.2.length ≤ 16777216) <|
  O.ck (catC r_12.2 ((r_12.2.filter fun arc_17 => (!memT ((arc_17.2, arc_17.1)) r_12.2)).map fun arc_17 => (arc_17.2, arc_17.1))) <|
  O.lt ((r_12.2 ++ ((r_12.2.filter fun arc_17 => (!memT ((arc_17.2, arc_17.1)) r_12.2)).map fun arc_17 => (arc_17.2, arc_17.1)))) fun arcs_20 =>
  O.lt ((r_12.1, (arcs_20.mergeSort leP))) fun net_here_21 =>
  .ok net_here_21
  else .ok r_12 : O (Int × (List (Int × Int)))).bind fun s_14 =>
  (T_law_knows s_14).no.bind fun r_23 =>
  (T_Net_init s_14.1 (((eL (eP2 eI eI)) s_14.2))).no.bind fun r_25 =>
  (T_law_told r_25.2).no.bind fun r_27 =>
  (T_law_lots s_14.1).no.bind fun r_39 =>
  O.ck (r_39.length ≤ 16777216) <|
  (compT r_39 () fun lot_41 s_42 =>
  (T_law_are_friends r_23 lot_41).no.bind fun r_44 =>
  .ok (some r_44, ())).no.bind fun l_45 =>
  (T_law_fewest l_45.1).bind fun r_46 =>
  ((if (!decide (r_27.1 = (PySem.Str.ofString ""))) = true then .ok (true, ()) else (O.opt ((asT (asT asI)) r_27.2)).bind fun r_53 =>
  (O.opt (isiY .tup ((eT (eT eI)) r_53))).bind fun r_55 =>
  (if (!r_55) = true then .ok (true, ()) else (O.opt ((asT (asT asI)) r_27.2)).bind fun r_57 =>
  .ok ((!decide (((r_57).length : Int) = r_46)), ()))) : O (Bool × Unit)).bind fun p_58 =>
  (if p_58.1 = true then
  .ok (.ret false)
  else (O.opt ((asT (asT asI)) r_27.2)).bind fun r_60 =>
  (loopT (ρ := Bool) r_60 (([] : List Int)) fun lot_61 (s_63 : (List Int)) =>
  ((O.opt (isiY .tup ((eT eI) lot_61))).bind fun r_70 =>
  (if (!r_70) = true then .ok (true, ()) else (if (decide (((lot_61).length : Int) = 0)) = true then .ok (true, ()) else (T_law_are_friends r_23 lot_61).no.bind fun r_72 =>
  .ok ((!r_72), ()))) : O (Bool × Unit)).bind fun p_73 =>
  (if p_73.1 = true then
  .ok (.ret false)
  else (if (!decide (lot_61 = (lot_61.mergeSort leI))) = true then
  .ok (.ret false)
  else O.ck (catC s_63 lot_61) <|
  O.lt ((s_63 ++ lot_61)) fun places_75 =>
  .ok (.nx places_75)))).aft (fun s_64 =>
  O.ck (okS s_14.1) <|
  (T_law_same (((eT eI) ((s_64.mergeSort leI)))) (((eT eI) ((rngT 0 s_14.1))))).no.bind fun r_79 =>
  (if (!r_79) = true then
  .ok (.ret false)
  else O.ck ((rngT 0 8).length ≤ 16777216) <|
  O.lt (((rngT 0 8).map fun i_80 => (i_80, ((i_80 + 1) - (2 * (i_80 % 2)))))) fun eight_82 =>
  (T_Net_init 8 (((eL (eP2 eI eI)) eight_82))).no.bind fun r_84 =>
  (T_law_told r_84.2).no.bind fun r_86 =>
  ((if (!decide (r_86.1 = (PySem.Str.ofString ""))) = true then .ok (true, ()) else (O.opt ((asT (asP2 asI asI)) r_86.2)).bind fun r_90 =>
  (if (!decide (((r_90).length : Int) = 4)) = true then .ok (true, ()) else (O.opt ((asT (asP2 asI asI)) r_86.2)).bind fun r_92 =>
  .ok ((!decide ((r_92.mergeSort leP) = (ev2 eight_82))), ()))) : O (Bool × Unit)).bind fun p_93 =>
  (if p_93.1 = true then
  .ok (.ret false)
  else (O.opt (L2.atI r_10 24)).bind fun r_95 =>
  O.lt ((9 + (r_95 % 4))) fun great_96 =>
  (T_Net_init great_96 (((eL (eP2 eI eI)) ([(0, 1), (1, 0)])))).no.bind fun r_98 =>
  (T_law_told r_98.2).no.bind fun r_100 =>
  (O.opt (reprV (eS ((PySem.Str.ofString "places"))))).bind fun r_102 =>
  (T_law_same (((eP2 eS eY) r_100)) (((eP2 eS eS) (((PySem.Str.ofString "TooMany"), r_102))))).no.bind fun r_104 =>
  (if (!r_104) = true then
  .ok (.ret false)
  else .ok (.nx ()))))) (fun r => .ok (.ret r)))).aft (fun s_6 =>
  .ok true) (fun r => .ok r)
end Lk33
namespace Lk33
open PySem KS KT
set_option synthInstance.maxSize 4000
set_option synthInstance.maxHeartbeats 400000
theorem rf_law_numbers (cell_1 : Int) (at_2 : Int) (many_3 : Int) : Rf (fn_law_numbers (toDs [eI cell_1, eI at_2, eI many_3])) (T_law_numbers cell_1 at_2 many_3) (KF (eL eI) 3 os0) (KX 3 os0) := by
  unfold fn_law_numbers T_law_numbers
  refine fn_rf0 (fr0 := ([some (toD (eI cell_1)), some (toD (eI at_2)), some (toD (eI many_3)), none, none, none, none, none] : Fr)) rfl ?_
  unfold g_law_numbers
  exact (by exact (s_set (x_v (v := eB ((decide ((10 ^ (18 : Int).toNat) ≤ (if cell_1 < 0 then -cell_1 else cell_1))))) (by exact (v_op2 ((v_op1 ((v_op1 ((v_var (i := 0) (by exact rfl))).l f_int)).l f_abs)).l ((v_op2 (v_cI).l (v_cI).l (f_pow (by decide)))).l f_ge)) (by exact (k_SetN (E := eB) (fr' := fun great_4 => ([some (toD (eI cell_1)), some (toD (eI at_2)), some (toD (eI many_3)), some (toD (eB great_4)), none, none, none, none] : Fr)) (fun _ => rfl) (fun great_4 => (by exact (s_set (x_v (v := eI (((2 * (if cell_1 < 0 then -cell_1 else cell_1)) + (if (decide (cell_1 < 0)) = true then 1 else 0)))) (by exact (v_op2 ((v_op2 (v_cI).l ((v_op1 ((v_op1 ((v_var (i := 0) (by exact rfl))).l f_int)).l f_abs)).l (f_mul (mul_l (by decide))))).l ((v_op1 ((v_op2 ((v_var (i := 0) (by exact rfl))).l (v_cI).l f_ltA)).l f_intB)).l f_add)) (by exact (k_SetN (E := eI) (fr' := fun rest_5 => ([some (toD (eI cell_1)), some (toD (eI at_2)), some (toD (eI many_3)), some (toD (eB great_4)), some (toD (eI rest_5)), none, none, none] : Fr)) (fun _ => rfl) (fun rest_5 => (by exact (s_setF (x_v (v := (eL eI) ([])) (by exact (v_lst va_nil rfl)) (by exact (k_SetF (d := toD ((eL eI) ([] : List Int))) (fr' := ([some (toD (eI cell_1)), some (toD (eI at_2)), some (toD (eI many_3)), some (toD (eB great_4)), some (toD (eI rest_5)), some (toD ((eL eI) (([] : List Int)))), none, none] : Fr)) rfl (by exact (s_forH (Rf.ck fun h_6 =>
  (by exact (x_vi (by exact (vi_rg1 ((v_var (i := 2) (by exact rfl))).l h_6)) (by exact (k_for (js := [false, false, false, false, false, false, true, true]) (F := (fun (s_8 : Int × (List Int)) => ([some (toD (eI cell_1)), some (toD (eI at_2)), some (toD (eI many_3)), some (toD (eB great_4)), some (toD (eI s_8.1)), some (toD ((eL eI) s_8.2)), none, none] : Fr))) (s0 := (rest_5, ([] : List Int))) rfl (fun _ _ => rfl) (fun k_7 s_9 => (by exact (s_ifX (x_vb (vb_tru ((v_var (i := 3) (by exact rfl))).l tru_B) (by exact (k_If (by exact (s_seqE (s_x (x_mut (i := 5) rfl rfl (x_cons (by exact (x_v (v := eI ((s_9.1 % 1000))) (by exact (v_op2 ((v_op1 ((v_var (i := 4) (by exact rfl))).l f_int)).l (v_cI).l (f_mod (by decide)))) (by exact (k_A (by exact (x_nil (Rf.ck fun h_11 =>
  (by exact (k_mut (i := 5) (vs := [eI ((s_9.1 % 1000))]) (fr' := ([some (toD (eI cell_1)), some (toD (eI at_2)), some (toD (eI many_3)), some (toD (eB great_4)), some (toD (eI s_9.1)), some (toD ((eL eI) ((s_9.2 ++ [(s_9.1 % 1000)])))), some (toD (eI k_7)), none] : Fr)) rfl rfl (m_app (E := eI) (a := (s_9.1 % 1000)) h_11) rfl (by exact (k_X (by exact (s_seqE (s_set (x_v (v := eI ((s_9.1 / 1000))) (by exact (v_op2 ((v_var (i := 4) (by exact rfl))).l (v_cI).l (f_div (by decide)))) (by exact (k_SetN (E := eI) (fr' := fun rest_12 => ([some (toD (eI cell_1)), some (toD (eI at_2)), some (toD (eI many_3)), some (toD (eB great_4)), some (toD (eI rest_12)), some (toD ((eL eI) ((s_9.2 ++ [(s_9.1 % 1000)])))), some (toD (eI k_7)), none] : Fr)) (fun _ => rfl) (fun rest_12 => (by exact (s_nx (by exact (s_end ⟨.inl rfl, rfl⟩))))))))))))))))))))))))))) (by exact (s_seqE (s_set (x_v (v := eI ((((((s_9.1 * 48271) + (at_2 * 69621)) + (k_7 * 16807)) + 7) % 2147483647))) (by exact (v_op2 ((v_op1 ((v_op2 ((v_op2 ((v_op2 ((v_op2 ((v_var (i := 4) (by exact rfl))).l (v_cI).l (f_mul (mul_r (by decide))))).l ((v_op2 ((v_var (i := 1) (by exact rfl))).l (v_cI).l (f_mul (mul_r (by decide))))).l f_add)).l ((v_op2 ((v_var (i := 6) (by exact rfl))).l (v_cI).l (f_mul (mul_r (by decide))))).l f_add)).l (v_cI).l f_add)).l f_int)).l (v_cI).l (f_mod (by decide)))) (by exact (k_SetN (E := eI) (fr' := fun mixed_13 => ([some (toD (eI cell_1)), some (toD (eI at_2)), some (toD (eI many_3)), some (toD (eB great_4)), some (toD (eI s_9.1)), some (toD ((eL eI) s_9.2)), some (toD (eI k_7)), some (toD (eI mixed_13))] : Fr)) (fun _ => rfl) (fun mixed_13 => (by exact (s_seqE (s_set (Rf.ck fun h_14 =>
  (by exact (x_v (v := eI (((((mixed_13 * mixed_13) + (k_7 * 40692)) + 3) % 2147483629))) (by exact (v_op2 ((v_op1 ((v_op2 ((v_op2 ((v_op2 ((v_var (i := 7) (by exact rfl))).l ((v_var (i := 7) (by exact rfl))).l (f_mul h_14))).l ((v_op2 ((v_var (i := 6) (by exact rfl))).l (v_cI).l (f_mul (mul_r (by decide))))).l f_add)).l (v_cI).l f_add)).l f_int)).l (v_cI).l (f_mod (by decide)))) (by exact (k_SetN (E := eI) (fr' := fun mixed_15 => ([some (toD (eI cell_1)), some (toD (eI at_2)), some (toD (eI many_3)), some (toD (eB great_4)), some (toD (eI s_9.1)), some (toD ((eL eI) s_9.2)), some (toD (eI k_7)), some (toD (eI mixed_15))] : Fr)) (fun _ => rfl) (fun mixed_15 => (by exact (s_seqE (s_set (Rf.ck fun h_16 =>
  (by exact (x_v (v := eI (((((mixed_15 * mixed_15) + (at_2 * 30269)) + 5) % 2147483587))) (by exact (v_op2 ((v_op1 ((v_op2 ((v_op2 ((v_op2 ((v_var (i := 7) (by exact rfl))).l ((v_var (i := 7) (by exact rfl))).l (f_mul h_16))).l ((v_op2 ((v_var (i := 1) (by exact rfl))).l (v_cI).l (f_mul (mul_r (by decide))))).l f_add)).l (v_cI).l f_add)).l f_int)).l (v_cI).l (f_mod (by decide)))) (by exact (k_SetN (E := eI) (fr' := fun mixed_17 => ([some (toD (eI cell_1)), some (toD (eI at_2)), some (toD (eI many_3)), some (toD (eB great_4)), some (toD (eI s_9.1)), some (toD ((eL eI) s_9.2)), some (toD (eI k_7)), some (toD (eI mixed_17))] : Fr)) (fun _ => rfl) (fun mixed_17 => (by exact (s_seqE (s_x (x_mut (i := 5) rfl rfl (x_cons (by exact (x_v (v := eI (((mixed_17 / 5) % 1000))) (by exact (v_op2 ((v_op1 ((v_op2 ((v_var (i := 7) (by exact rfl))).l (v_cI).l (f_div (by decide)))).l f_int)).l (v_cI).l (f_mod (by decide)))) (by exact (k_A (by exact (x_nil (Rf.ck fun h_18 =>
  (by exact (k_mut (i := 5) (vs := [eI (((mixed_17 / 5) % 1000))]) (fr' := ([some (toD (eI cell_1)), some (toD (eI at_2)), some (toD (eI many_3)), some (toD (eB great_4)), some (toD (eI s_9.1)), some (toD ((eL eI) ((s_9.2 ++ [((mixed_17 / 5) % 1000)])))), some (toD (eI k_7)), some (toD (eI mixed_17))] : Fr)) rfl rfl (m_app (E := eI) (a := ((mixed_17 / 5) % 1000)) h_18) rfl (by exact (k_X (by exact (s_nx (by exact (s_end ⟨.inl rfl, rfl⟩))))))))))))))))))))))))))))))))))))))))))))))))))) (fun s_10 => (by exact (s_ret (x_fz (i := 5) (fr' := ([some (toD (eI cell_1)), some (toD (eI at_2)), some (toD (eI many_3)), some (toD (eB great_4)), some (toD (eI s_10.1)), some (.tup [toD ((eL eI) s_10.2)]), none, none] : Fr)) rfl rfl rfl (by exact (k_Ret (kd_ret rfl)))))))))))))))))))))))))))))))
theorem rf_law_order (numbers_here_1 : List Int) (k_2 : Int) (size_3 : Int) : Rf (fn_law_order (toDs [(eL eI) numbers_here_1, eI k_2, eI size_3])) (T_law_order numbers_here_1 k_2 size_3) (KF (eL eI) 3 os0) (KX 3 os0) := by
  unfold fn_law_order T_law_order
  refine fn_rf0 (fr0 := ([some (toD ((eL eI) numbers_here_1)), some (toD (eI k_2)), some (toD (eI size_3)), none, none] : Fr)) rfl ?_
  unfold g_law_order
  exact (by exact (s_setF (x_v (v := (eL eI) ([])) (by exact (v_lst va_nil rfl)) (by exact (k_SetF (d := toD ((eL eI) ([] : List Int))) (fr' := ([some (toD ((eL eI) numbers_here_1)), some (toD (eI k_2)), some (toD (eI size_3)), some (toD ((eL eI) (([] : List Int)))), none] : Fr)) rfl (by exact (s_forH (Rf.ck fun h_4 =>
  (by exact (x_vi (by exact (vi_rg1 ((v_var (i := 2) (by exact rfl))).l h_4)) (by exact (k_for (js := [false, false, false, false, true]) (F := (fun (s_6 : (List Int)) => ([some (toD ((eL eI) numbers_here_1)), some (toD (eI k_2)), some (toD (eI size_3)), some (toD ((eL eI) s_6)), none] : Fr))) (s0 := ([] : List Int)) rfl (fun _ _ => rfl) (fun i_5 s_7 => (by exact (s_x (x_mut (i := 3) rfl rfl (x_cons (by exact (Rf.opt fun r_10 h_9 =>
  (by exact (Rf.ck fun h_11 =>
  (by exact (x_v (v := eI ((r_10 % (i_5 + 1)))) (by exact (v_op2 ((v_op1 ((v_op2 ((v_var (i := 0) (by exact rfl))).l ((v_op2 ((v_var (i := 1) (by exact rfl))).l ((v_var (i := 4) (by exact rfl))).l f_add)).l (f_ixL (e := eI) h_9))).l f_int)).l ((v_op2 ((v_var (i := 4) (by exact rfl))).l (v_cI).l f_add)).l (f_mod h_11))) (by exact (k_A (by exact (x_cons (by exact (x_v (v := eI i_5) (by exact (v_var (i := 4) (by exact rfl))) (by exact (k_A (by exact (x_nil (Rf.ck fun h_12 =>
  (by exact (k_mut (i := 3) (vs := [eI ((r_10 % (i_5 + 1))), eI i_5]) (fr' := ([some (toD ((eL eI) numbers_here_1)), some (toD (eI k_2)), some (toD (eI size_3)), some (toD ((eL eI) ((insT s_7 (r_10 % (i_5 + 1)) i_5)))), some (toD (eI i_5))] : Fr)) rfl rfl (m_ins (E := eI) (a := i_5) h_12) rfl (by exact (k_X (by exact (s_end ⟨.inl rfl, rfl⟩)))))))))))))))))))))))))))) (fun s_8 => (by exact (s_ret (x_fz (i := 3) (fr' := ([some (toD ((eL eI) numbers_here_1)), some (toD (eI k_2)), some (toD (eI size_3)), some (.tup [toD ((eL eI) s_8)]), none] : Fr)) rfl rfl rfl (by exact (k_Ret (kd_ret rfl)))))))))))))))))))
theorem rf_law_ring_of_five (numbers_here_1 : List Int) (k_2 : Int) : Rf (fn_law_ring_of_five (toDs [(eL eI) numbers_here_1, eI k_2])) (T_law_ring_of_five numbers_here_1 k_2) (KF (eP2 eI (eL (eP2 eI eI))) 2 os0) (KX 2 os0) := by
  unfold fn_law_ring_of_five T_law_ring_of_five
  refine fn_rf0 (fr0 := ([some (toD ((eL eI) numbers_here_1)), some (toD (eI k_2)), none, none, none, none, none] : Fr)) rfl ?_
  unfold g_law_ring_of_five
  exact (by exact (s_set (Rf.no fun r_4 h_3 =>
  (by exact (x_v (v := (eL eI) r_4) (by exact (v_call (a := r_4) (E := (eL eI)) (rf_law_order numbers_here_1 k_2 5) h_3 rfl rfl (va_cons (v_var (i := 0) (by exact rfl)) (va_cons (v_var (i := 1) (by exact rfl)) (va_cons v_cI va_nil))))) (by exact (k_Set (v := (eL eI) r_4) (fr' := ([some (toD ((eL eI) numbers_here_1)), some (toD (eI k_2)), some (toD ((eL eI) r_4)), none, none, none, none] : Fr)) rfl (by exact (s_setF (x_v (v := (eL (eP2 eI eI)) ([])) (by exact (v_lst va_nil rfl)) (by exact (k_SetF (d := toD ((eL (eP2 eI eI)) ([] : List (Int × Int)))) (fr' := ([some (toD ((eL eI) numbers_here_1)), some (toD (eI k_2)), some (toD ((eL eI) r_4)), some (toD ((eL (eP2 eI eI)) (([] : List (Int × Int))))), none, none, none] : Fr)) rfl (by exact (s_forH (x_vi (by exact (vi_rg1 (v_cI).l (by decide))) (by exact (k_for (js := [false, false, false, false, true, false, false]) (F := (fun (s_6 : (List (Int × Int))) => ([some (toD ((eL eI) numbers_here_1)), some (toD (eI k_2)), some (toD ((eL eI) r_4)), some (toD ((eL (eP2 eI eI)) s_6)), none, none, none] : Fr))) (s0 := ([] : List (Int × Int))) rfl (fun _ _ => rfl) (fun i_5 s_7 => (by exact (s_x (x_mut (i := 3) rfl rfl (x_cons (by exact (Rf.opt fun r_10 h_9 =>
  (by exact (Rf.opt fun r_12 h_11 =>
  (by exact (x_v (v := (eP2 eI eI) ((r_10, r_12))) (by exact (v_tup (va_cons (v_op2 ((v_var (i := 2) (by exact rfl))).l ((v_var (i := 4) (by exact rfl))).l (f_ixL (e := eI) h_9)) (va_cons (v_op2 ((v_var (i := 2) (by exact rfl))).l ((v_op2 ((v_op1 ((v_op2 ((v_var (i := 4) (by exact rfl))).l (v_cI).l f_add)).l f_int)).l (v_cI).l (f_mod (by decide)))).l (f_ixL (e := eI) h_11)) va_nil)) rfl)) (by exact (k_A (by exact (x_nil (Rf.ck fun h_13 =>
  (by exact (k_mut (i := 3) (vs := [(eP2 eI eI) ((r_10, r_12))]) (fr' := ([some (toD ((eL eI) numbers_here_1)), some (toD (eI k_2)), some (toD ((eL eI) r_4)), some (toD ((eL (eP2 eI eI)) ((s_7 ++ [(r_10, r_12)])))), some (toD (eI i_5)), none, none] : Fr)) rfl rfl (m_app (E := (eP2 eI eI)) (a := (r_10, r_12)) h_13) rfl (by exact (k_X (by exact (s_x (x_mut (i := 3) rfl rfl (x_cons (by exact (Rf.opt fun r_15 h_14 =>
  (by exact (Rf.opt fun r_17 h_16 =>
  (by exact (x_v (v := (eP2 eI eI) ((r_15, r_17))) (by exact (v_tup (va_cons (v_op2 ((v_var (i := 2) (by exact rfl))).l ((v_op2 ((v_op1 ((v_op2 ((v_var (i := 4) (by exact rfl))).l (v_cI).l f_add)).l f_int)).l (v_cI).l (f_mod (by decide)))).l (f_ixL (e := eI) h_14)) (va_cons (v_op2 ((v_var (i := 2) (by exact rfl))).l ((v_var (i := 4) (by exact rfl))).l (f_ixL (e := eI) h_16)) va_nil)) rfl)) (by exact (k_A (by exact (x_nil (Rf.ck fun h_18 =>
  (by exact (k_mut (i := 3) (vs := [(eP2 eI eI) ((r_15, r_17))]) (fr' := ([some (toD ((eL eI) numbers_here_1)), some (toD (eI k_2)), some (toD ((eL eI) r_4)), some (toD ((eL (eP2 eI eI)) (((s_7 ++ [(r_10, r_12)]) ++ [(r_15, r_17)])))), some (toD (eI i_5)), none, none] : Fr)) rfl rfl (m_app (E := (eP2 eI eI)) (a := (r_15, r_17)) h_18) rfl (by exact (k_X (by exact (s_end ⟨.inl rfl, rfl⟩))))))))))))))))))))))))))))))))))))))))) (fun s_8 => (by exact (s_forH (Rf.opt fun r_20 h_19 =>
  (by exact (Rf.ck fun h_21 =>
  (by exact (x_vi (by exact (vi_rg1 ((v_op2 ((v_op1 ((v_op2 ((v_var (i := 0) (by exact rfl))).l ((v_op2 ((v_var (i := 1) (by exact rfl))).l (v_cI).l f_add)).l (f_ixL (e := eI) h_19))).l f_int)).l (v_cI).l (f_mod (by decide)))).l h_21)) (by exact (k_for (js := [false, false, false, false, true, true, true]) (F := (fun (s_23 : (List (Int × Int))) => ([some (toD ((eL eI) numbers_here_1)), some (toD (eI k_2)), some (toD ((eL eI) r_4)), some (toD ((eL (eP2 eI eI)) s_23)), none, none, none] : Fr))) (s0 := s_8) rfl (fun _ _ => rfl) (fun j_22 s_24 => (by exact (s_set (Rf.opt fun r_27 h_26 =>
  (by exact (x_v (v := eI ((r_27 % 5))) (by exact (v_op2 ((v_op1 ((v_op2 ((v_var (i := 0) (by exact rfl))).l ((v_op2 ((v_op2 ((v_var (i := 1) (by exact rfl))).l (v_cI).l f_add)).l ((v_var (i := 5) (by exact rfl))).l f_add)).l (f_ixL (e := eI) h_26))).l f_int)).l (v_cI).l (f_mod (by decide)))) (by exact (k_SetN (E := eI) (fr' := fun i_28 => ([some (toD ((eL eI) numbers_here_1)), some (toD (eI k_2)), some (toD ((eL eI) r_4)), some (toD ((eL (eP2 eI eI)) s_24)), some (toD (eI i_28)), some (toD (eI j_22)), none] : Fr)) (fun _ => rfl) (fun i_28 => (by exact (s_set (Rf.opt fun r_30 h_29 =>
  (by exact (x_v (v := (eP2 eI eI) ((i_28, (((i_28 + 1) + ((r_30 / 5) % 4)) % 5)))) (by exact (v_tup (va_cons (v_var (i := 4) (by exact rfl)) (va_cons (v_op2 ((v_op1 ((v_op2 ((v_op2 ((v_var (i := 4) (by exact rfl))).l (v_cI).l f_add)).l ((v_op2 ((v_op1 ((v_op2 ((v_op2 ((v_var (i := 0) (by exact rfl))).l ((v_op2 ((v_op2 ((v_var (i := 1) (by exact rfl))).l (v_cI).l f_add)).l ((v_var (i := 5) (by exact rfl))).l f_add)).l (f_ixL (e := eI) h_29))).l (v_cI).l (f_div (by decide)))).l f_int)).l (v_cI).l (f_mod (by decide)))).l f_add)).l f_int)).l (v_cI).l (f_mod (by decide))) va_nil)) rfl)) (by exact (k_SetN (E := (eP2 eI eI)) (fr' := fun arc_31 => ([some (toD ((eL eI) numbers_here_1)), some (toD (eI k_2)), some (toD ((eL eI) r_4)), some (toD ((eL (eP2 eI eI)) s_24)), some (toD (eI i_28)), some (toD (eI j_22)), some (toD ((eP2 eI eI) arc_31))] : Fr)) (fun _ => rfl) (fun arc_31 => (by exact (s_ifX (x_vb (vb_E (v_op2 ((v_var (i := 6) (by exact rfl))).l (l_pl (i := 3) (by exact rfl) (by exact rfl)) (f_in (dat_P dat_I dat_I) (by decide)))) (by exact (k_If (by exact (s_seqE (s_x (x_mut (i := 3) rfl rfl (x_cons (by exact (x_v (v := (eP2 eI eI) arc_31) (by exact (v_var (i := 6) (by exact rfl))) (by exact (k_A (by exact (x_nil (Rf.ck fun h_32 =>
  (by exact (k_mut (i := 3) (vs := [(eP2 eI eI) arc_31]) (fr' := ([some (toD ((eL eI) numbers_here_1)), some (toD (eI k_2)), some (toD ((eL eI) r_4)), some (toD ((eL (eP2 eI eI)) ((eraseT s_24 arc_31)))), some (toD (eI i_28)), some (toD (eI j_22)), some (toD ((eP2 eI eI) arc_31))] : Fr)) rfl rfl (m_rem (A := (dat_P dat_I dat_I)) (datR_P datR_I datR_I) (by decide) h_32) rfl (by exact (k_X (by exact (s_nx (by exact (s_end ⟨.inl rfl, rfl⟩)))))))))))))))))))) (by exact (s_seqE (s_x (x_mut (i := 3) rfl rfl (x_cons (by exact (x_v (v := (eP2 eI eI) arc_31) (by exact (v_var (i := 6) (by exact rfl))) (by exact (k_A (by exact (x_nil (Rf.ck fun h_33 =>
  (by exact (k_mut (i := 3) (vs := [(eP2 eI eI) arc_31]) (fr' := ([some (toD ((eL eI) numbers_here_1)), some (toD (eI k_2)), some (toD ((eL eI) r_4)), some (toD ((eL (eP2 eI eI)) ((s_24 ++ [arc_31])))), some (toD (eI i_28)), some (toD (eI j_22)), some (toD ((eP2 eI eI) arc_31))] : Fr)) rfl rfl (m_app (E := (eP2 eI eI)) (a := arc_31) h_33) rfl (by exact (k_X (by exact (s_nx (by exact (s_end ⟨.inl rfl, rfl⟩)))))))))))))))))))))))))))))))))))))))))) (fun s_25 => (by exact (s_ret (x_v (v := (eP2 eI (eL (eP2 eI eI))) ((5, (s_25.mergeSort leP)))) (by exact (v_tup (va_cons v_cI (va_cons (v_op1 (l_pl (i := 3) (by exact rfl) (by exact rfl)) f_sortLP) va_nil)) rfl)) (by exact (k_Ret (kd_ret rfl))))))))))))))))))))))))))))))))))
theorem rf_law_net (numbers_here_1 : List Int) (k_2 : Int) (most_3 : Int) : Rf (fn_law_net (toDs [(eL eI) numbers_here_1, eI k_2, eI most_3])) (T_law_net numbers_here_1 k_2 most_3) (KF (eP2 eI (eL (eP2 eI eI))) 3 os0) (KX 3 os0) := by
  unfold fn_law_net T_law_net
  refine fn_rf0 (fr0 := ([some (toD ((eL eI) numbers_here_1)), some (toD (eI k_2)), some (toD (eI most_3)), none, none, none, none, none, none] : Fr)) rfl ?_
  unfold g_law_net
  exact (by exact (s_ifX (x_join (F := (fun (s_37 : Unit) => ([some (toD ((eL eI) numbers_here_1)), some (toD (eI k_2)), some (toD (eI most_3)), none, none, none, none, none, none] : Fr))) (x_and (vb_E (v_op2 ((v_var (i := 2) (by exact rfl))).l (v_cI).l f_gt)) rfl (fun _ => (x_tail (Rf.opt fun r_7 h_6 =>
  (by exact (x_vb (vb_E (v_op2 ((v_op2 ((v_op1 ((v_op2 ((v_var (i := 0) (by exact rfl))).l ((v_var (i := 1) (by exact rfl))).l (f_ixL (e := eI) h_6))).l f_int)).l (v_cI).l (f_mod (by decide)))).l (v_cI).l (f_eq eqb_I))) (by exact (kb_ok rfl)))))))) (fun p_8 => (k_If (by exact (s_seqE (s_ret (Rf.no fun r_10 h_9 =>
  (by exact (x_v (v := (eP2 eI (eL (eP2 eI eI))) r_10) (by exact (v_call (a := r_10) (E := (eP2 eI (eL (eP2 eI eI)))) (rf_law_ring_of_five numbers_here_1 ((k_2 + 1))) h_9 rfl rfl (va_cons (v_var (i := 0) (by exact rfl)) (va_cons (v_op2 ((v_var (i := 1) (by exact rfl))).l (v_cI).l f_add) va_nil)))) (by exact (k_Ret (kd_ret rfl))))))))) (by exact (s_nx (by exact (s_set (Rf.opt fun r_12 h_11 =>
  (by exact (Rf.ck fun h_13 =>
  (by exact (x_v (v := eI ((1 + ((r_12 / 3) % most_3)))) (by exact (v_op2 (v_cI).l ((v_op2 ((v_op1 ((v_op2 ((v_op2 ((v_var (i := 0) (by exact rfl))).l ((v_var (i := 1) (by exact rfl))).l (f_ixL (e := eI) h_11))).l (v_cI).l (f_div (by decide)))).l f_int)).l ((v_var (i := 2) (by exact rfl))).l (f_mod h_13))).l f_add)) (by exact (k_SetN (E := eI) (fr' := fun size_14 => ([some (toD ((eL eI) numbers_here_1)), some (toD (eI k_2)), some (toD (eI most_3)), some (toD (eI size_14)), none, none, none, none, none] : Fr)) (fun _ => rfl) (fun size_14 => (by exact (s_setF (x_v (v := (eL (eP2 eI eI)) ([])) (by exact (v_lst va_nil rfl)) (by exact (k_SetF (d := toD ((eL (eP2 eI eI)) ([] : List (Int × Int)))) (fr' := ([some (toD ((eL eI) numbers_here_1)), some (toD (eI k_2)), some (toD (eI most_3)), some (toD (eI size_14)), some (toD ((eL (eP2 eI eI)) (([] : List (Int × Int))))), none, none, none, none] : Fr)) rfl (by exact (s_set (x_v (v := eI 0) (by exact v_cI) (by exact (k_Set (v := eI 0) (fr' := ([some (toD ((eL eI) numbers_here_1)), some (toD (eI k_2)), some (toD (eI most_3)), some (toD (eI size_14)), some (toD ((eL (eP2 eI eI)) (([] : List (Int × Int))))), some (toD (eI 0)), none, none, none] : Fr)) rfl (by exact (s_forH (Rf.ck fun h_15 =>
  (by exact (x_vi (by exact (vi_rg1 ((v_var (i := 3) (by exact rfl))).l h_15)) (by exact (k_for (js := [false, false, false, false, false, false, true, true, true]) (F := (fun (s_17 : (List (Int × Int)) × Int) => ([some (toD ((eL eI) numbers_here_1)), some (toD (eI k_2)), some (toD (eI most_3)), some (toD (eI size_14)), some (toD ((eL (eP2 eI eI)) s_17.1)), some (toD (eI s_17.2)), none, none, none] : Fr))) (s0 := (([] : List (Int × Int)), 0)) rfl (fun _ _ => rfl) (fun i_16 s_18 => (by exact (s_forH (Rf.ck fun h_20 =>
  (by exact (x_vi (by exact (vi_rg1 ((v_var (i := 3) (by exact rfl))).l h_20)) (by exact (k_for (js := [false, false, false, false, false, false, false, true, true]) (F := (fun (s_22 : (List (Int × Int)) × Int) => ([some (toD ((eL eI) numbers_here_1)), some (toD (eI k_2)), some (toD (eI most_3)), some (toD (eI size_14)), some (toD ((eL (eP2 eI eI)) s_22.1)), some (toD (eI s_22.2)), some (toD (eI i_16)), none, none] : Fr))) (s0 := (s_18.1, s_18.2)) rfl (fun _ _ => rfl) (fun j_21 s_23 => (by exact (s_ifX (x_vb (vb_E (v_op2 ((v_var (i := 6) (by exact rfl))).l ((v_var (i := 7) (by exact rfl))).l (f_ne eqb_I))) (by exact (k_If (by exact (s_seqE (s_set (Rf.opt fun r_26 h_25 =>
  (by exact (Rf.opt fun r_28 h_27 =>
  (by exact (Rf.ck fun h_29 =>
  (by exact (x_v (v := eI (((r_26 / r_28) % 5))) (by exact (v_op2 ((v_op1 ((v_op2 ((v_op2 ((v_var (i := 0) (by exact rfl))).l ((v_op2 ((v_op2 ((v_var (i := 1) (by exact rfl))).l (v_cI).l f_add)).l ((v_op2 ((v_var (i := 5) (by exact rfl))).l (v_cI).l (f_div (by decide)))).l f_add)).l (f_ixL (e := eI) h_25))).l ((v_op2 ((v_eq (w := eL eI [1, 5, 25, 125]) rfl (v_lst (va_cons v_cI (va_cons v_cI (va_cons v_cI (va_cons v_cI va_nil)))) rfl))).l ((v_op2 ((v_op1 ((v_var (i := 5) (by exact rfl))).l f_int)).l (v_cI).l (f_mod (by decide)))).l (f_ixL (e := eI) h_27))).l (f_div h_29))).l f_int)).l (v_cI).l (f_mod (by decide)))) (by exact (k_SetN (E := eI) (fr' := fun seed_30 => ([some (toD ((eL eI) numbers_here_1)), some (toD (eI k_2)), some (toD (eI most_3)), some (toD (eI size_14)), some (toD ((eL (eP2 eI eI)) s_23.1)), some (toD (eI s_23.2)), some (toD (eI i_16)), some (toD (eI j_21)), some (toD (eI seed_30))] : Fr)) (fun _ => rfl) (fun seed_30 => (by exact (s_seqE (s_set (x_v (v := eI ((s_23.2 + 1))) (by exact (v_op2 ((v_var (i := 5) (by exact rfl))).l (v_cI).l f_add)) (by exact (k_SetN (E := eI) (fr' := fun at_31 => ([some (toD ((eL eI) numbers_here_1)), some (toD (eI k_2)), some (toD (eI most_3)), some (toD (eI size_14)), some (toD ((eL (eP2 eI eI)) s_23.1)), some (toD (eI at_31)), some (toD (eI i_16)), some (toD (eI j_21)), some (toD (eI seed_30))] : Fr)) (fun _ => rfl) (fun at_31 => (by exact (s_seqE (s_ifX (Rf.opt fun r_33 h_32 =>
  (by exact (Rf.opt fun r_35 h_34 =>
  (by exact (x_vb (vb_E (v_op2 ((v_var (i := 8) (by exact rfl))).l ((v_op2 ((v_op2 (v_cI).l ((v_op1 ((v_op2 ((v_op2 ((v_var (i := 0) (by exact rfl))).l ((v_var (i := 1) (by exact rfl))).l (f_ixL (e := eI) h_32))).l (v_cI).l (f_div (by decide)))).l f_int)).l f_add)).l ((v_op2 ((v_op1 ((v_op2 ((v_var (i := 0) (by exact rfl))).l ((v_var (i := 1) (by exact rfl))).l (f_ixL (e := eI) h_34))).l f_int)).l (v_cI).l (f_mod (by decide)))).l f_add)).l f_ltA)) (by exact (k_If (by exact (s_seqE (s_x (x_mut (i := 4) rfl rfl (x_cons (by exact (x_v (v := (eP2 eI eI) ((i_16, j_21))) (by exact (v_tup (va_cons (v_var (i := 6) (by exact rfl)) (va_cons (v_var (i := 7) (by exact rfl)) va_nil)) rfl)) (by exact (k_A (by exact (x_nil (Rf.ck fun h_36 =>
  (by exact (k_mut (i := 4) (vs := [(eP2 eI eI) ((i_16, j_21))]) (fr' := ([some (toD ((eL eI) numbers_here_1)), some (toD (eI k_2)), some (toD (eI most_3)), some (toD (eI size_14)), some (toD ((eL (eP2 eI eI)) ((s_23.1 ++ [(i_16, j_21)])))), some (toD (eI at_31)), some (toD (eI i_16)), some (toD (eI j_21)), some (toD (eI seed_30))] : Fr)) rfl rfl (m_app (E := (eP2 eI eI)) (a := (i_16, j_21)) h_36) rfl (by exact (k_X (by exact (s_nx (by exact (s_nx (by exact (s_end ⟨.inl rfl, rfl⟩)))))))))))))))))))))) (by exact (s_nx (by exact (s_nx (by exact (s_end ⟨.inl rfl, rfl⟩)))))))))))))))))))))))))))))))))))) (by exact (s_nx (by exact (s_end ⟨.inl rfl, rfl⟩)))))))))) (fun s_24 => (by exact (s_end ⟨.inl rfl, rfl⟩))))))))))) (fun s_19 => (by exact (s_ret (x_tup (x_cons (by exact (x_v (v := eI size_14) (by exact (v_var (i := 3) (by exact rfl))) (by exact (k_A (by exact (x_cons (by exact (x_fz (i := 4) (fr' := ([some (toD ((eL eI) numbers_here_1)), some (toD (eI k_2)), some (toD (eI most_3)), some (toD (eI size_14)), some (.tup [toD ((eL (eP2 eI eI)) s_19.1)]), some (toD (eI s_19.2)), none, none, none] : Fr)) rfl rfl rfl (by exact (k_A (by exact (x_nil (k_tup (vs := [eI size_14, (eL (eP2 eI eI)) s_19.1]) rfl (k_cv (show DV.tup [eI size_14, (eL (eP2 eI eI)) s_19.1] = (eP2 eI (eL (eP2 eI eI))) (size_14, s_19.1) from rfl) (k_Ret (kd_ret rfl)))))))))))))))))))))))))))))))))))))))))))))))))))))))
theorem rf_law_knows (net_here_1 : (Int × (List (Int × Int)))) : Rf (fn_law_knows (toDs [(eP2 eI (eL (eP2 eI eI))) net_here_1])) (T_law_knows net_here_1) (KF (eL (eL eI)) 1 os0) (KX 1 os0) := by
  unfold fn_law_knows T_law_knows
  refine fn_rf0 (fr0 := ([some (toD ((eP2 eI (eL (eP2 eI eI))) net_here_1)), none, none, none] : Fr)) rfl ?_
  unfold g_law_knows
  exact (by exact (s_setF (x_v (v := (eL (eL eI)) ([])) (by exact (v_lst va_nil rfl)) (by exact (k_SetF (d := toD ((eL (eL eI)) ([] : List (List Int)))) (fr' := ([some (toD ((eP2 eI (eL (eP2 eI eI))) net_here_1)), some (toD ((eL (eL eI)) (([] : List (List Int))))), none, none] : Fr)) rfl (by exact (s_forH (Rf.ck fun h_2 =>
  (by exact (x_vi (by exact (vi_rg1 ((v_op2 ((v_var (i := 0) (by exact rfl))).l (v_cI).l (f_ixP (i := 0) (vs := [eI net_here_1.1, (eL (eP2 eI eI)) net_here_1.2]) (v := eI net_here_1.1) rfl))).l h_2)) (by exact (k_for (js := [false, false, true, false]) (F := (fun (s_4 : (List (List Int))) => ([some (toD ((eP2 eI (eL (eP2 eI eI))) net_here_1)), some (toD ((eL (eL eI)) s_4)), none, none] : Fr))) (s0 := ([] : List (List Int))) rfl (fun _ _ => rfl) (fun i_3 s_5 => (by exact (s_x (x_mut (i := 1) rfl rfl (x_cons (by exact (Rf.ck fun h_8 =>
  (by exact (x_v (v := (eL eI) (((net_here_1.2.filter fun arc_7 => (decide (arc_7.1 = i_3))).map fun arc_7 => arc_7.2))) (by exact (v_comp (E := (eP2 eI eI)) (E2 := eI) (vi_L (v_op2 ((v_var (i := 0) (by exact rfl))).l (v_cI).l (f_ixP (i := 1) (vs := [eI net_here_1.1, (eL (eP2 eI eI)) net_here_1.2]) (v := (eL (eP2 eI eI)) net_here_1.2) rfl))) h_8 (fun _ => rfl) (tgIn_N rfl) (fun arc_7 => (by exact (vb_E (v_op2 ((v_op2 ((v_var (i := 3) (by exact rfl))).l (v_cI).l (f_ixP (i := 0) (vs := [eI arc_7.1, eI arc_7.2]) (v := eI arc_7.1) rfl))).l ((v_var (i := 2) (by exact rfl))).l (f_eq eqb_I))))) (fun arc_7 _ => (by exact (v_op2 ((v_var (i := 3) (by exact rfl))).l (v_cI).l (f_ixP (i := 1) (vs := [eI arc_7.1, eI arc_7.2]) (v := eI arc_7.2) rfl)))))) (by exact (k_A (by exact (x_nil (Rf.ck fun h_9 =>
  (by exact (k_mut (i := 1) (vs := [(eL eI) (((net_here_1.2.filter fun arc_7 => (decide (arc_7.1 = i_3))).map fun arc_7 => arc_7.2))]) (fr' := ([some (toD ((eP2 eI (eL (eP2 eI eI))) net_here_1)), some (toD ((eL (eL eI)) ((s_5 ++ [((net_here_1.2.filter fun arc_7 => (decide (arc_7.1 = i_3))).map fun arc_7 => arc_7.2)])))), some (toD (eI i_3)), none] : Fr)) rfl rfl (m_app (E := (eL eI)) (a := ((net_here_1.2.filter fun arc_7 => (decide (arc_7.1 = i_3))).map fun arc_7 => arc_7.2)) h_9) rfl (by exact (k_X (by exact (s_end ⟨.inl rfl, rfl⟩)))))))))))))))))))) (fun s_6 => (by exact (s_ret (x_fz (i := 1) (fr' := ([some (toD ((eP2 eI (eL (eP2 eI eI))) net_here_1)), some (.tup [toD ((eL (eL eI)) s_6)]), none, none] : Fr)) rfl rfl rfl (by exact (k_Ret (kd_ret rfl)))))))))))))))))))
theorem rf_check_size (net_1 : O_Net) : Rf (fn_check_size (toDs [e_Net net_1])) (T_check_size net_1) (KF eU 1 os0) (KX 1 os0) := by
  unfold fn_check_size T_check_size
  refine fn_rf0 (fr0 := ([some (toD (e_Net net_1))] : Fr)) rfl ?_
  unfold g_check_size
  exact (by exact (s_ifX (x_vb (vb_E (v_op2 ((v_attr (c := 0) (ns := [0, 1, 2]) (fs := [eI net_1.1, (eT (eP2 eI eI)) net_1.2.1, (eT (eT eI)) net_1.2.2]) (z := eI net_1.1) ((v_var (i := 0) (by exact rfl))).l rfl rfl)).l (v_cI).l f_gt)) (by exact (k_If (by exact (s_seqE (s_raise (va_cons v_cS va_nil) rfl (kde0 (st := []))))) (by exact (s_nx (by exact (s_end (kd_nx rfl))))))))))
theorem rf_lot_of (bits_1 : Int) (size_2 : Int) : Rf (fn_lot_of (toDs [eI bits_1, eI size_2])) (T_lot_of bits_1 size_2) (KF (eT eI) 2 os0) (KX 2 os0) := by
  unfold fn_lot_of T_lot_of
  refine fn_rf0 (fr0 := ([some (toD (eI bits_1)), some (toD (eI size_2)), none] : Fr)) rfl ?_
  unfold g_lot_of
  exact (by exact (s_ret (x_op1 (x_compH (Rf.ck fun h_9 =>
  (by exact (x_vi (by exact (vi_rg1 ((v_var (i := 1) (by exact rfl))).l h_9)) (by exact (Rf.ck fun h_10 =>
  (by exact (k_comp (E2 := eI) (G := (fun (s_15 : Unit) => ([some (toD (eI bits_1)), some (toD (eI size_2)), none] : Fr))) (s0 := ()) h_10 rfl (fun _ _ => rfl) (fun place_11 s_12 => (by exact (Rf.ck fun h_13 =>
  (by exact (t_v (vb_tru ((v_op2 ((v_var (i := 0) (by exact rfl))).l ((v_op2 (v_cI).l ((v_var (i := 2) (by exact rfl))).l (f_shl h_13))).l f_andI)).l tru_I) (x_v (v := eI place_11) (by exact (v_var (i := 2) (by exact rfl))) (by exact (k_turn (E2 := eI) (y := place_11) ⟨rfl, rfl⟩))) ⟨_, _, rfl, rfl, rfl⟩))))) (fun _ => rfl) (fun l_14 => (by exact (k_op1 f_tupL (k_Ret (kd_ret rfl))))))))))))))))
theorem rf_are_friends (net_1 : O_Net) (lot_2 : List Int) : Rf (fn_are_friends (toDs [e_Net net_1, (eT eI) lot_2])) (T_are_friends net_1 lot_2) (KF eB 2 os0) (KX 2 os0) := by
  unfold fn_are_friends T_are_friends
  refine fn_rf0 (fr0 := ([some (toD (e_Net net_1)), some (toD ((eT eI) lot_2)), none, none] : Fr)) rfl ?_
  unfold g_are_friends
  exact (by exact (s_ret (x_op1 (x_comp2 (E := eI) (E2 := eB) (vi_T (v_var (i := 1) (by exact rfl))) (fun _ => rfl) (fun place_3 => (by exact (t2_yes (E1 := eI) (E2 := eB) (sub_dec rfl) (tgw rfl (tgIn_N rfl)) (vi_T (v_var (i := 1) (by exact rfl))) (fun _ => rfl) (fun other_4 s_5 => (by exact (t_v (vb_E (v_op2 ((v_var (i := 3) (by exact rfl))).l ((v_var (i := 2) (by exact rfl))).l (f_ne eqb_I))) (Rf.opt fun r_7 h_6 =>
  (by exact (x_v (v := eB ((memT other_4 r_7))) (by exact (v_op2 ((v_var (i := 3) (by exact rfl))).l ((v_op2 ((v_attr (c := 0) (ns := [0, 1, 2]) (fs := [eI net_1.1, (eT (eP2 eI eI)) net_1.2.1, (eT (eT eI)) net_1.2.2]) (z := (eT (eT eI)) net_1.2.2) ((v_var (i := 0) (by exact rfl))).l rfl rfl)).l ((v_var (i := 2) (by exact rfl))).l (f_ixT (e := (eT eI)) h_6))).l (f_inT dat_I (by decide)))) (by exact (k_turn (E2 := eB) (y := (memT other_4 r_7)) ⟨rfl, rfl⟩))))) ⟨_, _, rfl, rfl, rfl⟩)))))) (fun l_8 => (by exact (k_op1 f_all (k_Ret (kd_ret rfl)))))))))
theorem rf_least_place (bits_1 : Int) (size_2 : Int) : Rf (fn_least_place (toDs [eI bits_1, eI size_2])) (T_least_place bits_1 size_2) (KF eI 2 os0) (KX 2 os0) := by
  unfold fn_least_place T_least_place
  refine fn_rf0 (fr0 := ([some (toD (eI bits_1)), some (toD (eI size_2))] : Fr)) rfl ?_
  unfold g_least_place
  exact (by exact (s_ret (Rf.no fun r_4 h_3 =>
  (by exact (Rf.opt fun r_6 h_5 =>
  (by exact (x_v (v := eI r_6) (by exact (v_op2 ((v_call (a := r_4) (E := (eT eI)) (rf_lot_of bits_1 size_2) h_3 rfl rfl (va_cons (v_var (i := 0) (by exact rfl)) (va_cons (v_var (i := 1) (by exact rfl)) va_nil)))).l (v_cI).l (f_ixT (e := eI) h_5))) (by exact (k_Ret (kd_ret rfl))))))))))
theorem rf_friend_lots (net_1 : O_Net) : Rf (fn_friend_lots (toDs [e_Net net_1])) (T_friend_lots net_1) (KF (eT (eT eI)) 1 os0) (KX 1 os0) := by
  unfold fn_friend_lots T_friend_lots
  refine fn_rf0 (fr0 := ([some (toD (e_Net net_1)), none, none, none, none, none, none, none] : Fr)) rfl ?_
  unfold g_friend_lots
  exact (by exact (s_x (x_call (x_cons (by exact (x_v (v := e_Net net_1) (by exact (v_var (i := 0) (by exact rfl))) (by exact (k_A (by exact (x_nil (k_call (vs := [e_Net net_1]) (rf_check_size net_1) rfl rfl (fun _ _ _ _ => kde0) (fun r_2 => (k_X (by exact (s_setF (x_v (v := (eL (eP2 eI (eT eI))) ([])) (by exact (v_lst va_nil rfl)) (by exact (k_SetF (d := toD ((eL (eP2 eI (eT eI))) ([] : List (Int × (List Int))))) (fr' := ([some (toD (e_Net net_1)), some (toD ((eL (eP2 eI (eT eI))) (([] : List (Int × (List Int)))))), none, none, none, none, none, none] : Fr)) rfl (by exact (s_forH (Rf.ck fun h_4 =>
  (by exact (Rf.ck fun h_5 =>
  (by exact (x_vi (by exact (vi_rg2 (v_cI).l ((v_op2 (v_cI).l ((v_attr (c := 0) (ns := [0, 1, 2]) (fs := [eI net_1.1, (eT (eP2 eI eI)) net_1.2.1, (eT (eT eI)) net_1.2.2]) (z := eI net_1.1) ((v_var (i := 0) (by exact rfl))).l rfl rfl)).l (f_shl h_4))).l (by decide) h_5)) (by exact (k_for (js := [false, false, true, true, false, false, false, false]) (F := (fun (s_7 : (List (Int × (List Int)))) => ([some (toD (e_Net net_1)), some (toD ((eL (eP2 eI (eT eI))) s_7)), none, none, none, none, none, none] : Fr))) (s0 := ([] : List (Int × (List Int)))) rfl (fun _ _ => rfl) (fun bits_6 s_8 => (by exact (s_set (Rf.no fun r_11 h_10 =>
  (by exact (x_v (v := (eT eI) r_11) (by exact (v_call (a := r_11) (E := (eT eI)) (rf_lot_of bits_6 net_1.1) h_10 rfl rfl (va_cons (v_var (i := 2) (by exact rfl)) (va_cons (v_attr (c := 0) (ns := [0, 1, 2]) (fs := [eI net_1.1, (eT (eP2 eI eI)) net_1.2.1, (eT (eT eI)) net_1.2.2]) (z := eI net_1.1) ((v_var (i := 0) (by exact rfl))).l rfl rfl) va_nil)))) (by exact (k_Set (v := (eT eI) r_11) (fr' := ([some (toD (e_Net net_1)), some (toD ((eL (eP2 eI (eT eI))) s_8)), some (toD (eI bits_6)), some (toD ((eT eI) r_11)), none, none, none, none] : Fr)) rfl (by exact (s_ifX (Rf.no fun r_13 h_12 =>
  (by exact (x_vb (vb_E (v_call (a := r_13) (E := eB) (rf_are_friends net_1 r_11) h_12 rfl rfl (va_cons (v_var (i := 0) (by exact rfl)) (va_cons (v_var (i := 3) (by exact rfl)) va_nil)))) (by exact (k_If (by exact (s_seqE (s_x (x_mut (i := 1) rfl rfl (x_cons (by exact (x_v (v := (eP2 eI (eT eI)) ((bits_6, r_11))) (by exact (v_tup (va_cons (v_var (i := 2) (by exact rfl)) (va_cons (v_var (i := 3) (by exact rfl)) va_nil)) rfl)) (by exact (k_A (by exact (x_nil (Rf.ck fun h_14 =>
  (by exact (k_mut (i := 1) (vs := [(eP2 eI (eT eI)) ((bits_6, r_11))]) (fr' := ([some (toD (e_Net net_1)), some (toD ((eL (eP2 eI (eT eI))) ((s_8 ++ [(bits_6, r_11)])))), some (toD (eI bits_6)), some (toD ((eT eI) r_11)), none, none, none, none] : Fr)) rfl rfl (m_app (E := (eP2 eI (eT eI))) (a := (bits_6, r_11)) h_14) rfl (by exact (k_X (by exact (s_nx (by exact (s_end ⟨.inl rfl, rfl⟩)))))))))))))))))))) (by exact (s_nx (by exact (s_end ⟨.inl rfl, rfl⟩))))))))))))))))))) (fun s_9 => (by exact (s_setF (x_v (v := (eL (eT (eT eI))) ([[]])) (by exact (v_eq (w := eL (eT (eT eI)) [[]]) rfl (v_lst (va_cons (v_eq (w := eT (eT eI) []) rfl (v_tup va_nil rfl)) va_nil) rfl))) (by exact (k_SetFN (E := (eL (eT (eT eI)))) (fr' := fun best_15 => ([some (toD (e_Net net_1)), some (toD ((eL (eP2 eI (eT eI))) s_9)), none, none, some (toD ((eL (eT (eT eI))) best_15)), none, none, none] : Fr)) (fun _ => rfl) (fun best_15 => (by exact (s_fz1 (i := 1) (fr' := ([some (toD (e_Net net_1)), some (.tup [toD ((eL (eP2 eI (eT eI))) s_9)]), none, none, some (toD ((eL (eT (eT eI))) best_15)), none, none, none] : Fr)) rfl (s_forH (Rf.ck fun h_16 =>
  (by exact (Rf.ck fun h_17 =>
  (by exact (x_vi (by exact (vi_rg2 (v_cI).l ((v_op2 (v_cI).l ((v_attr (c := 0) (ns := [0, 1, 2]) (fs := [eI net_1.1, (eT (eP2 eI eI)) net_1.2.1, (eT (eT eI)) net_1.2.2]) (z := eI net_1.1) ((v_var (i := 0) (by exact rfl))).l rfl rfl)).l (f_shl h_16))).l (by decide) h_17)) (by exact (k_for (js := [false, false, true, true, false, true, true, true]) (F := (fun (s_19 : (List (List (List Int)))) => ([some (toD (e_Net net_1)), some (.tup [toD ((eL (eP2 eI (eT eI))) s_9)]), none, none, some (toD ((eL (eT (eT eI))) s_19)), none, none, none] : Fr))) (s0 := best_15) rfl (fun _ _ => rfl) (fun bits_18 s_20 => (by exact (s_set (Rf.no fun r_23 h_22 =>
  (by exact (x_v (v := eI r_23) (by exact (v_call (a := r_23) (E := eI) (rf_least_place bits_18 net_1.1) h_22 rfl rfl (va_cons (v_var (i := 2) (by exact rfl)) (va_cons (v_attr (c := 0) (ns := [0, 1, 2]) (fs := [eI net_1.1, (eT (eP2 eI eI)) net_1.2.1, (eT (eT eI)) net_1.2.2]) (z := eI net_1.1) ((v_var (i := 0) (by exact rfl))).l rfl rfl) va_nil)))) (by exact (k_Set (v := eI r_23) (fr' := ([some (toD (e_Net net_1)), some (.tup [toD ((eL (eP2 eI (eT eI))) s_9)]), some (toD (eI bits_18)), none, some (toD ((eL (eT (eT eI))) s_20)), some (toD (eI r_23)), none, none] : Fr)) rfl (by exact (s_set (x_v (v := .non) (by exact v_cN) (by exact (k_Set (v := (eO (eT (eT eI))) none) (fr' := ([some (toD (e_Net net_1)), some (.tup [toD ((eL (eP2 eI (eT eI))) s_9)]), some (toD (eI bits_18)), none, some (toD ((eL (eT (eT eI))) s_20)), some (toD (eI r_23)), some (toD ((eO (eT (eT eI))) none)), none] : Fr)) rfl (by exact (s_forH (x_vi (by exact (vi_L (v_fzB (i := 1) (by exact rfl)))) (by exact (k_for (js := [false, false, false, true, false, false, false, true]) (F := (fun (s_25 : (Option (List (List Int)))) => ([some (toD (e_Net net_1)), some (.tup [toD ((eL (eP2 eI (eT eI))) s_9)]), some (toD (eI bits_18)), none, some (toD ((eL (eT (eT eI))) s_20)), some (toD (eI r_23)), some (toD ((eO (eT (eT eI))) s_25)), none] : Fr))) (s0 := none) rfl (fun _ _ => rfl) (fun p_24 s_26 => (by exact (s_ifX (Rf.opt fun r_29 h_28 =>
  (by exact (x_vb (vb_and (vb_E (v_op2 ((v_op2 ((v_var (i := 3) (by exact rfl))).l (v_cI).l (f_ixT (e := eI) h_28))).l ((v_var (i := 5) (by exact rfl))).l (f_eq eqb_I))) (vb_E (v_op2 ((v_op2 ((v_var (i := 7) (by exact rfl))).l ((v_var (i := 2) (by exact rfl))).l f_andI)).l ((v_var (i := 7) (by exact rfl))).l (f_eq eqb_I)))) (by exact (k_If (by exact (s_seqE (s_ifX (x_join (F := (fun (s_43 : Unit) => ([some (toD (e_Net net_1)), some (.tup [toD ((eL (eP2 eI (eT eI))) s_9)]), some (toD (eI bits_18)), some (toD ((eT eI) p_24.2)), some (toD ((eL (eT (eT eI))) s_20)), some (toD (eI r_23)), some (toD ((eO (eT (eT eI))) s_26)), some (toD (eI p_24.1))] : Fr))) (x_or (vb_E (v_op2 ((v_var (i := 6) (by exact rfl))).l (v_cN).l (f_isNO fun _ => rfl))) rfl (fun _ => (x_tail (Rf.opt fun r_35 h_34 =>
  (by exact (Rf.opt fun r_37 h_36 =>
  (by exact (x_vb (vb_E (v_op2 ((v_op2 ((v_op1 ((v_op2 (l_pl (i := 4) (by exact rfl) (by exact rfl)) ((v_op2 ((v_var (i := 2) (by exact rfl))).l ((v_var (i := 7) (by exact rfl))).l f_xorI)).l (f_ixL (e := (eT (eT eI))) h_34))).l f_lenT)).l (v_cI).l f_add)).l ((v_op1 ((v_some h_36 (v_var (i := 6) (by exact rfl)))).l f_lenT)).l f_ltA)) (by exact (kb_ok rfl)))))))))) (fun p_38 => (k_If (by exact (s_seqE (s_set (Rf.opt fun r_40 h_39 =>
  (by exact (Rf.ck fun h_41 =>
  (by exact (x_v (v := (eT (eT eI)) (([p_24.2] ++ r_40))) (by exact (v_op2 ((v_eq (w := eT (eT eI) [p_24.2]) rfl (v_tup (va_cons (v_var (i := 3) (by exact rfl)) va_nil) rfl))).l ((v_op2 (l_pl (i := 4) (by exact rfl) (by exact rfl)) ((v_op2 ((v_var (i := 2) (by exact rfl))).l ((v_var (i := 7) (by exact rfl))).l f_xorI)).l (f_ixL (e := (eT (eT eI))) h_39))).l (f_addT h_41))) (by exact (k_cv (show (eT (eT eI)) (([p_24.2] ++ r_40)) = (eO (eT (eT eI))) (some (([p_24.2] ++ r_40))) from rfl) (k_SetN (E := (eO (eT (eT eI)))) (fr' := fun found_42 => ([some (toD (e_Net net_1)), some (.tup [toD ((eL (eP2 eI (eT eI))) s_9)]), some (toD (eI bits_18)), some (toD ((eT eI) p_24.2)), some (toD ((eL (eT (eT eI))) s_20)), some (toD (eI r_23)), some (toD ((eO (eT (eT eI))) found_42)), some (toD (eI p_24.1))] : Fr)) (fun _ => rfl) (fun found_42 => (by exact (s_nx (by exact (s_nx (by exact (s_end ⟨.inl rfl, rfl⟩)))))))))))))))))) (by exact (s_nx (by exact (s_nx (by exact (s_end ⟨.inl rfl, rfl⟩)))))))))))) (by exact (s_nx (by exact (s_end ⟨.inl rfl, rfl⟩)))))))))))) (fun s_27 => (by exact (s_x (x_mut (i := 4) rfl rfl (x_cons (by exact (x_v (v := (eO (eT (eT eI))) s_27) (by exact (v_var (i := 6) (by exact rfl))) (by exact (Rf.opt fun r_45 h_44 =>
  (by exact (k_cv (eO_some h_44) (k_A (by exact (x_nil (Rf.ck fun h_46 =>
  (by exact (k_mut (i := 4) (vs := [(eT (eT eI)) r_45]) (fr' := ([some (toD (e_Net net_1)), some (.tup [toD ((eL (eP2 eI (eT eI))) s_9)]), some (toD (eI bits_18)), none, some (toD ((eL (eT (eT eI))) ((s_20 ++ [r_45])))), some (toD (eI r_23)), some (toD ((eO (eT (eT eI))) s_27)), none] : Fr)) rfl rfl (m_app (E := (eT (eT eI))) (a := r_45) h_46) rfl (by exact (k_X (by exact (s_end ⟨.inl rfl, rfl⟩))))))))))))))))))))))))))))))))))))))) (fun s_21 => (by exact (s_ret (Rf.opt fun r_48 h_47 =>
  (by exact (x_v (v := (eT (eT eI)) r_48) (by exact (v_op2 (l_pl (i := 4) (by exact rfl) (by exact rfl)) ((v_op1 (v_cI).l f_neg)).l (f_ixL (e := (eT (eT eI))) h_47))) (by exact (k_Ret (kd_ret rfl)))))))))))))))))))))))))))))))))))))))))))))))))))))
theorem rf_law_kinds (c : Nat) (fs : List DV) : RfX (X_law_kinds c (toDs fs)) (T_law_kinds c fs) (eP2 eS eY) := by
  unfold X_law_kinds T_law_kinds
  refine fnx_rf (KE := KDE os0) (fr0 := ([some (.tup [.var 0]), none] : Fr)) rfl ?_
  unfold g_law_kinds
  exact (by exact (s_setF (x_v (v := (eL (eP2 eS eY)) ([])) (by exact (v_lst va_nil rfl)) (by exact (k_SetF (d := toD ((eL (eP2 eS eY)) ([] : List (Str × DV)))) (fr' := ([some (.tup [.var 0]), some (toD ((eL (eP2 eS eY)) (([] : List (Str × DV)))))] : Fr)) rfl (by exact (s_if (js := [false, false]) (F := (fun (s_1 : (List (Str × DV))) => ([some (.tup [.var 0]), some (toD ((eL (eP2 eS eY)) s_1))] : Fr))) (vb_E (v_isE (i := 0) rfl)) (by exact (s_x (x_mut (i := 1) rfl rfl (x_cons (by exact (Rf.opt fun r_4 h_3 =>
  (by exact (Rf.opt fun r_6 h_5 =>
  (by exact (x_v (v := (eP2 eS eY) (((PySem.Str.ofString "TooMany"), (eS r_6)))) (by exact (v_tup (va_cons v_cS (va_cons (v_op1 ((v_xf (i := 0) rfl h_3)).l (f_repr h_5)) va_nil)) rfl)) (by exact (k_A (by exact (x_nil (Rf.ck fun h_7 =>
  (by exact (k_mut (i := 1) (vs := [(eP2 eS eY) (((PySem.Str.ofString "TooMany"), (eS r_6)))]) (fr' := ([some (.tup [.var 0]), some (toD ((eL (eP2 eS eY)) ((([] : List (Str × DV)) ++ [((PySem.Str.ofString "TooMany"), (eS r_6))]))))] : Fr)) rfl rfl (m_app (E := (eP2 eS eY)) (a := ((PySem.Str.ofString "TooMany"), (eS r_6))) h_7) rfl (by exact (k_X (by exact (s_end ⟨rfl, rfl⟩))))))))))))))))))))) (by exact (s_end ⟨rfl, rfl⟩)) (fun s_2 => (by exact (s_if (js := [false, false]) (F := (fun (s_8 : (List (Str × DV))) => ([some (.tup [.var 0]), some (toD ((eL (eP2 eS eY)) s_8))] : Fr))) (vb_E (v_isE (i := 0) rfl)) (by exact (s_x (x_mut (i := 1) rfl rfl (x_cons (by exact (x_v (v := (eP2 eS eY) (((PySem.Str.ofString "other"), (eS ((PySem.Str.ofString "")))))) (by exact (v_tup (va_cons v_cS (va_cons v_cS va_nil)) rfl)) (by exact (k_A (by exact (x_nil (Rf.ck fun h_10 =>
  (by exact (k_mut (i := 1) (vs := [(eP2 eS eY) (((PySem.Str.ofString "other"), (eS ((PySem.Str.ofString "")))))]) (fr' := ([some (.tup [.var 0]), some (toD ((eL (eP2 eS eY)) ((s_2 ++ [((PySem.Str.ofString "other"), (eS ((PySem.Str.ofString ""))))]))))] : Fr)) rfl rfl (m_app (E := (eP2 eS eY)) (a := ((PySem.Str.ofString "other"), (eS ((PySem.Str.ofString ""))))) h_10) rfl (by exact (k_X (by exact (s_end ⟨rfl, rfl⟩))))))))))))))))) (by exact (s_end ⟨rfl, rfl⟩)) (fun s_9 => (by exact (s_if (js := [false, false]) (F := (fun (s_11 : (List (Str × DV))) => ([some (.tup [.var 0]), some (toD ((eL (eP2 eS eY)) s_11))] : Fr))) (vb_E (v_isE (i := 0) rfl)) (by exact (s_x (x_mut (i := 1) rfl rfl (x_cons (by exact (x_v (v := (eP2 eS eY) (((PySem.Str.ofString "other"), (eS ((PySem.Str.ofString "")))))) (by exact (v_tup (va_cons v_cS (va_cons v_cS va_nil)) rfl)) (by exact (k_A (by exact (x_nil (Rf.ck fun h_13 =>
  (by exact (k_mut (i := 1) (vs := [(eP2 eS eY) (((PySem.Str.ofString "other"), (eS ((PySem.Str.ofString "")))))]) (fr' := ([some (.tup [.var 0]), some (toD ((eL (eP2 eS eY)) ((s_9 ++ [((PySem.Str.ofString "other"), (eS ((PySem.Str.ofString ""))))]))))] : Fr)) rfl rfl (m_app (E := (eP2 eS eY)) (a := ((PySem.Str.ofString "other"), (eS ((PySem.Str.ofString ""))))) h_13) rfl (by exact (k_X (by exact (s_end ⟨rfl, rfl⟩))))))))))))))))) (by exact (s_end ⟨rfl, rfl⟩)) (fun s_12 => (by exact (s_if (js := [false, false]) (F := (fun (s_14 : (List (Str × DV))) => ([some (.tup [.var 0]), some (toD ((eL (eP2 eS eY)) s_14))] : Fr))) (vb_E (v_isE (i := 0) rfl)) (by exact (s_x (x_mut (i := 1) rfl rfl (x_cons (by exact (x_v (v := (eP2 eS eY) (((PySem.Str.ofString "other"), (eS ((PySem.Str.ofString "")))))) (by exact (v_tup (va_cons v_cS (va_cons v_cS va_nil)) rfl)) (by exact (k_A (by exact (x_nil (Rf.ck fun h_16 =>
  (by exact (k_mut (i := 1) (vs := [(eP2 eS eY) (((PySem.Str.ofString "other"), (eS ((PySem.Str.ofString "")))))]) (fr' := ([some (.tup [.var 0]), some (toD ((eL (eP2 eS eY)) ((s_12 ++ [((PySem.Str.ofString "other"), (eS ((PySem.Str.ofString ""))))]))))] : Fr)) rfl rfl (m_app (E := (eP2 eS eY)) (a := ((PySem.Str.ofString "other"), (eS ((PySem.Str.ofString ""))))) h_16) rfl (by exact (k_X (by exact (s_end ⟨rfl, rfl⟩))))))))))))))))) (by exact (s_end ⟨rfl, rfl⟩)) (fun s_15 => (by exact (s_ifX (x_vb (vb_and (vb_E (v_op2 ((v_op1 (l_pl (i := 1) (by exact rfl) (by exact rfl)) f_lenL)).l (v_cI).l (f_eq eqb_I))) (vb_E (v_isE (i := 0) rfl))) (by exact (k_If (by exact (s_seqE (s_ret (Rf.opt fun r_18 h_17 =>
  (by exact (x_v (v := (eP2 eS eY) r_18) (by exact (v_op2 (l_pl (i := 1) (by exact rfl) (by exact rfl)) (v_cI).l (f_ixL (e := (eP2 eS eY)) h_17))) (by exact (k_Ret (kd_ret rfl))))))))) (by exact (s_nx (by exact (s_ret (x_v (v := (eP2 eS eY) (((PySem.Str.ofString "other"), (eS ((PySem.Str.ofString "")))))) (by exact (v_tup (va_cons v_cS (va_cons v_cS va_nil)) rfl)) (by exact (k_Ret (kd_ret rfl))))))))))))))))))))))))))))))
theorem rf_law_told (net_here_1 : O_Net) : Rf (fn_law_told (toDs [e_Net net_here_1])) (T_law_told net_here_1) (KF (eP2 eS eY) 1 os0) (KX 1 os0) := by
  unfold fn_law_told T_law_told
  refine fn_rf0 (fr0 := ([some (toD (e_Net net_here_1)), none] : Fr)) rfl ?_
  unfold g_law_told
  exact (by exact (s_tryL (s_tryR (by exact (s_ret (x_tup (x_cons (by exact (x_v (v := eS ((PySem.Str.ofString ""))) (by exact v_cS) (by exact (k_A (by exact (x_cons (by exact (x_call (x_cons (by exact (x_v (v := e_Net net_here_1) (by exact (v_var (i := 0) (by exact rfl))) (by exact (k_A (by exact (x_nil (k_call (vs := [e_Net net_here_1]) (rf_friend_lots net_here_1) rfl rfl (fun _ _ _ _ => rfl) (fun r_2 => (k_A (by exact (x_nil (k_tup (vs := [eS ((PySem.Str.ofString "")), ((eT (eT eI)) r_2)]) rfl (k_cv (show DV.tup [eS ((PySem.Str.ofString "")), ((eT (eT eI)) r_2)] = (eP2 eS eY) ((PySem.Str.ofString ""), ((eT (eT eI)) r_2)) from rfl) (k_Ret (kd_ret rfl)))))))))))))))))))))))))))) (fun c fs st hx => (hd_ck (fun hc => (hd_cons (fun ht => (su_in (KE1 := KDE os0) (fr1 := ([some (toD (e_Net net_here_1)), some (.tup [.var 1])] : Fr)) rfl (by exact (s_ret (Rf.no fun r_5 h_4 =>
  (by exact (x_v (v := (eP2 eS eY) r_5) (by exact (v_callX (a := r_5) (E := (eP2 eS eY)) (rf_law_kinds c fs) h_4 rfl)) (by exact (k_Ret (kd_ret rfl)))))))) (fun _ _ _ k => kd_out k))) (hd_nil kde0))))))))
theorem rf_law_fewest (fits_1 : List Bool) : Rf (fn_law_fewest (toDs [(eL eB) fits_1])) (T_law_fewest fits_1) (KF eI 1 os0) (KX 1 os0) := by
  unfold fn_law_fewest T_law_fewest
  refine fn_rf0 (fr0 := ([some (toD ((eL eB) fits_1)), none, none, none, none, none] : Fr)) rfl ?_
  unfold g_law_fewest
  exact (by exact (s_setF (x_v (v := (eL eI) ([0])) (by exact (v_eq (w := eL eI [0]) rfl (v_lst (va_cons v_cI va_nil) rfl))) (by exact (k_SetFN (E := (eL eI)) (fr' := fun fewest_here_2 => ([some (toD ((eL eB) fits_1)), some (toD ((eL eI) fewest_here_2)), none, none, none, none] : Fr)) (fun _ => rfl) (fun fewest_here_2 => (by exact (s_forH (Rf.ck fun h_3 =>
  (by exact (x_vi (by exact (vi_rg2 (v_cI).l ((v_op1 ((v_var (i := 0) (by exact rfl))).l f_lenL)).l (by decide) h_3)) (by exact (k_for (js := [false, false, true, true, true, true]) (F := (fun (s_5 : (List Int)) => ([some (toD ((eL eB) fits_1)), some (toD ((eL eI) s_5)), none, none, none, none] : Fr))) (s0 := fewest_here_2) rfl (fun _ _ => rfl) (fun at_4 s_6 => (by exact (s_set (x_v (v := eI 99) (by exact v_cI) (by exact (k_Set (v := eI 99) (fr' := ([some (toD ((eL eB) fits_1)), some (toD ((eL eI) s_6)), some (toD (eI at_4)), some (toD (eI 99)), none, none] : Fr)) rfl (by exact (s_set (x_v (v := eI at_4) (by exact (v_var (i := 2) (by exact rfl))) (by exact (k_Set (v := eI at_4) (fr' := ([some (toD ((eL eB) fits_1)), some (toD ((eL eI) s_6)), some (toD (eI at_4)), some (toD (eI 99)), some (toD (eI at_4)), none] : Fr)) rfl (by exact (s_forH (Rf.ck fun h_8 =>
  (by exact (x_vi (by exact (vi_rg1 ((v_op1 ((v_var (i := 0) (by exact rfl))).l f_lenL)).l h_8)) (by exact (k_loop (KR := (KD eI os0)) (js := [false, false, false, false, false, true]) (F := (fun (s_10 : Int × Int) => ([some (toD ((eL eB) fits_1)), some (toD ((eL eI) s_6)), some (toD (eI at_4)), some (toD (eI s_10.1)), some (toD (eI s_10.2)), none] : Fr))) (s0 := (99, at_4)) rfl (fun _ _ => rfl) (fun k_9 s_11 => (by exact (s_ifX (x_vb (vb_E (v_op2 ((v_var (i := 4) (by exact rfl))).l (v_cI).l (f_eq eqb_I))) (by exact (k_If (by exact (s_seqE (s_brk ⟨rfl, rfl⟩))) (by exact (s_nx (by exact (s_ifXJ (js := [false, false, false, false, false, false]) (G := (fun (s_24 : Unit) => ([some (toD ((eL eB) fits_1)), some (toD ((eL eI) s_6)), some (toD (eI at_4)), some (toD (eI s_11.1)), some (toD (eI s_11.2)), some (toD (eI k_9))] : Fr))) (F := (fun (s_13 : Int) => ([some (toD ((eL eB) fits_1)), some (toD ((eL eI) s_6)), some (toD (eI at_4)), some (toD (eI s_13)), some (toD (eI s_11.2)), some (toD (eI k_9))] : Fr))) (ta := fun x_23 => (O.opt (L2.atI s_6 (at_4 - s_11.2))).bind fun r_29 =>
  O.lt ((r_29 + 1)) fun best_30 =>
  .ok best_30) (tb := fun x_23 => .ok s_11.1) (Rf.opt fun r_20 h_19 =>
  (by exact (x_and (vb_tru ((v_op2 ((v_var (i := 0) (by exact rfl))).l ((v_var (i := 4) (by exact rfl))).l (f_ixL (e := eB) h_19))).l tru_B) rfl (fun _ => (x_tail (Rf.opt fun r_22 h_21 =>
  (by exact (x_vb (vb_E (v_op2 ((v_op2 ((v_op2 (l_pl (i := 1) (by exact rfl) (by exact rfl)) ((v_op2 ((v_var (i := 2) (by exact rfl))).l ((v_var (i := 4) (by exact rfl))).l f_sub)).l (f_ixL (e := eI) h_21))).l (v_cI).l f_add)).l ((v_var (i := 3) (by exact rfl))).l f_ltA)) (by exact (kb_ok rfl)))))))))) (fun x_23 => (by exact (s_set (Rf.opt fun r_29 h_28 =>
  (by exact (x_v (v := eI ((r_29 + 1))) (by exact (v_op2 ((v_op2 (l_pl (i := 1) (by exact rfl) (by exact rfl)) ((v_op2 ((v_var (i := 2) (by exact rfl))).l ((v_var (i := 4) (by exact rfl))).l f_sub)).l (f_ixL (e := eI) h_28))).l (v_cI).l f_add)) (by exact (k_SetN (E := eI) (fr' := fun best_30 => ([some (toD ((eL eB) fits_1)), some (toD ((eL eI) s_6)), some (toD (eI at_4)), some (toD (eI best_30)), some (toD (eI s_11.2)), some (toD (eI k_9))] : Fr)) (fun _ => rfl) (fun best_30 => (by exact (s_end ⟨rfl, rfl⟩))))))))))) (fun x_23 => (by exact (s_end ⟨rfl, rfl⟩))) (fun s_14 => (by exact (s_set (x_v (v := eI ((Builtin.bitAnd ((s_11.2 - 1)) at_4))) (by exact (v_op2 ((v_op2 ((v_var (i := 4) (by exact rfl))).l (v_cI).l f_sub)).l ((v_var (i := 2) (by exact rfl))).l f_andI)) (by exact (k_SetN (E := eI) (fr' := fun part_31 => ([some (toD ((eL eB) fits_1)), some (toD ((eL eI) s_6)), some (toD (eI at_4)), some (toD (eI s_14)), some (toD (eI part_31)), some (toD (eI k_9))] : Fr)) (fun _ => rfl) (fun part_31 => (by exact (s_end ⟨.inl rfl, rfl⟩))))))))))))))))))) (fun s_12 => (by exact (s_x (x_mut (i := 1) rfl rfl (x_cons (by exact (x_v (v := eI s_12.1) (by exact (v_var (i := 3) (by exact rfl))) (by exact (k_A (by exact (x_nil (Rf.ck fun h_32 =>
  (by exact (k_mut (i := 1) (vs := [eI s_12.1]) (fr' := ([some (toD ((eL eB) fits_1)), some (toD ((eL eI) ((s_6 ++ [s_12.1])))), some (toD (eI at_4)), some (toD (eI s_12.1)), some (toD (eI s_12.2)), none] : Fr)) rfl rfl (m_app (E := eI) (a := s_12.1) h_32) rfl (by exact (k_X (by exact (s_end ⟨.inl rfl, rfl⟩)))))))))))))))))) (fun x d fr h => ⟨trivial⟩))))))))))))))))))) (fun s_7 => (by exact (s_ret (Rf.opt fun r_34 h_33 =>
  (by exact (x_v (v := eI r_34) (by exact (v_op2 (l_pl (i := 1) (by exact rfl) (by exact rfl)) ((v_op1 (v_cI).l f_neg)).l (f_ixL (e := eI) h_33))) (by exact (k_Ret (kd_ret rfl))))))))))))))))))))))
theorem rf_is_below (value_1 : DV) (many_2 : Int) : Rf (fn_is_below (toDs [eY value_1, eI many_2])) (T_is_below value_1 many_2) (KF eB 2 os0) (KX 2 os0) := by
  unfold fn_is_below T_is_below
  refine fn_rf0 (fr0 := ([some (toD (eY value_1)), some (toD (eI many_2))] : Fr)) rfl ?_
  unfold g_is_below
  exact (by exact (s_ret (x_joinV (E := eB) (F := fun _ => [some (toD (eY value_1)), some (toD (eI many_2))]) (Rf.opt fun r_9 h_8 =>
  (by exact (x_andV (v_op1 ((v_var (i := 0) (by exact rfl))).l (f_isi h_8)) (fun _ => (Rf.opt fun r_11 h_10 =>
  (by exact (x_andV (v_not (v_op1 ((v_var (i := 0) (by exact rfl))).l (f_isi h_10))) (fun _ => (x_tail (Rf.opt fun r_13 h_12 =>
  (by exact (x_v (v := eB (((decide (0 ≤ r_13)) && (decide (r_13 < many_2))))) (by exact (v_chain (v_cI).l ((v_dec asI_of h_12 (v_var (i := 0) (by exact rfl)))).l ((v_var (i := 1) (by exact rfl))).l f_le f_ltA)) (by exact (kv_ok rfl rfl)))))))))))))) (fun b_7 => (k_Ret (kd_ret rfl))))))
theorem rf_first_wrong_arc (size_1 : Int) (arcs_2 : DV) : Rf (fn_first_wrong_arc (toDs [eI size_1, eY arcs_2])) (T_first_wrong_arc size_1 arcs_2) (KF (eO eI) 2 os0) (KX 2 os0) := by
  unfold fn_first_wrong_arc T_first_wrong_arc
  refine fn_rf0 (fr0 := ([some (toD (eI size_1)), some (toD (eY arcs_2)), none, none, none, none] : Fr)) rfl ?_
  unfold g_first_wrong_arc
  exact (by exact (s_ifX (Rf.opt fun r_4 h_3 =>
  (by exact (x_vb (vb_not (vb_E (v_op1 ((v_var (i := 1) (by exact rfl))).l (f_isiT h_3)))) (by exact (k_If (by exact (s_seqE (s_ret (x_v (v := eI 0) (by exact v_cI) (by exact (k_cv (show eI 0 = (eO eI) (some 0) from rfl) (k_Ret (kd_ret rfl)))))))) (by exact (s_nx (by exact (s_set (x_v (v := (eP2 eI eI) (((-1), (-1)))) (by exact (v_tup (va_cons (v_op1 (v_cI).l f_neg) (va_cons (v_op1 (v_cI).l f_neg) va_nil)) rfl)) (by exact (k_SetN (E := eY) (fr' := fun ahead_5 => ([some (toD (eI size_1)), some (toD (eY arcs_2)), some (toD (eY ahead_5)), none, none, none] : Fr)) (fun _ => rfl) (fun ahead_5 => (by exact (s_forH (Rf.opt fun r_7 h_6 =>
  (by exact (x_vi (by exact (vi_enY h_6 (v_var (i := 1) (by exact rfl)))) (by exact (k_loop (KR := (KD (eO eI) os0)) (js := [false, false, false, true, true, false]) (F := (fun (s_9 : DV) => ([some (toD (eI size_1)), some (toD (eY arcs_2)), some (toD (eY s_9)), none, none, none] : Fr))) (s0 := ahead_5) rfl (fun _ _ => rfl) (fun p_8 s_10 => (by exact (s_ifX (x_join (F := (fun (s_68 : Unit) => ([some (toD (eI size_1)), some (toD (eY arcs_2)), some (toD (eY s_10)), some (toD (eI p_8.1)), some (toD (eY p_8.2)), none] : Fr))) (Rf.opt fun r_17 h_16 =>
  (by exact (x_or (vb_not (vb_E (v_op1 ((v_var (i := 4) (by exact rfl))).l (f_isi h_16)))) rfl (fun _ => (Rf.opt fun r_19 h_18 =>
  (by exact (x_or (vb_E (v_op2 ((v_op1 ((v_var (i := 4) (by exact rfl))).l (f_lenY h_18))).l (v_cI).l (f_ne eqb_I))) rfl (fun _ => (x_tail (x_not (x_bE (x_op1 (x_compH (Rf.opt fun r_41 h_40 =>
  (by exact (x_vi (by exact (vi_Y h_40 (v_var (i := 4) (by exact rfl)))) (by exact (Rf.ck fun h_42 =>
  (by exact (k_comp (E2 := eB) (G := (fun (s_48 : Unit) => ([some (toD (eI size_1)), some (toD (eY arcs_2)), some (toD (eY s_10)), some (toD (eI p_8.1)), some (toD (eY p_8.2)), none] : Fr))) (s0 := ()) h_42 rfl (fun _ _ => rfl) (fun place_43 s_44 => (by exact (t_yes (Rf.no fun r_46 h_45 =>
  (by exact (x_v (v := eB r_46) (by exact (v_call (a := r_46) (E := eB) (rf_is_below place_43 size_1) h_45 rfl rfl (va_cons (v_var (i := 5) (by exact rfl)) (va_cons (v_var (i := 0) (by exact rfl)) va_nil)))) (by exact (k_turn (E2 := eB) (y := r_46) ⟨rfl, rfl⟩)))))))) (fun _ => rfl) (fun l_47 => (by exact (k_op1 f_all (k_E (kb_ok rfl))))))))))))))))))))))))) (fun p_49 => (k_If (by exact (s_seqE (s_ret (x_v (v := eI p_8.1) (by exact (v_var (i := 3) (by exact rfl))) (by exact (k_cv (show eI p_8.1 = (eO eI) (some p_8.1) from rfl) (k_Ret ⟨⟨_, rfl⟩, kd_ret rfl⟩))))))) (by exact (s_nx (by exact (s_ifX (x_join (F := (fun (s_67 : Unit) => ([some (toD (eI size_1)), some (toD (eY arcs_2)), some (toD (eY s_10)), some (toD (eI p_8.1)), some (toD (eY p_8.2)), none] : Fr))) (Rf.opt fun r_59 h_58 =>
  (by exact (Rf.opt fun r_61 h_60 =>
  (by exact (Rf.opt fun r_63 h_62 =>
  (by exact (x_or (vb_E (v_op2 ((v_op2 ((v_var (i := 4) (by exact rfl))).l (v_cI).l (f_ixY h_58))).l ((v_op2 ((v_var (i := 4) (by exact rfl))).l (v_cI).l (f_ixY h_60))).l (f_eqY h_62))) rfl (fun _ => (x_tail (Rf.opt fun r_65 h_64 =>
  (by exact (x_vb (vb_E (v_op2 ((v_var (i := 4) (by exact rfl))).l ((v_var (i := 2) (by exact rfl))).l (f_leY h_64))) (by exact (kb_ok rfl)))))))))))))) (fun p_66 => (k_If (by exact (s_seqE (s_ret (x_v (v := eI p_8.1) (by exact (v_var (i := 3) (by exact rfl))) (by exact (k_cv (show eI p_8.1 = (eO eI) (some p_8.1) from rfl) (k_Ret ⟨⟨_, rfl⟩, kd_ret rfl⟩))))))) (by exact (s_nx (by exact (s_set (x_v (v := p_8.2) (by exact (v_var (i := 4) (by exact rfl))) (by exact (k_Set (v := eY p_8.2) (fr' := ([some (toD (eI size_1)), some (toD (eY arcs_2)), some (toD (eY p_8.2)), some (toD (eI p_8.1)), some (toD (eY p_8.2)), none] : Fr)) rfl (by exact (s_end ⟨.inl rfl, rfl⟩)))))))))))))))))))))) (fun s_11 => (by exact (s_ret (x_v (v := .non) (by exact v_cN) (by exact (k_Ret (kd_ret rfl))))))) (fun x d fr h => ⟨_, _, rfl, h⟩)))))))))))))))))))))))
theorem rf_Net_init (size_1 : Int) (arcs_2 : DV) : Rf (fn_Net_init (toDs [.obj 0 [] [], eI size_1, eY arcs_2])) (T_Net_init size_1 arcs_2) (KF (fun a => eU a.1) 3 (os1 0 fun a => e_Net a.2)) (KX 3 os0) := by
  unfold fn_Net_init T_Net_init
  refine fn_rf1e (by decide) (fr0 := ([some (toD (.obj 0 [] [])), some (toD (eI size_1)), some (toD (eY arcs_2)), none, none, none, none] : Fr)) rfl ?_
  unfold g_Net_init
  exact (by exact (s_ifX (Rf.no fun r_4 h_3 =>
  (by exact (x_vb (vb_or (vb_not (vb_E (v_call (a := r_4) (E := eB) (rf_is_below ((eI size_1)) ((12 + 1))) h_3 rfl rfl (va_cons (v_var (i := 1) (by exact rfl)) (va_cons (v_op2 (v_cI).l (v_cI).l f_add) va_nil))))) (vb_E (v_op2 ((v_var (i := 1) (by exact rfl))).l (v_cI).l f_ltA))) (by exact (k_If (by exact (s_seqE (s_raise (va_cons v_cS (va_cons v_cI va_nil)) rfl (kde0 (st := []))))) (by exact (s_nx (by exact (s_set (Rf.no fun r_6 h_5 =>
  (by exact (x_v (v := (eO eI) r_6) (by exact (v_call (a := r_6) (E := (eO eI)) (rf_first_wrong_arc size_1 arcs_2) h_5 rfl rfl (va_cons (v_var (i := 1) (by exact rfl)) (va_cons (v_var (i := 2) (by exact rfl)) va_nil)))) (by exact (k_Set (v := (eO eI) r_6) (fr' := ([some (toD (.obj 0 [] [])), some (toD (eI size_1)), some (toD (eY arcs_2)), some (toD ((eO eI) r_6)), none, none, none] : Fr)) rfl (by exact (s_ifX (x_vb (vb_E (v_op2 ((v_var (i := 3) (by exact rfl))).l (v_cN).l (f_isNnO fun _ => rfl))) (by exact (k_If (by exact (s_seqE (s_raise (va_cons v_cS (va_cons (v_var (i := 3) (by exact rfl)) va_nil)) rfl (kde0 (st := []))))) (by exact (s_nx (by exact (s_fldX (x_v (v := eI size_1) (by exact (v_var (i := 1) (by exact rfl))) (by exact (k_fldN (E := eI) (i := 0) (n := 0) (cs := [0]) (c := 0) (ns := []) (fs := []) (ns' := [0]) (fs' := fun size_7 => [eI size_7]) (fr' := fun size_7 => ([some (toD (.obj 0 [0] [eI size_7])), some (toD (eI size_1)), some (toD (eY arcs_2)), some (toD ((eO eI) r_6)), none, none, none] : Fr)) rfl rfl rfl (fun _ => rfl) (fun _ => rfl) (fun size_7 => (by exact (s_fldX (Rf.opt fun r_9 h_8 =>
  (by exact (x_v (v := r_9) (by exact (v_op1 ((v_var (i := 2) (by exact rfl))).l (f_tupY h_8))) (by exact (Rf.opt fun r_11 h_10 =>
  (by exact (k_cv ((asT_of (asP2_of asI_of asI_of)) _ _ h_10) (k_fldN (E := (eT (eP2 eI eI))) (i := 0) (n := 1) (cs := [0]) (c := 0) (ns := [0]) (fs := [eI size_7]) (ns' := [0, 1]) (fs' := fun arcs_12 => [eI size_7, (eT (eP2 eI eI)) arcs_12]) (fr' := fun arcs_12 => ([some (toD (.obj 0 [0, 1] [eI size_7, (eT (eP2 eI eI)) arcs_12])), some (toD (eI size_1)), some (toD (eY arcs_2)), some (toD ((eO eI) r_6)), none, none, none] : Fr)) rfl rfl rfl (fun _ => rfl) (fun _ => rfl) (fun arcs_12 => (by exact (s_fldX (Rf.ck fun h_13 =>
  (by exact (Rf.ck fun h_16 =>
  (by exact (Rf.ck fun h_17 =>
  (by exact (x_v (v := (eT (eT eI)) (((rngT 0 size_1).map fun place_14 => ((arcs_12.filter fun p_15 => (decide (p_15.1 = place_14))).map fun p_15 => p_15.2)))) (by exact (v_op1 ((v_comp0 (E := eI) (E2 := (eT eI)) (vi_rg1 ((v_var (i := 1) (by exact rfl))).l h_13) h_17 (fun _ => rfl) (tgIn_N rfl) (fun place_14 => (by exact (v_op1 ((v_comp (E := (eP2 eI eI)) (E2 := eI) (vi_T (v_attr (c := 0) (ns := [0, 1]) (fs := [eI size_7, (eT (eP2 eI eI)) arcs_12]) (z := (eT (eP2 eI eI)) arcs_12) (l_pl (i := 0) (by exact rfl) (by exact rfl)) rfl rfl)) h_16 (fun _ => rfl) (tgIn_T rfl) (fun p_15 => (by exact (vb_E (v_op2 ((v_var (i := 5) (by exact rfl))).l ((v_var (i := 4) (by exact rfl))).l (f_eq eqb_I))))) (fun p_15 _ => (by exact (v_var (i := 6) (by exact rfl)))))).l f_tupL))))).l f_tupL)) (by exact (k_fldN (E := (eT (eT eI))) (i := 0) (n := 2) (cs := [0]) (c := 0) (ns := [0, 1]) (fs := [eI size_7, (eT (eP2 eI eI)) arcs_12]) (ns' := [0, 1, 2]) (fs' := fun knows_18 => [eI size_7, (eT (eP2 eI eI)) arcs_12, (eT (eT eI)) knows_18]) (fr' := fun knows_18 => ([some (toD (.obj 0 [0, 1, 2] [eI size_7, (eT (eP2 eI eI)) arcs_12, (eT (eT eI)) knows_18])), some (toD (eI size_1)), some (toD (eY arcs_2)), some (toD ((eO eI) r_6)), none, none, none] : Fr)) rfl rfl rfl (fun _ => rfl) (fun _ => rfl) (fun knows_18 => (by exact (s_end (kd_nx1 (E := fun a => eU a.1) (i := 0) (f := fun a => e_Net a.2) (a := ((), (size_7, arcs_12, knows_18))) rfl rfl)))))))))))))))))))))))))))))))))))))))))))))))))))))))
theorem rf_law_sameN : ∀ (n : Nat) (actual_1 : DV) (expected_2 : DV), Rf (fn_law_sameN n (toDs [eY actual_1, eY expected_2])) (T_law_sameN n actual_1 expected_2) (KF eB 2 os0) (KX 2 os0)
  | 0, _, _ => ⟨trivial⟩
  | n + 1, actual_1, expected_2 => by
    have ih := rf_law_sameN n
    unfold fn_law_sameN T_law_sameN
    refine fn_rf0 (fr0 := ([some (toD (eY actual_1)), some (toD (eY expected_2)), none] : Fr)) rfl ?_
    unfold g_law_same
    exact (by exact (s_ifX (x_vb (vb_E (v_op2 ((v_var (i := 1) (by exact rfl))).l (v_cN).l f_isN)) (by exact (k_If (by exact (s_seqE (s_ret (x_v (v := eB ((isNon (toD actual_1)))) (by exact (v_op2 ((v_var (i := 0) (by exact rfl))).l (v_cN).l f_isN)) (by exact (k_Ret (kd_ret rfl))))))) (by exact (s_nx (by exact (s_ifX (Rf.opt fun r_4 h_3 =>
  (by exact (x_vb (vb_E (v_op1 ((v_var (i := 1) (by exact rfl))).l (f_isi h_3))) (by exact (k_If (by exact (s_seqE (s_ret (x_joinV (E := eB) (F := fun _ => [some (toD (eY actual_1)), some (toD (eY expected_2)), none]) (Rf.opt fun r_11 h_10 =>
  (by exact (x_andV (v_op1 ((v_var (i := 0) (by exact rfl))).l (f_isi h_10)) (fun _ => (x_tail (Rf.opt fun r_13 h_12 =>
  (by exact (x_v (v := eB r_13) (by exact (v_op2 ((v_var (i := 0) (by exact rfl))).l ((v_var (i := 1) (by exact rfl))).l (f_eqY h_12))) (by exact (kv_ok rfl rfl)))))))))) (fun b_9 => (k_Ret (kd_ret rfl))))))) (by exact (s_nx (by exact (s_ifX (Rf.opt fun r_15 h_14 =>
  (by exact (x_vb (vb_E (v_op1 ((v_var (i := 1) (by exact rfl))).l (f_isi h_14))) (by exact (k_If (by exact (s_seqE (s_ret (x_joinV (E := eB) (F := fun _ => [some (toD (eY actual_1)), some (toD (eY expected_2)), none]) (Rf.opt fun r_22 h_21 =>
  (by exact (x_andV (v_op1 ((v_var (i := 0) (by exact rfl))).l (f_isi h_21)) (fun _ => (x_tail (Rf.opt fun r_24 h_23 =>
  (by exact (x_v (v := eB r_24) (by exact (v_op2 ((v_var (i := 0) (by exact rfl))).l ((v_var (i := 1) (by exact rfl))).l (f_eqY h_23))) (by exact (kv_ok rfl rfl)))))))))) (fun b_20 => (k_Ret (kd_ret rfl))))))) (by exact (s_nx (by exact (s_ifX (Rf.opt fun r_26 h_25 =>
  (by exact (x_vb (vb_E (v_op1 ((v_var (i := 1) (by exact rfl))).l (f_isi h_25))) (by exact (k_If (by exact (s_seqE (s_ret (x_joinV (E := eB) (F := fun _ => [some (toD (eY actual_1)), some (toD (eY expected_2)), none]) (Rf.opt fun r_33 h_32 =>
  (by exact (x_andV (v_op1 ((v_var (i := 0) (by exact rfl))).l (f_isi h_32)) (fun _ => (Rf.opt fun r_35 h_34 =>
  (by exact (x_andV (v_not (v_op1 ((v_var (i := 0) (by exact rfl))).l (f_isi h_34))) (fun _ => (x_tail (Rf.opt fun r_37 h_36 =>
  (by exact (x_v (v := eB r_37) (by exact (v_op2 ((v_var (i := 0) (by exact rfl))).l ((v_var (i := 1) (by exact rfl))).l (f_eqY h_36))) (by exact (kv_ok rfl rfl)))))))))))))) (fun b_31 => (k_Ret (kd_ret rfl))))))) (by exact (s_nx (by exact (s_ifX (x_join (F := (fun (s_64 : Unit) => ([some (toD (eY actual_1)), some (toD (eY expected_2)), none] : Fr))) (Rf.opt fun r_45 h_44 =>
  (by exact (x_or (vb_not (vb_E (v_op1 ((v_var (i := 0) (by exact rfl))).l (f_isi h_44)))) rfl (fun _ => (x_tail (Rf.opt fun r_47 h_46 =>
  (by exact (Rf.opt fun r_49 h_48 =>
  (by exact (x_vb (vb_E (v_op2 ((v_op1 ((v_var (i := 0) (by exact rfl))).l (f_lenY h_46))).l ((v_op1 ((v_var (i := 1) (by exact rfl))).l (f_lenY h_48))).l (f_ne eqb_I))) (by exact (kb_ok rfl)))))))))))) (fun p_50 => (k_If (by exact (s_seqE (s_ret (x_v (v := eB false) (by exact v_cB) (by exact (k_Ret (kd_ret rfl))))))) (by exact (s_nx (by exact (s_forH (Rf.opt fun r_52 h_51 =>
  (by exact (Rf.ck fun h_53 =>
  (by exact (x_vi (by exact (vi_rg1 ((v_op1 ((v_var (i := 1) (by exact rfl))).l (f_lenY h_51))).l h_53)) (by exact (k_loop (KR := (KD eB os0)) (js := [false, false, true]) (F := (fun (s_55 : Unit) => ([some (toD (eY actual_1)), some (toD (eY expected_2)), none] : Fr))) (s0 := ()) rfl (fun _ _ => rfl) (fun k_54 s_56 => (by exact (s_ifX (Rf.opt fun r_59 h_58 =>
  (by exact (Rf.opt fun r_61 h_60 =>
  (by exact (Rf.no fun r_63 h_62 =>
  (by exact (x_vb (vb_not (vb_E (v_call (a := r_63) (E := eB) (ih r_59 r_61) h_62 rfl rfl (va_cons (v_op2 ((v_var (i := 0) (by exact rfl))).l ((v_var (i := 2) (by exact rfl))).l (f_ixY h_58)) (va_cons (v_op2 ((v_var (i := 1) (by exact rfl))).l ((v_var (i := 2) (by exact rfl))).l (f_ixY h_60)) va_nil))))) (by exact (k_If (by exact (s_seqE (s_ret (x_v (v := eB false) (by exact v_cB) (by exact (k_Ret ⟨⟨_, rfl⟩, kd_ret rfl⟩)))))) (by exact (s_nx (by exact (s_end ⟨.inl rfl, rfl⟩)))))))))))))))) (fun s_57 => (by exact (s_ret (x_v (v := eB true) (by exact v_cB) (by exact (k_Ret (kd_ret rfl))))))) (fun x d fr h => ⟨_, _, rfl, h⟩)))))))))))))))))))))))))))))))))))))))))))))))))))
theorem rf_law_same (actual_1 : DV) (expected_2 : DV) : Rf (fn_law_same (toDs [eY actual_1, eY expected_2])) (T_law_same actual_1 expected_2) (KF eB 2 os0) (KX 2 os0) := rf_law_sameN 6 actual_1 expected_2
theorem rf_law_are_friends (knows_here_1 : List (List Int)) (lot_2 : List Int) : Rf (fn_law_are_friends (toDs [(eL (eL eI)) knows_here_1, (eT eI) lot_2])) (T_law_are_friends knows_here_1 lot_2) (KF eB 2 os0) (KX 2 os0) := by
  unfold fn_law_are_friends T_law_are_friends
  refine fn_rf0 (fr0 := ([some (toD ((eL (eL eI)) knows_here_1)), some (toD ((eT eI) lot_2)), none, none] : Fr)) rfl ?_
  unfold g_law_are_friends
  exact (by exact (s_forH (x_vi (by exact (vi_T (v_var (i := 1) (by exact rfl)))) (by exact (k_loop (KR := (KD eB os0)) (js := [false, false, true, true]) (F := (fun (s_4 : Unit) => ([some (toD ((eL (eL eI)) knows_here_1)), some (toD ((eT eI) lot_2)), none, none] : Fr))) (s0 := ()) rfl (fun _ _ => rfl) (fun i_3 s_5 => (by exact (s_forH (x_vi (by exact (vi_T (v_var (i := 1) (by exact rfl)))) (by exact (k_loop (KR := (KD eB os0)) (js := [false, false, false, true]) (F := (fun (s_8 : Unit) => ([some (toD ((eL (eL eI)) knows_here_1)), some (toD ((eT eI) lot_2)), some (toD (eI i_3)), none] : Fr))) (s0 := ()) rfl (fun _ _ => rfl) (fun j_7 s_9 => (by exact (s_ifX (x_join (F := (fun (s_16 : Unit) => ([some (toD ((eL (eL eI)) knows_here_1)), some (toD ((eT eI) lot_2)), some (toD (eI i_3)), some (toD (eI j_7))] : Fr))) (x_and (vb_E (v_op2 ((v_var (i := 2) (by exact rfl))).l ((v_var (i := 3) (by exact rfl))).l (f_ne eqb_I))) rfl (fun _ => (x_tail (Rf.opt fun r_14 h_13 =>
  (by exact (x_vb (vb_E (v_op2 ((v_var (i := 3) (by exact rfl))).l ((v_op2 ((v_var (i := 0) (by exact rfl))).l ((v_var (i := 2) (by exact rfl))).l (f_ixL (e := (eL eI)) h_13))).l (f_nin dat_I (by decide)))) (by exact (kb_ok rfl)))))))) (fun p_15 => (k_If (by exact (s_seqE (s_ret (x_v (v := eB false) (by exact v_cB) (by exact (k_Ret ⟨⟨_, rfl⟩, kd_ret rfl⟩)))))) (by exact (s_nx (by exact (s_end ⟨.inl rfl, rfl⟩)))))))))) (fun s_10 => (by exact (s_end ⟨.inl rfl, rfl⟩))) (fun x d fr h => ⟨_, _, rfl, ⟨d, rfl⟩, h⟩))))))) (fun s_6 => (by exact (s_ret (x_v (v := eB true) (by exact v_cB) (by exact (k_Ret (kd_ret rfl))))))) (fun x d fr h => ⟨_, _, rfl, h⟩))))))
theorem rf_law_lots (size_1 : Int) : Rf (fn_law_lots (toDs [eI size_1])) (T_law_lots size_1) (KF (eL (eT eI)) 1 os0) (KX 1 os0) := by
  unfold fn_law_lots T_law_lots
  refine fn_rf0 (fr0 := ([some (toD (eI size_1)), none, none, none] : Fr)) rfl ?_
  unfold g_law_lots
  exact (by exact (s_set (x_v (v := (eL (eT eI)) ([[]])) (by exact (v_eq (w := eL (eT eI) [[]]) rfl (v_lst (va_cons (v_tup va_nil rfl) va_nil) rfl))) (by exact (k_SetN (E := (eL (eT eI))) (fr' := fun lots_here_2 => ([some (toD (eI size_1)), some (toD ((eL (eT eI)) lots_here_2)), none, none] : Fr)) (fun _ => rfl) (fun lots_here_2 => (by exact (s_forH (Rf.ck fun h_3 =>
  (by exact (x_vi (by exact (vi_rg1 ((v_var (i := 0) (by exact rfl))).l h_3)) (by exact (k_for (js := [false, false, true, false]) (F := (fun (s_5 : (List (List Int))) => ([some (toD (eI size_1)), some (toD ((eL (eT eI)) s_5)), none, none] : Fr))) (s0 := lots_here_2) rfl (fun _ _ => rfl) (fun i_4 s_6 => (by exact (s_set (x_op2r (v_var (i := 1) (by exact rfl)) (x_compH (x_vi (by exact (vi_L (v_var (i := 1) (by exact rfl)))) (by exact (Rf.ck fun h_12 =>
  (by exact (k_comp (E2 := (eT eI)) (G := (fun (s_19 : Unit) => ([some (toD (eI size_1)), some (toD ((eL (eT eI)) s_6)), some (toD (eI i_4)), none] : Fr))) (s0 := ()) h_12 rfl (fun _ _ => rfl) (fun lot_13 s_14 => (by exact (t_yes (Rf.ck fun h_15 =>
  (by exact (x_v (v := (eT eI) ((lot_13 ++ [i_4]))) (by exact (v_op2 ((v_var (i := 3) (by exact rfl))).l ((v_eq (w := eT eI [i_4]) rfl (v_tup (va_cons (v_var (i := 2) (by exact rfl)) va_nil) rfl))).l (f_addT h_15))) (by exact (k_turn (E2 := (eT eI)) (y := (lot_13 ++ [i_4])) ⟨rfl, rfl⟩)))))))) (fun _ => rfl) (fun l_16 => (by exact (Rf.ck fun h_17 =>
  (by exact (k_op2b (look_toD _ _) (f_catL h_17) (k_SetN (E := (eL (eT eI))) (fr' := fun lots_here_18 => ([some (toD (eI size_1)), some (toD ((eL (eT eI)) lots_here_18)), some (toD (eI i_4)), none] : Fr)) (fun _ => rfl) (fun lots_here_18 => (by exact (s_end ⟨.inl rfl, rfl⟩))))))))))))))))))) (fun s_7 => (by exact (s_ret (x_v (v := (eL (eT eI)) s_7) (by exact (v_var (i := 1) (by exact rfl))) (by exact (k_Ret (kd_ret rfl))))))))))))))))))))
theorem rf_law (script_1 : List Int) : Rf (fn_law (toDs [eSc script_1])) (T_law script_1) (KF eB 1 os0) (KX 1 os0) := by
  unfold fn_law T_law
  refine fn_rf0 (fr0 := ([some (toD (eSc script_1)), none, none, none, none, none, none, none, none, none, none, none, none, none, none] : Fr)) rfl ?_
  unfold g_law
  exact (by exact (s_forH (Rf.ck fun h_2 =>
  (by exact (x_vi (by exact (vi_rg1 ((v_op2 ((v_op1 ((v_var (i := 0) (by exact rfl))).l f_lenS)).l (v_cI).l f_min2)).l h_2)) (by exact (k_loop (KR := (KD eB os0)) (js := [false, true, true, true, true, true, true, true, true, true, true, true, true, false, false]) (F := (fun (s_4 : Unit) => ([some (toD (eSc script_1)), none, none, none, none, none, none, none, none, none, none, none, none, none, none] : Fr))) (s0 := ()) rfl (fun _ _ => rfl) (fun at_3 s_5 => (by exact (s_set (Rf.opt fun r_8 h_7 =>
  (by exact (Rf.no fun r_10 h_9 =>
  (by exact (x_v (v := (eL eI) r_10) (by exact (v_call (a := r_10) (E := (eL eI)) (rf_law_numbers r_8 at_3 50) h_9 rfl rfl (va_cons (v_op2 ((v_var (i := 0) (by exact rfl))).l ((v_var (i := 1) (by exact rfl))).l (f_ixS h_7)) (va_cons (v_var (i := 1) (by exact rfl)) (va_cons v_cI va_nil))))) (by exact (k_Set (v := (eL eI) r_10) (fr' := ([some (toD (eSc script_1)), some (toD (eI at_3)), some (toD ((eL eI) r_10)), none, none, none, none, none, none, none, none, none, none, none, none] : Fr)) rfl (by exact (s_set (Rf.no fun r_12 h_11 =>
  (by exact (x_v (v := (eP2 eI (eL (eP2 eI eI))) r_12) (by exact (v_call (a := r_12) (E := (eP2 eI (eL (eP2 eI eI)))) (rf_law_net r_10 0 7) h_11 rfl rfl (va_cons (v_var (i := 2) (by exact rfl)) (va_cons v_cI (va_cons v_cI va_nil))))) (by exact (k_Set (v := (eP2 eI (eL (eP2 eI eI))) r_12) (fr' := ([some (toD (eSc script_1)), some (toD (eI at_3)), some (toD ((eL eI) r_10)), some (toD ((eP2 eI (eL (eP2 eI eI))) r_12)), none, none, none, none, none, none, none, none, none, none, none] : Fr)) rfl (by exact (Rf.opt fun r_16 h_15 =>
  (by exact (s_if (js := [false, false, false, false, true, false, false, false, false, false, false, false, false, false, false]) (F := (fun (s_13 : (Int × (List (Int × Int)))) => ([some (toD (eSc script_1)), some (toD (eI at_3)), some (toD ((eL eI) r_10)), some (toD ((eP2 eI (eL (eP2 eI eI))) s_13)), none, none, none, none, none, none, none, none, none, none, none] : Fr))) (vb_E (v_op2 ((v_op2 ((v_op1 ((v_op2 ((v_var (i := 2) (by exact rfl))).l (v_cI).l (f_ixL (e := eI) h_15))).l f_int)).l (v_cI).l (f_mod (by decide)))).l (v_cI).l (f_eq eqb_I))) (by exact (s_set (Rf.ck fun h_18 =>
  (by exact (Rf.ck fun h_19 =>
  (by exact (x_v (v := (eL (eP2 eI eI)) ((r_12.2 ++ ((r_12.2.filter fun arc_17 => (!memT ((arc_17.2, arc_17.1)) r_12.2)).map fun arc_17 => (arc_17.2, arc_17.1))))) (by exact (v_op2 ((v_op2 ((v_var (i := 3) (by exact rfl))).l (v_cI).l (f_ixP (i := 1) (vs := [eI r_12.1, (eL (eP2 eI eI)) r_12.2]) (v := (eL (eP2 eI eI)) r_12.2) rfl))).l ((v_comp (E := (eP2 eI eI)) (E2 := (eP2 eI eI)) (vi_L (v_op2 ((v_var (i := 3) (by exact rfl))).l (v_cI).l (f_ixP (i := 1) (vs := [eI r_12.1, (eL (eP2 eI eI)) r_12.2]) (v := (eL (eP2 eI eI)) r_12.2) rfl))) h_18 (fun _ => rfl) (tgIn_N rfl) (fun arc_17 => (by exact (vb_E (v_op2 ((v_eq (w := (eP2 eI eI) ((arc_17.2, arc_17.1))) rfl (v_tup (va_cons (v_op2 ((v_var (i := 13) (by exact rfl))).l (v_cI).l (f_ixP (i := 1) (vs := [eI arc_17.1, eI arc_17.2]) (v := eI arc_17.2) rfl)) (va_cons (v_op2 ((v_var (i := 13) (by exact rfl))).l (v_cI).l (f_ixP (i := 0) (vs := [eI arc_17.1, eI arc_17.2]) (v := eI arc_17.1) rfl)) va_nil)) rfl))).l ((v_op2 ((v_var (i := 3) (by exact rfl))).l (v_cI).l (f_ixP (i := 1) (vs := [eI r_12.1, (eL (eP2 eI eI)) r_12.2]) (v := (eL (eP2 eI eI)) r_12.2) rfl))).l (f_nin (dat_P dat_I dat_I) (by decide)))))) (fun arc_17 _ => (by exact (v_tup (va_cons (v_op2 ((v_var (i := 13) (by exact rfl))).l (v_cI).l (f_ixP (i := 1) (vs := [eI arc_17.1, eI arc_17.2]) (v := eI arc_17.2) rfl)) (va_cons (v_op2 ((v_var (i := 13) (by exact rfl))).l (v_cI).l (f_ixP (i := 0) (vs := [eI arc_17.1, eI arc_17.2]) (v := eI arc_17.1) rfl)) va_nil)) rfl))))).l (f_catL h_19))) (by exact (k_SetN (E := (eL (eP2 eI eI))) (fr' := fun arcs_20 => ([some (toD (eSc script_1)), some (toD (eI at_3)), some (toD ((eL eI) r_10)), some (toD ((eP2 eI (eL (eP2 eI eI))) r_12)), some (toD ((eL (eP2 eI eI)) arcs_20)), none, none, none, none, none, none, none, none, none, none] : Fr)) (fun _ => rfl) (fun arcs_20 => (by exact (s_set (x_v (v := (eP2 eI (eL (eP2 eI eI))) ((r_12.1, (arcs_20.mergeSort leP)))) (by exact (v_tup (va_cons (v_op2 ((v_var (i := 3) (by exact rfl))).l (v_cI).l (f_ixP (i := 0) (vs := [eI r_12.1, (eL (eP2 eI eI)) r_12.2]) (v := eI r_12.1) rfl)) (va_cons (v_op1 ((v_var (i := 4) (by exact rfl))).l f_sortLP) va_nil)) rfl)) (by exact (k_SetN (E := (eP2 eI (eL (eP2 eI eI)))) (fr' := fun net_here_21 => ([some (toD (eSc script_1)), some (toD (eI at_3)), some (toD ((eL eI) r_10)), some (toD ((eP2 eI (eL (eP2 eI eI))) net_here_21)), some (toD ((eL (eP2 eI eI)) arcs_20)), none, none, none, none, none, none, none, none, none, none] : Fr)) (fun _ => rfl) (fun net_here_21 => (by exact (s_end ⟨rfl, rfl⟩)))))))))))))))))) (by exact (s_end ⟨rfl, rfl⟩)) (fun s_14 => (by exact (s_set (Rf.no fun r_23 h_22 =>
  (by exact (x_v (v := (eL (eL eI)) r_23) (by exact (v_call (a := r_23) (E := (eL (eL eI))) (rf_law_knows s_14) h_22 rfl rfl (va_cons (v_var (i := 3) (by exact rfl)) va_nil))) (by exact (k_Set (v := (eL (eL eI)) r_23) (fr' := ([some (toD (eSc script_1)), some (toD (eI at_3)), some (toD ((eL eI) r_10)), some (toD ((eP2 eI (eL (eP2 eI eI))) s_14)), none, some (toD ((eL (eL eI)) r_23)), none, none, none, none, none, none, none, none, none] : Fr)) rfl (by exact (s_set (Rf.no fun r_25 h_24 =>
  (by exact (Rf.no fun r_27 h_26 =>
  (by exact (x_v (v := (eP2 eS eY) r_27) (by exact (v_call (a := r_27) (E := (eP2 eS eY)) (rf_law_told r_25.2) h_26 rfl rfl (va_cons (v_make (a := r_25) (rf_Net_init s_14.1 (((eL (eP2 eI eI)) s_14.2))) h_24 (va_cons (v_op2 ((v_var (i := 3) (by exact rfl))).l (v_cI).l (f_ixP (i := 0) (vs := [eI s_14.1, (eL (eP2 eI eI)) s_14.2]) (v := eI s_14.1) rfl)) (va_cons (v_op2 ((v_var (i := 3) (by exact rfl))).l (v_cI).l (f_ixP (i := 1) (vs := [eI s_14.1, (eL (eP2 eI eI)) s_14.2]) (v := (eL (eP2 eI eI)) s_14.2) rfl)) va_nil))) va_nil))) (by exact (k_Set (v := (eP2 eS eY) r_27) (fr' := ([some (toD (eSc script_1)), some (toD (eI at_3)), some (toD ((eL eI) r_10)), some (toD ((eP2 eI (eL (eP2 eI eI))) s_14)), none, some (toD ((eL (eL eI)) r_23)), some (toD ((eP2 eS eY) r_27)), none, none, none, none, none, none, none, none] : Fr)) rfl (by exact (s_set (x_call (x_cons (by exact (x_compH (Rf.no fun r_39 h_38 =>
  (by exact (x_vi (by exact (vi_L (v_call (a := r_39) (E := (eL (eT eI))) (rf_law_lots s_14.1) h_38 rfl rfl (va_cons (v_op2 ((v_var (i := 3) (by exact rfl))).l (v_cI).l (f_ixP (i := 0) (vs := [eI s_14.1, (eL (eP2 eI eI)) s_14.2]) (v := eI s_14.1) rfl)) va_nil)))) (by exact (Rf.ck fun h_40 =>
  (by exact (k_comp (E2 := eB) (G := (fun (s_107 : Unit) => ([some (toD (eSc script_1)), some (toD (eI at_3)), some (toD ((eL eI) r_10)), some (toD ((eP2 eI (eL (eP2 eI eI))) s_14)), none, some (toD ((eL (eL eI)) r_23)), some (toD ((eP2 eS eY) r_27)), none, none, none, none, none, none, none, none] : Fr))) (s0 := ()) h_40 rfl (fun _ _ => rfl) (fun lot_41 s_42 => (by exact (t_yes (Rf.no fun r_44 h_43 =>
  (by exact (x_v (v := eB r_44) (by exact (v_call (a := r_44) (E := eB) (rf_law_are_friends r_23 lot_41) h_43 rfl rfl (va_cons (v_var (i := 5) (by exact rfl)) (va_cons (v_var (i := 9) (by exact rfl)) va_nil)))) (by exact (k_turn (E2 := eB) (y := r_44) ⟨rfl, rfl⟩)))))))) (fun _ => rfl) (fun l_45 => (by exact (k_A (by exact (x_nil (k_call (vs := [(eL eB) l_45.1]) (rf_law_fewest l_45.1) rfl rfl (fun _ _ _ _ => kde0) (fun r_46 => (k_Set (v := eI r_46) (fr' := ([some (toD (eSc script_1)), some (toD (eI at_3)), some (toD ((eL eI) r_10)), some (toD ((eP2 eI (eL (eP2 eI eI))) s_14)), none, some (toD ((eL (eL eI)) r_23)), some (toD ((eP2 eS eY) r_27)), some (toD (eI r_46)), none, none, none, none, none, none, none] : Fr)) rfl (by exact (s_ifX (x_join (F := (fun (s_106 : Unit) => ([some (toD (eSc script_1)), some (toD (eI at_3)), some (toD ((eL eI) r_10)), some (toD ((eP2 eI (eL (eP2 eI eI))) s_14)), none, some (toD ((eL (eL eI)) r_23)), some (toD ((eP2 eS eY) r_27)), some (toD (eI r_46)), none, none, none, none, none, none, none] : Fr))) (x_or (vb_E (v_op2 ((v_op2 ((v_var (i := 6) (by exact rfl))).l (v_cI).l (f_ixP (i := 0) (vs := [eS r_27.1, eY r_27.2]) (v := eS r_27.1) rfl))).l (v_cS).l (f_ne eqb_S))) rfl (fun _ => (Rf.opt fun r_53 h_52 =>
  (by exact (Rf.opt fun r_55 h_54 =>
  (by exact (x_or (vb_not (vb_E (v_op1 ((v_dec (asT_of (asT_of asI_of)) h_52 (v_op2 ((v_var (i := 6) (by exact rfl))).l (v_cI).l (f_ixP (i := 1) (vs := [eS r_27.1, eY r_27.2]) (v := eY r_27.2) rfl)))).l (f_isi h_54)))) rfl (fun _ => (x_tail (Rf.opt fun r_57 h_56 =>
  (by exact (x_vb (vb_E (v_op2 ((v_op1 ((v_dec (asT_of (asT_of asI_of)) h_56 (v_op2 ((v_var (i := 6) (by exact rfl))).l (v_cI).l (f_ixP (i := 1) (vs := [eS r_27.1, eY r_27.2]) (v := eY r_27.2) rfl)))).l f_lenT)).l ((v_var (i := 7) (by exact rfl))).l (f_ne eqb_I))) (by exact (kb_ok rfl)))))))))))))) (fun p_58 => (k_If (by exact (s_seqE (s_ret (x_v (v := eB false) (by exact v_cB) (by exact (k_Ret ⟨⟨_, rfl⟩, kd_ret rfl⟩)))))) (by exact (s_nx (by exact (s_set (x_v (v := (eL eI) ([])) (by exact (v_lst va_nil rfl)) (by exact (k_Set (v := (eL eI) ([] : List Int)) (fr' := ([some (toD (eSc script_1)), some (toD (eI at_3)), some (toD ((eL eI) r_10)), some (toD ((eP2 eI (eL (eP2 eI eI))) s_14)), none, some (toD ((eL (eL eI)) r_23)), some (toD ((eP2 eS eY) r_27)), some (toD (eI r_46)), some (toD ((eL eI) (([] : List Int)))), none, none, none, none, none, none] : Fr)) rfl (by exact (s_forH (Rf.opt fun r_60 h_59 =>
  (by exact (x_vi (by exact (vi_T (v_dec (asT_of (asT_of asI_of)) h_59 (v_op2 ((v_var (i := 6) (by exact rfl))).l (v_cI).l (f_ixP (i := 1) (vs := [eS r_27.1, eY r_27.2]) (v := eY r_27.2) rfl))))) (by exact (k_loop (KR := (KD eB os0)) (js := [false, false, false, false, false, false, false, false, false, true, false, false, false, false, false]) (F := (fun (s_62 : (List Int)) => ([some (toD (eSc script_1)), some (toD (eI at_3)), some (toD ((eL eI) r_10)), some (toD ((eP2 eI (eL (eP2 eI eI))) s_14)), none, some (toD ((eL (eL eI)) r_23)), some (toD ((eP2 eS eY) r_27)), some (toD (eI r_46)), some (toD ((eL eI) s_62)), none, none, none, none, none, none] : Fr))) (s0 := ([] : List Int)) rfl (fun _ _ => rfl) (fun lot_61 s_63 => (by exact (s_ifX (x_join (F := (fun (s_76 : Unit) => ([some (toD (eSc script_1)), some (toD (eI at_3)), some (toD ((eL eI) r_10)), some (toD ((eP2 eI (eL (eP2 eI eI))) s_14)), none, some (toD ((eL (eL eI)) r_23)), some (toD ((eP2 eS eY) r_27)), some (toD (eI r_46)), some (toD ((eL eI) s_63)), some (toD ((eT eI) lot_61)), none, none, none, none, none] : Fr))) (Rf.opt fun r_70 h_69 =>
  (by exact (x_or (vb_not (vb_E (v_op1 ((v_var (i := 9) (by exact rfl))).l (f_isi h_69)))) rfl (fun _ => (x_or (vb_E (v_op2 ((v_op1 ((v_var (i := 9) (by exact rfl))).l f_lenT)).l (v_cI).l (f_eq eqb_I))) rfl (fun _ => (x_tail (Rf.no fun r_72 h_71 =>
  (by exact (x_vb (vb_not (vb_E (v_call (a := r_72) (E := eB) (rf_law_are_friends r_23 lot_61) h_71 rfl rfl (va_cons (v_var (i := 5) (by exact rfl)) (va_cons (v_var (i := 9) (by exact rfl)) va_nil))))) (by exact (kb_ok rfl)))))))))))) (fun p_73 => (k_If (by exact (s_seqE (s_ret (x_v (v := eB false) (by exact v_cB) (by exact (k_Ret ⟨⟨_, rfl⟩, kd_ret rfl⟩)))))) (by exact (s_nx (by exact (s_ifX (x_vb (vb_E (v_op2 ((v_op1 ((v_var (i := 9) (by exact rfl))).l f_lstT)).l ((v_op1 ((v_var (i := 9) (by exact rfl))).l f_sortTI)).l (f_ne (eqb_L dat_I (by decide))))) (by exact (k_If (by exact (s_seqE (s_ret (x_v (v := eB false) (by exact v_cB) (by exact (k_Ret ⟨⟨_, rfl⟩, kd_ret rfl⟩)))))) (by exact (s_nx (by exact (s_set (Rf.ck fun h_74 =>
  (by exact (x_v (v := (eL eI) ((s_63 ++ lot_61))) (by exact (v_op2 ((v_var (i := 8) (by exact rfl))).l ((v_op1 ((v_var (i := 9) (by exact rfl))).l f_lstT)).l (f_catL h_74))) (by exact (k_SetN (E := (eL eI)) (fr' := fun places_75 => ([some (toD (eSc script_1)), some (toD (eI at_3)), some (toD ((eL eI) r_10)), some (toD ((eP2 eI (eL (eP2 eI eI))) s_14)), none, some (toD ((eL (eL eI)) r_23)), some (toD ((eP2 eS eY) r_27)), some (toD (eI r_46)), some (toD ((eL eI) places_75)), some (toD ((eT eI) lot_61)), none, none, none, none, none] : Fr)) (fun _ => rfl) (fun places_75 => (by exact (s_end ⟨.inl rfl, rfl⟩))))))))))))))))))))))))) (fun s_64 => (by exact (s_ifX (Rf.ck fun h_77 =>
  (by exact (Rf.no fun r_79 h_78 =>
  (by exact (x_vb (vb_not (vb_E (v_call (a := r_79) (E := eB) (rf_law_same (((eT eI) ((s_64.mergeSort leI)))) (((eT eI) ((rngT 0 s_14.1))))) h_78 rfl rfl (va_cons (v_op1 ((v_op1 ((v_var (i := 8) (by exact rfl))).l f_sortI)).l f_tupL) (va_cons (v_op1 ((v_op2 ((v_var (i := 3) (by exact rfl))).l (v_cI).l (f_ixP (i := 0) (vs := [eI s_14.1, (eL (eP2 eI eI)) s_14.2]) (v := eI s_14.1) rfl))).l (f_rgT h_77)) va_nil))))) (by exact (k_If (by exact (s_seqE (s_ret (x_v (v := eB false) (by exact v_cB) (by exact (k_Ret ⟨⟨_, rfl⟩, kd_ret rfl⟩)))))) (by exact (s_nx (by exact (s_set (Rf.ck fun h_81 =>
  (by exact (x_v (v := (eL (eP2 eI eI)) (((rngT 0 8).map fun i_80 => (i_80, ((i_80 + 1) - (2 * (i_80 % 2))))))) (by exact (v_comp0 (E := eI) (E2 := (eP2 eI eI)) (vi_rg1 (v_cI).l (by decide)) h_81 (fun _ => rfl) (tgIn_N rfl) (fun i_80 => (by exact (v_tup (va_cons (v_op1 ((v_var (i := 14) (by exact rfl))).l f_int) (va_cons (v_op1 ((v_op2 ((v_op2 ((v_var (i := 14) (by exact rfl))).l (v_cI).l f_add)).l ((v_op2 (v_cI).l ((v_op2 ((v_op1 ((v_var (i := 14) (by exact rfl))).l f_int)).l (v_cI).l (f_mod (by decide)))).l (f_mul (mul_l (by decide))))).l f_sub)).l f_int) va_nil)) rfl))))) (by exact (k_SetN (E := (eL (eP2 eI eI))) (fr' := fun eight_82 => ([some (toD (eSc script_1)), some (toD (eI at_3)), some (toD ((eL eI) r_10)), some (toD ((eP2 eI (eL (eP2 eI eI))) s_14)), none, some (toD ((eL (eL eI)) r_23)), some (toD ((eP2 eS eY) r_27)), some (toD (eI r_46)), some (toD ((eL eI) s_64)), none, some (toD ((eL (eP2 eI eI)) eight_82)), none, none, none, none] : Fr)) (fun _ => rfl) (fun eight_82 => (by exact (s_set (Rf.no fun r_84 h_83 =>
  (by exact (Rf.no fun r_86 h_85 =>
  (by exact (x_v (v := (eP2 eS eY) r_86) (by exact (v_call (a := r_86) (E := (eP2 eS eY)) (rf_law_told r_84.2) h_85 rfl rfl (va_cons (v_make (a := r_84) (rf_Net_init 8 (((eL (eP2 eI eI)) eight_82))) h_83 (va_cons v_cI (va_cons (v_var (i := 10) (by exact rfl)) va_nil))) va_nil))) (by exact (k_Set (v := (eP2 eS eY) r_86) (fr' := ([some (toD (eSc script_1)), some (toD (eI at_3)), some (toD ((eL eI) r_10)), some (toD ((eP2 eI (eL (eP2 eI eI))) s_14)), none, some (toD ((eL (eL eI)) r_23)), some (toD ((eP2 eS eY) r_27)), some (toD (eI r_46)), some (toD ((eL eI) s_64)), none, some (toD ((eL (eP2 eI eI)) eight_82)), some (toD ((eP2 eS eY) r_86)), none, none, none] : Fr)) rfl (by exact (s_ifX (x_join (F := (fun (s_105 : Unit) => ([some (toD (eSc script_1)), some (toD (eI at_3)), some (toD ((eL eI) r_10)), some (toD ((eP2 eI (eL (eP2 eI eI))) s_14)), none, some (toD ((eL (eL eI)) r_23)), some (toD ((eP2 eS eY) r_27)), some (toD (eI r_46)), some (toD ((eL eI) s_64)), none, some (toD ((eL (eP2 eI eI)) eight_82)), some (toD ((eP2 eS eY) r_86)), none, none, none] : Fr))) (x_or (vb_E (v_op2 ((v_op2 ((v_var (i := 11) (by exact rfl))).l (v_cI).l (f_ixP (i := 0) (vs := [eS r_86.1, eY r_86.2]) (v := eS r_86.1) rfl))).l (v_cS).l (f_ne eqb_S))) rfl (fun _ => (Rf.opt fun r_90 h_89 =>
  (by exact (x_or (vb_E (v_op2 ((v_op1 ((v_dec (asT_of (asP2_of asI_of asI_of)) h_89 (v_op2 ((v_var (i := 11) (by exact rfl))).l (v_cI).l (f_ixP (i := 1) (vs := [eS r_86.1, eY r_86.2]) (v := eY r_86.2) rfl)))).l f_lenT)).l (v_cI).l (f_ne eqb_I))) rfl (fun _ => (x_tail (Rf.opt fun r_92 h_91 =>
  (by exact (x_vb (vb_E (v_op2 ((v_op1 ((v_op1 ((v_dec (asT_of (asP2_of asI_of asI_of)) h_91 (v_op2 ((v_var (i := 11) (by exact rfl))).l (v_cI).l (f_ixP (i := 1) (vs := [eS r_86.1, eY r_86.2]) (v := eY r_86.2) rfl)))).l f_lstT)).l f_sortLP)).l ((v_op1 ((v_var (i := 10) (by exact rfl))).l f_ev2L)).l (f_ne (eqb_L (dat_P dat_I dat_I) (by decide))))) (by exact (kb_ok rfl)))))))))))) (fun p_93 => (k_If (by exact (s_seqE (s_ret (x_v (v := eB false) (by exact v_cB) (by exact (k_Ret ⟨⟨_, rfl⟩, kd_ret rfl⟩)))))) (by exact (s_nx (by exact (s_set (Rf.opt fun r_95 h_94 =>
  (by exact (x_v (v := eI ((9 + (r_95 % 4)))) (by exact (v_op2 (v_cI).l ((v_op2 ((v_op1 ((v_op2 ((v_var (i := 2) (by exact rfl))).l (v_cI).l (f_ixL (e := eI) h_94))).l f_int)).l (v_cI).l (f_mod (by decide)))).l f_add)) (by exact (k_SetN (E := eI) (fr' := fun great_96 => ([some (toD (eSc script_1)), some (toD (eI at_3)), some (toD ((eL eI) r_10)), some (toD ((eP2 eI (eL (eP2 eI eI))) s_14)), none, some (toD ((eL (eL eI)) r_23)), some (toD ((eP2 eS eY) r_27)), some (toD (eI r_46)), some (toD ((eL eI) s_64)), none, some (toD ((eL (eP2 eI eI)) eight_82)), some (toD ((eP2 eS eY) r_86)), some (toD (eI great_96)), none, none] : Fr)) (fun _ => rfl) (fun great_96 => (by exact (s_ifX (Rf.no fun r_98 h_97 =>
  (by exact (Rf.no fun r_100 h_99 =>
  (by exact (Rf.opt fun r_102 h_101 =>
  (by exact (Rf.no fun r_104 h_103 =>
  (by exact (x_vb (vb_not (vb_E (v_call (a := r_104) (E := eB) (rf_law_same (((eP2 eS eY) r_100)) (((eP2 eS eS) (((PySem.Str.ofString "TooMany"), r_102))))) h_103 rfl rfl (va_cons (v_call (a := r_100) (E := (eP2 eS eY)) (rf_law_told r_98.2) h_99 rfl rfl (va_cons (v_make (a := r_98) (rf_Net_init great_96 (((eL (eP2 eI eI)) ([(0, 1), (1, 0)])))) h_97 (va_cons (v_var (i := 12) (by exact rfl)) (va_cons (v_eq (w := eL (eP2 eI eI) [(0, 1), (1, 0)]) rfl (v_lst (va_cons (v_tup (va_cons v_cI (va_cons v_cI va_nil)) rfl) (va_cons (v_tup (va_cons v_cI (va_cons v_cI va_nil)) rfl) va_nil)) rfl)) va_nil))) va_nil)) (va_cons (v_tup (va_cons v_cS (va_cons (v_op1 (v_cS).l (f_repr h_101)) va_nil)) rfl) va_nil))))) (by exact (k_If (by exact (s_seqE (s_ret (x_v (v := eB false) (by exact v_cB) (by exact (k_Ret ⟨⟨_, rfl⟩, kd_ret rfl⟩)))))) (by exact (s_nx (by exact (s_end ⟨.inl rfl, rfl⟩))))))))))))))))))))))))))))))))))))))))))))))))))))))))))))) (fun x d fr h => ⟨_, _, rfl, ⟨d, rfl⟩, h⟩))))))))))))))))))))))))))))))))))))))))))))))))))))))))))))))))))))))))))))))) (fun s_6 => (by exact (s_ret (x_v (v := eB true) (by exact v_cB) (by exact (k_Ret (kd_ret rfl))))))) (fun x d fr h => ⟨_, _, rfl, h⟩))))))))
theorem law_of {ns : List Int} (h : T_law ns = .ok true) : ∃ outs, fn_law [.scr ns] = .ok (.bl true) outs := by
  have q := rf_law ns
  rw [h] at q
  obtain ⟨d, outs, e, rfl, _⟩ := q
  exact ⟨outs, e⟩
end Lk33
namespace Lk33
open PySem PySem.Spec L2 KS PyProof.Rows
def main_body : List Stmt := PySem.Challenge.pw_keptandsaid_k33_lots_of_friends.main.body
def st_law_numbers : Stmt := (main_body.getD 44 (.Pass ⟨0, 0, 0, 0⟩))
def st_law_order : Stmt := (main_body.getD 46 (.Pass ⟨0, 0, 0, 0⟩))
def st_law_ring_of_five : Stmt := (main_body.getD 47 (.Pass ⟨0, 0, 0, 0⟩))
def st_law_net : Stmt := (main_body.getD 48 (.Pass ⟨0, 0, 0, 0⟩))
def st_law_knows : Stmt := (main_body.getD 49 (.Pass ⟨0, 0, 0, 0⟩))
def st_check_size : Stmt := (main_body.getD 38 (.Pass ⟨0, 0, 0, 0⟩))
def st_lot_of : Stmt := (main_body.getD 39 (.Pass ⟨0, 0, 0, 0⟩))
def st_are_friends : Stmt := (main_body.getD 41 (.Pass ⟨0, 0, 0, 0⟩))
def st_least_place : Stmt := (main_body.getD 40 (.Pass ⟨0, 0, 0, 0⟩))
def st_friend_lots : Stmt := (main_body.getD 42 (.Pass ⟨0, 0, 0, 0⟩))
def st_law_kinds : Stmt := (main_body.getD 51 (.Pass ⟨0, 0, 0, 0⟩))
def st_law_told : Stmt := (main_body.getD 52 (.Pass ⟨0, 0, 0, 0⟩))
def st_law_fewest : Stmt := (main_body.getD 54 (.Pass ⟨0, 0, 0, 0⟩))
def st_is_below : Stmt := (main_body.getD 32 (.Pass ⟨0, 0, 0, 0⟩))
def st_first_wrong_arc : Stmt := (main_body.getD 34 (.Pass ⟨0, 0, 0, 0⟩))
def st_Net_init : Stmt := (inClass (main_body.getD 35 (.Pass ⟨0, 0, 0, 0⟩)) 0)
def st_law_same : Stmt := (main_body.getD 45 (.Pass ⟨0, 0, 0, 0⟩))
def st_law_are_friends : Stmt := (main_body.getD 53 (.Pass ⟨0, 0, 0, 0⟩))
def st_law_lots : Stmt := (main_body.getD 50 (.Pass ⟨0, 0, 0, 0⟩))
def st_law : Stmt := (main_body.getD 55 (.Pass ⟨0, 0, 0, 0⟩))
def st_xTooMany : Stmt := (inClass (main_body.getD 16 (.Pass ⟨0, 0, 0, 0⟩)) 0)
def st_xInvalidNet : Stmt := (inClass (main_body.getD 6 (.Pass ⟨0, 0, 0, 0⟩)) 0)
structure Txt (G : SE) where
  f_law_numbers : Addr
  fd_law_numbers : FuncData
  f_law_order : Addr
  fd_law_order : FuncData
  f_law_ring_of_five : Addr
  fd_law_ring_of_five : FuncData
  f_law_net : Addr
  fd_law_net : FuncData
  f_law_knows : Addr
  fd_law_knows : FuncData
  f_check_size : Addr
  fd_check_size : FuncData
  f_lot_of : Addr
  fd_lot_of : FuncData
  f_are_friends : Addr
  fd_are_friends : FuncData
  f_least_place : Addr
  fd_least_place : FuncData
  f_friend_lots : Addr
  fd_friend_lots : FuncData
  f_law_kinds : Addr
  fd_law_kinds : FuncData
  f_law_told : Addr
  fd_law_told : FuncData
  f_law_fewest : Addr
  fd_law_fewest : FuncData
  f_is_below : Addr
  fd_is_below : FuncData
  f_first_wrong_arc : Addr
  fd_first_wrong_arc : FuncData
  f_Net_init : Addr
  fd_Net_init : FuncData
  f_law_same : Addr
  fd_law_same : FuncData
  f_law_are_friends : Addr
  fd_law_are_friends : FuncData
  f_law_lots : Addr
  fd_law_lots : FuncData
  f_law : Addr
  fd_law : FuncData
  of_TooMany : Addr
  od_TooMany : FuncData
  of_InvalidNet : Addr
  od_InvalidNet : FuncData
  oa_SayError : Addr
  oa_TooMany : Addr
  oa_InvalidAudience : Addr
  oa_InvalidDeed : Addr
  oa_InvalidLine : Addr
  oa_InvalidLosses : Addr
  oa_InvalidLot : Addr
  oa_InvalidMatrix : Addr
  oa_InvalidNet : Addr
  oa_InvalidNumber : Addr
  oa_InvalidSignals : Addr
  oa_InvalidText : Addr
  oa_InvalidWord : Addr
  oa_InvalidWords : Addr
  oa_NothingToUndo : Addr
  oa_Undefined : Addr
  oa_UnknownWord : Addr
  F_law_numbers : Fun G.K (PySem.Str.ofString "_law_numbers") (PySem.Str.ofString "_law_numbers") st_law_numbers f_law_numbers fd_law_numbers
  b_law_numbers : Binds G.K fd_law_numbers [(PySem.Str.ofString "_law_cell"), (PySem.Str.ofString "_law_at"), (PySem.Str.ofString "_law_many")] []
  m_law_numbers : G.mg (PySem.Str.ofString "_law_numbers") = some (.ref f_law_numbers)
  F_law_order : Fun G.K (PySem.Str.ofString "_law_order") (PySem.Str.ofString "_law_order") st_law_order f_law_order fd_law_order
  b_law_order : Binds G.K fd_law_order [(PySem.Str.ofString "_law_numbers_here"), (PySem.Str.ofString "_law_k"), (PySem.Str.ofString "_law_size")] []
  m_law_order : G.mg (PySem.Str.ofString "_law_order") = some (.ref f_law_order)
  F_law_ring_of_five : Fun G.K (PySem.Str.ofString "_law_ring_of_five") (PySem.Str.ofString "_law_ring_of_five") st_law_ring_of_five f_law_ring_of_five fd_law_ring_of_five
  b_law_ring_of_five : Binds G.K fd_law_ring_of_five [(PySem.Str.ofString "_law_numbers_here"), (PySem.Str.ofString "_law_k")] []
  m_law_ring_of_five : G.mg (PySem.Str.ofString "_law_ring_of_five") = some (.ref f_law_ring_of_five)
  F_law_net : Fun G.K (PySem.Str.ofString "_law_net") (PySem.Str.ofString "_law_net") st_law_net f_law_net fd_law_net
  b_law_net : Binds G.K fd_law_net [(PySem.Str.ofString "_law_numbers_here"), (PySem.Str.ofString "_law_k"), (PySem.Str.ofString "_law_most")] []
  m_law_net : G.mg (PySem.Str.ofString "_law_net") = some (.ref f_law_net)
  F_law_knows : Fun G.K (PySem.Str.ofString "_law_knows") (PySem.Str.ofString "_law_knows") st_law_knows f_law_knows fd_law_knows
  b_law_knows : Binds G.K fd_law_knows [(PySem.Str.ofString "_law_net_here")] []
  m_law_knows : G.mg (PySem.Str.ofString "_law_knows") = some (.ref f_law_knows)
  F_check_size : Fun G.K (PySem.Str.ofString "check_size") (PySem.Str.ofString "check_size") st_check_size f_check_size fd_check_size
  b_check_size : Binds G.K fd_check_size [(PySem.Str.ofString "net")] []
  m_check_size : G.mg (PySem.Str.ofString "check_size") = some (.ref f_check_size)
  F_lot_of : Fun G.K (PySem.Str.ofString "lot_of") (PySem.Str.ofString "lot_of") st_lot_of f_lot_of fd_lot_of
  b_lot_of : Binds G.K fd_lot_of [(PySem.Str.ofString "bits"), (PySem.Str.ofString "size")] []
  m_lot_of : G.mg (PySem.Str.ofString "lot_of") = some (.ref f_lot_of)
  F_are_friends : Fun G.K (PySem.Str.ofString "are_friends") (PySem.Str.ofString "are_friends") st_are_friends f_are_friends fd_are_friends
  b_are_friends : Binds G.K fd_are_friends [(PySem.Str.ofString "net"), (PySem.Str.ofString "lot")] []
  m_are_friends : G.mg (PySem.Str.ofString "are_friends") = some (.ref f_are_friends)
  F_least_place : Fun G.K (PySem.Str.ofString "least_place") (PySem.Str.ofString "least_place") st_least_place f_least_place fd_least_place
  b_least_place : Binds G.K fd_least_place [(PySem.Str.ofString "bits"), (PySem.Str.ofString "size")] []
  m_least_place : G.mg (PySem.Str.ofString "least_place") = some (.ref f_least_place)
  F_friend_lots : Fun G.K (PySem.Str.ofString "friend_lots") (PySem.Str.ofString "friend_lots") st_friend_lots f_friend_lots fd_friend_lots
  b_friend_lots : Binds G.K fd_friend_lots [(PySem.Str.ofString "net")] []
  m_friend_lots : G.mg (PySem.Str.ofString "friend_lots") = some (.ref f_friend_lots)
  F_law_kinds : Fun G.K (PySem.Str.ofString "_law_kinds") (PySem.Str.ofString "_law_kinds") st_law_kinds f_law_kinds fd_law_kinds
  b_law_kinds : Binds G.K fd_law_kinds [(PySem.Str.ofString "_law_e")] []
  m_law_kinds : G.mg (PySem.Str.ofString "_law_kinds") = some (.ref f_law_kinds)
  F_law_told : Fun G.K (PySem.Str.ofString "_law_told") (PySem.Str.ofString "_law_told") st_law_told f_law_told fd_law_told
  b_law_told : Binds G.K fd_law_told [(PySem.Str.ofString "_law_net_here")] []
  m_law_told : G.mg (PySem.Str.ofString "_law_told") = some (.ref f_law_told)
  F_law_fewest : Fun G.K (PySem.Str.ofString "_law_fewest") (PySem.Str.ofString "_law_fewest") st_law_fewest f_law_fewest fd_law_fewest
  b_law_fewest : Binds G.K fd_law_fewest [(PySem.Str.ofString "_law_fits")] []
  m_law_fewest : G.mg (PySem.Str.ofString "_law_fewest") = some (.ref f_law_fewest)
  F_is_below : Fun G.K (PySem.Str.ofString "is_below") (PySem.Str.ofString "is_below") st_is_below f_is_below fd_is_below
  b_is_below : Binds G.K fd_is_below [(PySem.Str.ofString "value"), (PySem.Str.ofString "many")] []
  m_is_below : G.mg (PySem.Str.ofString "is_below") = some (.ref f_is_below)
  F_first_wrong_arc : Fun G.K (PySem.Str.ofString "first_wrong_arc") (PySem.Str.ofString "first_wrong_arc") st_first_wrong_arc f_first_wrong_arc fd_first_wrong_arc
  b_first_wrong_arc : Binds G.K fd_first_wrong_arc [(PySem.Str.ofString "size"), (PySem.Str.ofString "arcs")] []
  m_first_wrong_arc : G.mg (PySem.Str.ofString "first_wrong_arc") = some (.ref f_first_wrong_arc)
  F_Net_init : Fun G.K (PySem.Str.ofString "__init__") (PySem.Str.ofString "Net.__init__") st_Net_init f_Net_init fd_Net_init
  b_Net_init : Binds G.K fd_Net_init [(PySem.Str.ofString "self"), (PySem.Str.ofString "size"), (PySem.Str.ofString "arcs")] []
  F_law_same : Fun G.K (PySem.Str.ofString "_law_same") (PySem.Str.ofString "_law_same") st_law_same f_law_same fd_law_same
  b_law_same : Binds G.K fd_law_same [(PySem.Str.ofString "_law_actual"), (PySem.Str.ofString "_law_expected")] []
  m_law_same : G.mg (PySem.Str.ofString "_law_same") = some (.ref f_law_same)
  F_law_are_friends : Fun G.K (PySem.Str.ofString "_law_are_friends") (PySem.Str.ofString "_law_are_friends") st_law_are_friends f_law_are_friends fd_law_are_friends
  b_law_are_friends : Binds G.K fd_law_are_friends [(PySem.Str.ofString "_law_knows_here"), (PySem.Str.ofString "_law_lot")] []
  m_law_are_friends : G.mg (PySem.Str.ofString "_law_are_friends") = some (.ref f_law_are_friends)
  F_law_lots : Fun G.K (PySem.Str.ofString "_law_lots") (PySem.Str.ofString "_law_lots") st_law_lots f_law_lots fd_law_lots
  b_law_lots : Binds G.K fd_law_lots [(PySem.Str.ofString "_law_size")] []
  m_law_lots : G.mg (PySem.Str.ofString "_law_lots") = some (.ref f_law_lots)
  F_law : Fun G.K (PySem.Str.ofString "law") (PySem.Str.ofString "law") st_law f_law fd_law
  b_law : Binds G.K fd_law [(PySem.Str.ofString "_law_script")] []
  m_law : G.mg (PySem.Str.ofString "law") = some (.ref f_law)
  n_ValueError : G.mg (PySem.Str.ofString "ValueError") = none
  n_abs : G.mg (PySem.Str.ofString "abs") = none
  n_all : G.mg (PySem.Str.ofString "all") = none
  n_bool : G.mg (PySem.Str.ofString "bool") = none
  n_enumerate : G.mg (PySem.Str.ofString "enumerate") = none
  n_int : G.mg (PySem.Str.ofString "int") = none
  n_isinstance : G.mg (PySem.Str.ofString "isinstance") = none
  n_len : G.mg (PySem.Str.ofString "len") = none
  n_list : G.mg (PySem.Str.ofString "list") = none
  n_min : G.mg (PySem.Str.ofString "min") = none
  n_range : G.mg (PySem.Str.ofString "range") = none
  n_repr : G.mg (PySem.Str.ofString "repr") = none
  n_sorted : G.mg (PySem.Str.ofString "sorted") = none
  n_str : G.mg (PySem.Str.ofString "str") = none
  n_tuple : G.mg (PySem.Str.ofString "tuple") = none
  c_MOST_PLACES_netbounds : ∃ u, G.mg (PySem.Str.ofString "MOST_PLACES_netbounds") = some u ∧ RelV (.int 8) u
  c_MOST_PLACES_nets : ∃ u, G.mg (PySem.Str.ofString "MOST_PLACES_nets") = some u ∧ RelV (.int 12) u
  m_Net : G.mg (PySem.Str.ofString "Net") = some (.ref (G.cls 0))
  cl_Net : Cls G.K (G.cls 0)
  mk_Net : Mk G.K (G.cls 0) f_Net_init
  kc_Net : ∀ c b, kc_Net c = some b → C8.InsC G.K (G.cls c) ∧ PySem.W.kitOne G.K (.ref (G.cls c)) (.ref (G.cls 0)) = some b
  fx_size : (PySem.Str.ofString "size") = G.fld 0
  inj_size : ∀ m, G.fld m = G.fld 0 → m = 0
  fc_size : ∀ c ∈ ([0] : List Nat), Cls G.K (G.cls c) ∧ NoAttr G.K (G.cls c) (PySem.Str.ofString "size")
  f1_Net_size : ∀ c ∈ ([0] : List Nat), Cls G.K (G.cls c) ∧ NoAttr G.K (G.cls c) (PySem.Str.ofString "size")
  fx_arcs : (PySem.Str.ofString "arcs") = G.fld 1
  inj_arcs : ∀ m, G.fld m = G.fld 1 → m = 1
  fc_arcs : ∀ c ∈ ([0] : List Nat), Cls G.K (G.cls c) ∧ NoAttr G.K (G.cls c) (PySem.Str.ofString "arcs")
  f1_Net_arcs : ∀ c ∈ ([0] : List Nat), Cls G.K (G.cls c) ∧ NoAttr G.K (G.cls c) (PySem.Str.ofString "arcs")
  fx_knows : (PySem.Str.ofString "knows") = G.fld 2
  inj_knows : ∀ m, G.fld m = G.fld 2 → m = 2
  fc_knows : ∀ c ∈ ([0] : List Nat), Cls G.K (G.cls c) ∧ NoAttr G.K (G.cls c) (PySem.Str.ofString "knows")
  f1_Net_knows : ∀ c ∈ ([0] : List Nat), Cls G.K (G.cls c) ∧ NoAttr G.K (G.cls c) (PySem.Str.ofString "knows")
  ox_TooMany : OexC G.K (G.ecls 0)
  oi_TooMany : PySem.W.findIn G.K (.ref (G.ecls 0)) (PySem.Str.ofString "__init__") = some (some (.ref of_TooMany))
  ot_TooMany : PySem.W.typeIn G.K (.ref of_TooMany) = some (.type "function")
  oF_TooMany : Fun G.K (PySem.Str.ofString "__init__") (PySem.Str.ofString "TooMany.__init__") st_xTooMany of_TooMany od_TooMany
  ob_TooMany : Binds G.K od_TooMany [(PySem.Str.ofString "self"), (PySem.Str.ofString "what")] []
  om_TooMany : G.mg (PySem.Str.ofString "TooMany") = some (.ref (G.ecls 0))
  oe_TooMany : G.efld 0 = [(PySem.Str.ofString "what")]
  on_TooMany : ∀ n ∈ ([(PySem.Str.ofString "what")] : List Str), PySem.W.findIn G.K (.ref (G.ecls 0)) n = some none
  ox_InvalidNet : OexC G.K (G.ecls 1)
  oi_InvalidNet : PySem.W.findIn G.K (.ref (G.ecls 1)) (PySem.Str.ofString "__init__") = some (some (.ref of_InvalidNet))
  ot_InvalidNet : PySem.W.typeIn G.K (.ref of_InvalidNet) = some (.type "function")
  oF_InvalidNet : Fun G.K (PySem.Str.ofString "__init__") (PySem.Str.ofString "InvalidNet.__init__") st_xInvalidNet of_InvalidNet od_InvalidNet
  ob_InvalidNet : Binds G.K od_InvalidNet [(PySem.Str.ofString "self"), (PySem.Str.ofString "part"), (PySem.Str.ofString "place")] []
  om_InvalidNet : G.mg (PySem.Str.ofString "InvalidNet") = some (.ref (G.ecls 1))
  oe_InvalidNet : G.efld 1 = [(PySem.Str.ofString "part"), (PySem.Str.ofString "place")]
  on_InvalidNet : ∀ n ∈ ([(PySem.Str.ofString "part"), (PySem.Str.ofString "place")] : List Str), PySem.W.findIn G.K (.ref (G.ecls 1)) n = some none
  oy_SayError : G.mg (PySem.Str.ofString "SayError") = some (.ref oa_SayError)
  oy_TooMany : G.mg (PySem.Str.ofString "TooMany") = some (.ref oa_TooMany)
  oy_InvalidAudience : G.mg (PySem.Str.ofString "InvalidAudience") = some (.ref oa_InvalidAudience)
  oy_InvalidDeed : G.mg (PySem.Str.ofString "InvalidDeed") = some (.ref oa_InvalidDeed)
  oy_InvalidLine : G.mg (PySem.Str.ofString "InvalidLine") = some (.ref oa_InvalidLine)
  oy_InvalidLosses : G.mg (PySem.Str.ofString "InvalidLosses") = some (.ref oa_InvalidLosses)
  oy_InvalidLot : G.mg (PySem.Str.ofString "InvalidLot") = some (.ref oa_InvalidLot)
  oy_InvalidMatrix : G.mg (PySem.Str.ofString "InvalidMatrix") = some (.ref oa_InvalidMatrix)
  oy_InvalidNet : G.mg (PySem.Str.ofString "InvalidNet") = some (.ref oa_InvalidNet)
  oy_InvalidNumber : G.mg (PySem.Str.ofString "InvalidNumber") = some (.ref oa_InvalidNumber)
  oy_InvalidSignals : G.mg (PySem.Str.ofString "InvalidSignals") = some (.ref oa_InvalidSignals)
  oy_InvalidText : G.mg (PySem.Str.ofString "InvalidText") = some (.ref oa_InvalidText)
  oy_InvalidWord : G.mg (PySem.Str.ofString "InvalidWord") = some (.ref oa_InvalidWord)
  oy_InvalidWords : G.mg (PySem.Str.ofString "InvalidWords") = some (.ref oa_InvalidWords)
  oy_NothingToUndo : G.mg (PySem.Str.ofString "NothingToUndo") = some (.ref oa_NothingToUndo)
  oy_Undefined : G.mg (PySem.Str.ofString "Undefined") = some (.ref oa_Undefined)
  oy_UnknownWord : G.mg (PySem.Str.ofString "UnknownWord") = some (.ref oa_UnknownWord)
  oh_SayError : ∀ c, c < 2 → PySem.W.exmOne G.K (.ref (G.ecls c)) (.ref oa_SayError) = some (tI_SayError c)
  oi1_TooMany : ∀ c, c < 2 → ExcC G.K (G.ecls c) ∧ PySem.W.kitOne G.K (.ref (G.ecls c)) (.ref oa_TooMany) = some (tI_TooMany c)
  oj_0 : ∀ c, c < 2 → ExcC G.K (G.ecls c) ∧ PySem.W.kitAny G.K (.ref (G.ecls c)) [.ref oa_InvalidAudience, .ref oa_InvalidDeed, .ref oa_InvalidLine, .ref oa_InvalidLosses, .ref oa_InvalidLot] = some (tJ_0 c)
  oj_1 : ∀ c, c < 2 → ExcC G.K (G.ecls c) ∧ PySem.W.kitAny G.K (.ref (G.ecls c)) [.ref oa_InvalidMatrix, .ref oa_InvalidNet, .ref oa_InvalidNumber, .ref oa_InvalidSignals, .ref oa_InvalidText] = some (tJ_1 c)
  oj_2 : ∀ c, c < 2 → ExcC G.K (G.ecls c) ∧ PySem.W.kitAny G.K (.ref (G.ecls c)) [.ref oa_InvalidWord, .ref oa_InvalidWords, .ref oa_NothingToUndo, .ref oa_Undefined, .ref oa_UnknownWord] = some (tJ_2 c)
  ob1_ValueError : ∀ c, c < 2 → ExcC G.K (G.ecls c) ∧ PySem.W.kitOne G.K (.ref (G.ecls c)) (.type "ValueError") = some (tB_ValueError c)
  xg_what : ∀ c j, c < 2 → xf_what c = some j → (G.efld c)[j]? = some (PySem.Str.ofString "what") ∧ XfC G.K (G.ecls c) ∧ PySem.W.findIn G.K (.ref (G.ecls c)) (PySem.Str.ofString "what") = some none
section
variable {G : SE}
theorem sc_xTooMany : FnScope [(PySem.Str.ofString "self"), (PySem.Str.ofString "what")] [(PySem.Str.ofString "self"), (PySem.Str.ofString "what")] (defScope st_xTooMany) := ⟨rfl, rfl, rfl, by decide +kernel, rfl, by decide +kernel, by decide +kernel⟩
theorem Txt.ok_TooMany (T : Txt G) : FnOk G.P G.w G.K G.mg G.base (L2N.CX G.P G.w) 1 T.of_TooMany T.od_TooMany [(PySem.Str.ofString "self"), (PySem.Str.ofString "what")] (oexSp (G.ecls 0) (G.efld 0)) := by
  rw [T.oe_TooMany]
  exact fn_oex 0 T.oF_TooMany sc_xTooMany rfl (by decide) T.ox_TooMany (by decide) (by decide) (by decide +kernel) T.on_TooMany fun cdv A outer s H E => (pss_cons (ps_ost (pe_var (i := 0) rfl (by first | exact Or.inl rfl | exact Or.inr (Or.inl rfl))) (pe_var (i := 1) rfl (by first | exact Or.inl rfl | exact Or.inr (Or.inl rfl)))) pss_nil)
theorem Txt.ol_TooMany (T : Txt G) : (G.efld 0).length = 1 := by rw [T.oe_TooMany]; rfl
theorem sc_xInvalidNet : FnScope [(PySem.Str.ofString "self"), (PySem.Str.ofString "part"), (PySem.Str.ofString "place")] [(PySem.Str.ofString "self"), (PySem.Str.ofString "part"), (PySem.Str.ofString "place")] (defScope st_xInvalidNet) := ⟨rfl, rfl, rfl, by decide +kernel, rfl, by decide +kernel, by decide +kernel⟩
theorem Txt.ok_InvalidNet (T : Txt G) : FnOk G.P G.w G.K G.mg G.base (L2N.CX G.P G.w) 1 T.of_InvalidNet T.od_InvalidNet [(PySem.Str.ofString "self"), (PySem.Str.ofString "part"), (PySem.Str.ofString "place")] (oexSp (G.ecls 1) (G.efld 1)) := by
  rw [T.oe_InvalidNet]
  exact fn_oex 0 T.oF_InvalidNet sc_xInvalidNet rfl (by decide) T.ox_InvalidNet (by decide) (by decide) (by decide +kernel) T.on_InvalidNet fun cdv A outer s H E => (pss_cons (ps_ost (pe_var (i := 0) rfl (by first | exact Or.inl rfl | exact Or.inr (Or.inl rfl))) (pe_var (i := 1) rfl (by first | exact Or.inl rfl | exact Or.inr (Or.inl rfl)))) (pss_cons (ps_ost (pe_var (i := 0) rfl (by first | exact Or.inl rfl | exact Or.inr (Or.inl rfl))) (pe_var (i := 2) rfl (by first | exact Or.inl rfl | exact Or.inr (Or.inl rfl)))) pss_nil))
theorem Txt.ol_InvalidNet (T : Txt G) : (G.efld 1).length = 2 := by rw [T.oe_InvalidNet]; rfl
theorem sc_law_numbers : FnScope [(PySem.Str.ofString "_law_cell"), (PySem.Str.ofString "_law_at"), (PySem.Str.ofString "_law_many"), (PySem.Str.ofString "_law_great"), (PySem.Str.ofString "_law_rest"), (PySem.Str.ofString "_law_numbers_here"), (PySem.Str.ofString "_law_k"), (PySem.Str.ofString "_law_mixed")] [(PySem.Str.ofString "_law_cell"), (PySem.Str.ofString "_law_at"), (PySem.Str.ofString "_law_many")] (defScope st_law_numbers) := ⟨rfl, rfl, rfl, by decide +kernel, rfl, by decide +kernel, by decide +kernel⟩
theorem ok_law_numbers (T : Txt G) : FnOk G.P G.w G.K G.mg G.base (L2N.CX G.P G.w) 1 T.f_law_numbers T.fd_law_numbers [(PySem.Str.ofString "_law_cell"), (PySem.Str.ofString "_law_at"), (PySem.Str.ofString "_law_many")] (spOf G [false, false, false] false fn_law_numbers) :=
  fnok_of (G := G) (M := [5]) T.F_law_numbers sc_law_numbers rfl (by decide) (.inl rfl) fun cdv A outer s H E io Hv hio hr =>
  (ss_cons (s_set (i := 3) (show ¬ 3 ∈ ([5] : List Nat) by decide) sc_law_numbers.nd (d_cmp ops_ge op_ge (d_b1 cas_abs call_abs T.n_abs (d_t1 cas_int call_intA T.n_int (d_var (i := 0) (show ¬ 0 ∈ ([5] : List Nat) by decide)))) (d_pow d_int d_int) rfl))
  (ss_cons (s_set (i := 4) (show ¬ 4 ∈ ([5] : List Nat) by decide) sc_law_numbers.nd (d_add (d_mul d_int (d_b1 cas_abs call_abs T.n_abs (d_t1 cas_int call_intA T.n_int (d_var (i := 0) (show ¬ 0 ∈ ([5] : List Nat) by decide))))) (d_t1 cas_int call_intA T.n_int (d_cmp (ops_ltA) (op_ltA (u0 hr)) (d_var (i := 0) (show ¬ 0 ∈ ([5] : List Nat) by decide)) d_int rfl))))
  (ss_cons (s_setF (i := 5) (show 5 ∈ ([5] : List Nat) by decide) (io_ne hio (by decide)) sc_law_numbers.nd (d_lst a_nil))
  (ss_cons (s_for (passes_of rfl) rfl (i_iK (io_not (js := [false, false, false, false, false, false, true, true]) hio rfl) (i_range1 (d_var (i := 2) (show ¬ 2 ∈ ([5] : List Nat) by decide)) T.n_range)) (g_name (i := 6) (show ¬ 6 ∈ ([5] : List Nat) by decide) sc_law_numbers.nd)
  (ss_sK (io_not (js := [false, false, false, false, false, false, true, true]) hio rfl) (ss_cons (s_if (dt_tru (d_var (i := 3) (show ¬ 3 ∈ ([5] : List Nat) by decide)))
  (ss_cons (s_expr (d_mut (i := 5) kd_lst tyV_lst mus_append mt_append F.plainAttrs_list F.slot_list_append F.type_list_append (show 5 ∈ ([5] : List Nat) by decide) (a_cons (d_mod (d_t1 cas_int call_intA T.n_int (d_var (i := 4) (show ¬ 4 ∈ ([5] : List Nat) by decide))) d_int) a_nil)))
  (ss_cons (s_set (i := 4) (show ¬ 4 ∈ ([5] : List Nat) by decide) sc_law_numbers.nd (d_fdiv (d_var (i := 4) (show ¬ 4 ∈ ([5] : List Nat) by decide)) d_int))
  ss_nil))
  (ss_cons (s_set (i := 7) (show ¬ 7 ∈ ([5] : List Nat) by decide) sc_law_numbers.nd (d_mod (d_t1 cas_int call_intA T.n_int (d_add (d_add (d_add (d_mul (d_var (i := 4) (show ¬ 4 ∈ ([5] : List Nat) by decide)) d_int) (d_mul (d_var (i := 1) (show ¬ 1 ∈ ([5] : List Nat) by decide)) d_int)) (d_mul (d_var (i := 6) (show ¬ 6 ∈ ([5] : List Nat) by decide)) d_int)) d_int)) d_int))
  (ss_cons (s_set (i := 7) (show ¬ 7 ∈ ([5] : List Nat) by decide) sc_law_numbers.nd (d_mod (d_t1 cas_int call_intA T.n_int (d_add (d_add (d_mul (d_var (i := 7) (show ¬ 7 ∈ ([5] : List Nat) by decide)) (d_var (i := 7) (show ¬ 7 ∈ ([5] : List Nat) by decide))) (d_mul (d_var (i := 6) (show ¬ 6 ∈ ([5] : List Nat) by decide)) d_int)) d_int)) d_int))
  (ss_cons (s_set (i := 7) (show ¬ 7 ∈ ([5] : List Nat) by decide) sc_law_numbers.nd (d_mod (d_t1 cas_int call_intA T.n_int (d_add (d_add (d_mul (d_var (i := 7) (show ¬ 7 ∈ ([5] : List Nat) by decide)) (d_var (i := 7) (show ¬ 7 ∈ ([5] : List Nat) by decide))) (d_mul (d_var (i := 1) (show ¬ 1 ∈ ([5] : List Nat) by decide)) d_int)) d_int)) d_int))
  (ss_cons (s_expr (d_mut (i := 5) kd_lst tyV_lst mus_append mt_append F.plainAttrs_list F.slot_list_append F.type_list_append (show 5 ∈ ([5] : List Nat) by decide) (a_cons (d_mod (d_t1 cas_int call_intA T.n_int (d_fdiv (d_var (i := 7) (show ¬ 7 ∈ ([5] : List Nat) by decide)) d_int)) d_int) a_nil)))
  ss_nil)))))
  ss_nil)))
  (ss_cons (s_ret rfl (d_fz (i := 5) (show 5 ∈ ([5] : List Nat) by decide) (io_ne hio (by decide))))
  ss_nil)))))
theorem sc_law_order : FnScope [(PySem.Str.ofString "_law_numbers_here"), (PySem.Str.ofString "_law_k"), (PySem.Str.ofString "_law_size"), (PySem.Str.ofString "_law_order_here"), (PySem.Str.ofString "_law_i")] [(PySem.Str.ofString "_law_numbers_here"), (PySem.Str.ofString "_law_k"), (PySem.Str.ofString "_law_size")] (defScope st_law_order) := ⟨rfl, rfl, rfl, by decide +kernel, rfl, by decide +kernel, by decide +kernel⟩
theorem ok_law_order (T : Txt G) : FnOk G.P G.w G.K G.mg G.base (L2N.CX G.P G.w) 1 T.f_law_order T.fd_law_order [(PySem.Str.ofString "_law_numbers_here"), (PySem.Str.ofString "_law_k"), (PySem.Str.ofString "_law_size")] (spOf G [false, false, false] false fn_law_order) :=
  fnok_of (G := G) (M := [3]) T.F_law_order sc_law_order rfl (by decide) (.inl rfl) fun cdv A outer s H E io Hv hio hr =>
  (ss_cons (s_setF (i := 3) (show 3 ∈ ([3] : List Nat) by decide) (io_ne hio (by decide)) sc_law_order.nd (d_lst a_nil))
  (ss_cons (s_for (passes_of rfl) rfl (i_iK (io_not (js := [false, false, false, false, true]) hio rfl) (i_range1 (d_var (i := 2) (show ¬ 2 ∈ ([3] : List Nat) by decide)) T.n_range)) (g_name (i := 4) (show ¬ 4 ∈ ([3] : List Nat) by decide) sc_law_order.nd)
  (ss_sK (io_not (js := [false, false, false, false, true]) hio rfl) (ss_cons (s_expr (d_mut (i := 3) kd_lst tyV_lst mus_insert mt_insert F.plainAttrs_list F.slot_list_insert F.type_list_insert (show 3 ∈ ([3] : List Nat) by decide) (a_cons (d_mod (d_t1 cas_int call_intA T.n_int (d_ix (d_var (i := 0) (show ¬ 0 ∈ ([3] : List Nat) by decide)) (d_add (d_var (i := 1) (show ¬ 1 ∈ ([3] : List Nat) by decide)) (d_var (i := 4) (show ¬ 4 ∈ ([3] : List Nat) by decide))))) (d_add (d_var (i := 4) (show ¬ 4 ∈ ([3] : List Nat) by decide)) d_int)) (a_cons (d_var (i := 4) (show ¬ 4 ∈ ([3] : List Nat) by decide)) a_nil))))
  ss_nil)))
  (ss_cons (s_ret rfl (d_fz (i := 3) (show 3 ∈ ([3] : List Nat) by decide) (io_ne hio (by decide))))
  ss_nil)))
theorem sc_law_ring_of_five : FnScope [(PySem.Str.ofString "_law_numbers_here"), (PySem.Str.ofString "_law_k"), (PySem.Str.ofString "_law_order_here"), (PySem.Str.ofString "_law_arcs"), (PySem.Str.ofString "_law_i"), (PySem.Str.ofString "_law_j"), (PySem.Str.ofString "_law_arc")] [(PySem.Str.ofString "_law_numbers_here"), (PySem.Str.ofString "_law_k")] (defScope st_law_ring_of_five) := ⟨rfl, rfl, rfl, by decide +kernel, rfl, by decide +kernel, by decide +kernel⟩
theorem ok_law_ring_of_five (T : Txt G) : FnOk G.P G.w G.K G.mg G.base (L2N.CX G.P G.w) 2 T.f_law_ring_of_five T.fd_law_ring_of_five [(PySem.Str.ofString "_law_numbers_here"), (PySem.Str.ofString "_law_k")] (spOf G [false, false] false fn_law_ring_of_five) :=
  fnok_of (G := G) (M := [3]) T.F_law_ring_of_five sc_law_ring_of_five rfl (by decide) (.inl rfl) fun cdv A outer s H E io Hv hio hr =>
  (ss_cons (s_set (i := 2) (show ¬ 2 ∈ ([3] : List Nat) by decide) sc_law_ring_of_five.nd (d_call (ok_law_order T) (hr.mono (by decide)) T.m_law_order T.F_law_order.kp T.b_law_order (fun σ => L2N.passAt (L2N.takes_of rfl rfl rfl rfl) σ) (a_cons (d_var (i := 0) (show ¬ 0 ∈ ([3] : List Nat) by decide)) (a_cons (d_var (i := 1) (show ¬ 1 ∈ ([3] : List Nat) by decide)) (a_cons d_int a_nil)))))
  (ss_cons (s_setF (i := 3) (show 3 ∈ ([3] : List Nat) by decide) (io_ne hio (by decide)) sc_law_ring_of_five.nd (d_lst a_nil))
  (ss_cons (s_for (passes_of rfl) rfl (i_iK (io_not (js := [false, false, false, false, true, false, false]) hio rfl) (i_range1 d_int T.n_range)) (g_name (i := 4) (show ¬ 4 ∈ ([3] : List Nat) by decide) sc_law_ring_of_five.nd)
  (ss_sK (io_not (js := [false, false, false, false, true, false, false]) hio rfl) (ss_cons (s_expr (d_mut (i := 3) kd_lst tyV_lst mus_append mt_append F.plainAttrs_list F.slot_list_append F.type_list_append (show 3 ∈ ([3] : List Nat) by decide) (a_cons (d_tup (a_cons (d_ix (d_var (i := 2) (show ¬ 2 ∈ ([3] : List Nat) by decide)) (d_var (i := 4) (show ¬ 4 ∈ ([3] : List Nat) by decide))) (a_cons (d_ix (d_var (i := 2) (show ¬ 2 ∈ ([3] : List Nat) by decide)) (d_mod (d_t1 cas_int call_intA T.n_int (d_add (d_var (i := 4) (show ¬ 4 ∈ ([3] : List Nat) by decide)) d_int)) d_int)) a_nil))) a_nil)))
  (ss_cons (s_expr (d_mut (i := 3) kd_lst tyV_lst mus_append mt_append F.plainAttrs_list F.slot_list_append F.type_list_append (show 3 ∈ ([3] : List Nat) by decide) (a_cons (d_tup (a_cons (d_ix (d_var (i := 2) (show ¬ 2 ∈ ([3] : List Nat) by decide)) (d_mod (d_t1 cas_int call_intA T.n_int (d_add (d_var (i := 4) (show ¬ 4 ∈ ([3] : List Nat) by decide)) d_int)) d_int)) (a_cons (d_ix (d_var (i := 2) (show ¬ 2 ∈ ([3] : List Nat) by decide)) (d_var (i := 4) (show ¬ 4 ∈ ([3] : List Nat) by decide))) a_nil))) a_nil)))
  ss_nil))))
  (ss_cons (s_for (passes_of rfl) rfl (i_iK (io_not (js := [false, false, false, false, true, true, true]) hio rfl) (i_range1 (d_mod (d_t1 cas_int call_intA T.n_int (d_ix (d_var (i := 0) (show ¬ 0 ∈ ([3] : List Nat) by decide)) (d_add (d_var (i := 1) (show ¬ 1 ∈ ([3] : List Nat) by decide)) d_int))) d_int) T.n_range)) (g_name (i := 5) (show ¬ 5 ∈ ([3] : List Nat) by decide) sc_law_ring_of_five.nd)
  (ss_sK (io_not (js := [false, false, false, false, true, true, true]) hio rfl) (ss_cons (s_set (i := 4) (show ¬ 4 ∈ ([3] : List Nat) by decide) sc_law_ring_of_five.nd (d_mod (d_t1 cas_int call_intA T.n_int (d_ix (d_var (i := 0) (show ¬ 0 ∈ ([3] : List Nat) by decide)) (d_add (d_add (d_var (i := 1) (show ¬ 1 ∈ ([3] : List Nat) by decide)) d_int) (d_var (i := 5) (show ¬ 5 ∈ ([3] : List Nat) by decide))))) d_int))
  (ss_cons (s_set (i := 6) (show ¬ 6 ∈ ([3] : List Nat) by decide) sc_law_ring_of_five.nd (d_tup (a_cons (d_var (i := 4) (show ¬ 4 ∈ ([3] : List Nat) by decide)) (a_cons (d_mod (d_t1 cas_int call_intA T.n_int (d_add (d_add (d_var (i := 4) (show ¬ 4 ∈ ([3] : List Nat) by decide)) d_int) (d_mod (d_t1 cas_int call_intA T.n_int (d_fdiv (d_ix (d_var (i := 0) (show ¬ 0 ∈ ([3] : List Nat) by decide)) (d_add (d_add (d_var (i := 1) (show ¬ 1 ∈ ([3] : List Nat) by decide)) d_int) (d_var (i := 5) (show ¬ 5 ∈ ([3] : List Nat) by decide)))) d_int)) d_int))) d_int) a_nil))))
  (ss_cons (s_if (dt_cmp (ops_inA2) (op_inA2 (u65 hr)) (d_var (i := 6) (show ¬ 6 ∈ ([3] : List Nat) by decide)) (d_pl (i := 3) (show 3 ∈ ([3] : List Nat) by decide)) rfl)
  (ss_cons (s_expr (d_mut (i := 3) kd_lst tyV_lst (mus_remove rfl) (mt_removeD (u65 hr)) F.plainAttrs_list F.slot_list_remove F.type_list_remove (show 3 ∈ ([3] : List Nat) by decide) (a_cons (d_var (i := 6) (show ¬ 6 ∈ ([3] : List Nat) by decide)) a_nil)))
  ss_nil)
  (ss_cons (s_expr (d_mut (i := 3) kd_lst tyV_lst mus_append mt_append F.plainAttrs_list F.slot_list_append F.type_list_append (show 3 ∈ ([3] : List Nat) by decide) (a_cons (d_var (i := 6) (show ¬ 6 ∈ ([3] : List Nat) by decide)) a_nil)))
  ss_nil))
  ss_nil)))))
  (ss_cons (s_ret rfl (d_tup (a_cons d_int (a_cons (DF.de (d_b1F (caf_sort rfl) (cr_sortA (u16 hr)) T.n_sorted (d_pl (i := 3) (show 3 ∈ ([3] : List Nat) by decide)))) a_nil))))
  ss_nil)))))
theorem sc_law_net : FnScope [(PySem.Str.ofString "_law_numbers_here"), (PySem.Str.ofString "_law_k"), (PySem.Str.ofString "_law_most"), (PySem.Str.ofString "_law_size"), (PySem.Str.ofString "_law_arcs"), (PySem.Str.ofString "_law_at"), (PySem.Str.ofString "_law_i"), (PySem.Str.ofString "_law_j"), (PySem.Str.ofString "_law_seed")] [(PySem.Str.ofString "_law_numbers_here"), (PySem.Str.ofString "_law_k"), (PySem.Str.ofString "_law_most")] (defScope st_law_net) := ⟨rfl, rfl, rfl, by decide +kernel, rfl, by decide +kernel, by decide +kernel⟩
theorem ok_law_net (T : Txt G) : FnOk G.P G.w G.K G.mg G.base (L2N.CX G.P G.w) 3 T.f_law_net T.fd_law_net [(PySem.Str.ofString "_law_numbers_here"), (PySem.Str.ofString "_law_k"), (PySem.Str.ofString "_law_most")] (spOf G [false, false, false] false fn_law_net) :=
  fnok_of (G := G) (M := [4]) T.F_law_net sc_law_net rfl (by decide) (.inl rfl) fun cdv A outer s H E io Hv hio hr =>
  (ss_cons (s_if (DW.dt (dw_and (dt_cmp ops_gt op_gt (d_var (i := 2) (show ¬ 2 ∈ ([4] : List Nat) by decide)) d_int rfl) (dw_and1 (dt_cmp (ops_eqA) (op_eqA (u64 hr)) (d_mod (d_t1 cas_int call_intA T.n_int (d_ix (d_var (i := 0) (show ¬ 0 ∈ ([4] : List Nat) by decide)) (d_var (i := 1) (show ¬ 1 ∈ ([4] : List Nat) by decide)))) d_int) d_int rfl))))
  (ss_cons (s_ret rfl (d_call (ok_law_ring_of_five T) (hr.mono (by decide)) T.m_law_ring_of_five T.F_law_ring_of_five.kp T.b_law_ring_of_five (fun σ => L2N.passAt (L2N.takes_of rfl rfl rfl rfl) σ) (a_cons (d_var (i := 0) (show ¬ 0 ∈ ([4] : List Nat) by decide)) (a_cons (d_add (d_var (i := 1) (show ¬ 1 ∈ ([4] : List Nat) by decide)) d_int) a_nil))))
  ss_nil)
  ss_nil)
  (ss_cons (s_set (i := 3) (show ¬ 3 ∈ ([4] : List Nat) by decide) sc_law_net.nd (d_add d_int (d_mod (d_t1 cas_int call_intA T.n_int (d_fdiv (d_ix (d_var (i := 0) (show ¬ 0 ∈ ([4] : List Nat) by decide)) (d_var (i := 1) (show ¬ 1 ∈ ([4] : List Nat) by decide))) d_int)) (d_var (i := 2) (show ¬ 2 ∈ ([4] : List Nat) by decide)))))
  (ss_cons (s_setF (i := 4) (show 4 ∈ ([4] : List Nat) by decide) (io_ne hio (by decide)) sc_law_net.nd (d_lst a_nil))
  (ss_cons (s_set (i := 5) (show ¬ 5 ∈ ([4] : List Nat) by decide) sc_law_net.nd d_int)
  (ss_cons (s_for (passes_of rfl) rfl (i_iK (io_not (js := [false, false, false, false, false, false, true, true, true]) hio rfl) (i_range1 (d_var (i := 3) (show ¬ 3 ∈ ([4] : List Nat) by decide)) T.n_range)) (g_name (i := 6) (show ¬ 6 ∈ ([4] : List Nat) by decide) sc_law_net.nd)
  (ss_sK (io_not (js := [false, false, false, false, false, false, true, true, true]) hio rfl) (ss_cons (s_for (passes_of rfl) rfl (i_iK (io_not (js := [false, false, false, false, false, false, false, true, true]) hio rfl) (i_range1 (d_var (i := 3) (show ¬ 3 ∈ ([4] : List Nat) by decide)) T.n_range)) (g_name (i := 7) (show ¬ 7 ∈ ([4] : List Nat) by decide) sc_law_net.nd)
  (ss_sK (io_not (js := [false, false, false, false, false, false, false, true, true]) hio rfl) (ss_cons (s_if (dt_cmp (ops_neA) (op_neA (u64 hr)) (d_var (i := 6) (show ¬ 6 ∈ ([4] : List Nat) by decide)) (d_var (i := 7) (show ¬ 7 ∈ ([4] : List Nat) by decide)) rfl)
  (ss_cons (s_set (i := 8) (show ¬ 8 ∈ ([4] : List Nat) by decide) sc_law_net.nd (d_mod (d_t1 cas_int call_intA T.n_int (d_fdiv (d_ix (d_var (i := 0) (show ¬ 0 ∈ ([4] : List Nat) by decide)) (d_add (d_add (d_var (i := 1) (show ¬ 1 ∈ ([4] : List Nat) by decide)) d_int) (d_fdiv (d_var (i := 5) (show ¬ 5 ∈ ([4] : List Nat) by decide)) d_int))) (d_ix (DF.de (d_lst (a_cons d_int (a_cons d_int (a_cons d_int (a_cons d_int a_nil)))))) (d_mod (d_t1 cas_int call_intA T.n_int (d_var (i := 5) (show ¬ 5 ∈ ([4] : List Nat) by decide))) d_int)))) d_int))
  (ss_cons (s_set (i := 5) (show ¬ 5 ∈ ([4] : List Nat) by decide) sc_law_net.nd (d_add (d_var (i := 5) (show ¬ 5 ∈ ([4] : List Nat) by decide)) d_int))
  (ss_cons (s_if (dt_cmp (ops_ltA) (op_ltA (u0 hr)) (d_var (i := 8) (show ¬ 8 ∈ ([4] : List Nat) by decide)) (d_add (d_add d_int (d_t1 cas_int call_intA T.n_int (d_fdiv (d_ix (d_var (i := 0) (show ¬ 0 ∈ ([4] : List Nat) by decide)) (d_var (i := 1) (show ¬ 1 ∈ ([4] : List Nat) by decide))) d_int))) (d_mod (d_t1 cas_int call_intA T.n_int (d_ix (d_var (i := 0) (show ¬ 0 ∈ ([4] : List Nat) by decide)) (d_var (i := 1) (show ¬ 1 ∈ ([4] : List Nat) by decide)))) d_int)) rfl)
  (ss_cons (s_expr (d_mut (i := 4) kd_lst tyV_lst mus_append mt_append F.plainAttrs_list F.slot_list_append F.type_list_append (show 4 ∈ ([4] : List Nat) by decide) (a_cons (d_tup (a_cons (d_var (i := 6) (show ¬ 6 ∈ ([4] : List Nat) by decide)) (a_cons (d_var (i := 7) (show ¬ 7 ∈ ([4] : List Nat) by decide)) a_nil))) a_nil)))
  ss_nil)
  ss_nil)
  ss_nil)))
  ss_nil)
  ss_nil)))
  ss_nil)))
  (ss_cons (s_ret rfl (d_tup (a_cons (d_var (i := 3) (show ¬ 3 ∈ ([4] : List Nat) by decide)) (a_cons (d_fz (i := 4) (show 4 ∈ ([4] : List Nat) by decide) (io_ne hio (by decide))) a_nil))))
  ss_nil))))))
theorem sc_law_knows : FnScope [(PySem.Str.ofString "_law_net_here"), (PySem.Str.ofString "_law_knows_here"), (PySem.Str.ofString "_law_i"), (PySem.Str.ofString "_law_arc")] [(PySem.Str.ofString "_law_net_here")] (defScope st_law_knows) := ⟨rfl, rfl, rfl, by decide +kernel, rfl, by decide +kernel, by decide +kernel⟩
theorem ok_law_knows (T : Txt G) : FnOk G.P G.w G.K G.mg G.base (L2N.CX G.P G.w) 1 T.f_law_knows T.fd_law_knows [(PySem.Str.ofString "_law_net_here")] (spOf G [false] false fn_law_knows) :=
  fnok_of (G := G) (M := [1]) T.F_law_knows sc_law_knows rfl (by decide) (.inl rfl) fun cdv A outer s H E io Hv hio hr =>
  (ss_cons (s_setF (i := 1) (show 1 ∈ ([1] : List Nat) by decide) (io_ne hio (by decide)) sc_law_knows.nd (d_lst a_nil))
  (ss_cons (s_for (passes_of rfl) rfl (i_iK (io_not (js := [false, false, true, false]) hio rfl) (i_range1 (d_ix (d_var (i := 0) (show ¬ 0 ∈ ([1] : List Nat) by decide)) d_int) T.n_range)) (g_name (i := 2) (show ¬ 2 ∈ ([1] : List Nat) by decide) sc_law_knows.nd)
  (ss_sK (io_not (js := [false, false, true, false]) hio rfl) (ss_cons (s_expr (d_mut (i := 1) kd_lst tyV_lst mus_append mt_append F.plainAttrs_list F.slot_list_append F.type_list_append (show 1 ∈ ([1] : List Nat) by decide) (a_cons (DF.de (d_lc (own := [((PySem.Str.ofString "_law_arc"), 3)]) (show ∀ v ∈ ([3] : List Nat), ¬ v ∈ ([1] : List Nat) by decide) (by decide) rfl sc_law_knows.nd (i_val (d_ix (d_var (i := 0) (show ¬ 0 ∈ ([1] : List Nat) by decide)) d_int)) (blkOk_by (by kernel_rfl)) (fun _ _ _ _ _ => (g_name (i := 3) (show ¬ 3 ∈ ([1] : List Nat) by decide) sc_law_knows.nd)) (fun _ _ _ _ _ => (pts1 (dt_cmp (ops_eqA) (op_eqA (u64 hr)) (d_ix (d_var (i := 3) (show ¬ 3 ∈ ([1] : List Nat) by decide)) d_int) (d_var (i := 2) (show ¬ 2 ∈ ([1] : List Nat) by decide)) rfl))) (fun _ _ _ _ _ => (d_ix (d_var (i := 3) (show ¬ 3 ∈ ([1] : List Nat) by decide)) d_int)))) a_nil)))
  ss_nil)))
  (ss_cons (s_ret rfl (d_fz (i := 1) (show 1 ∈ ([1] : List Nat) by decide) (io_ne hio (by decide))))
  ss_nil)))
theorem sc_check_size : FnScope [(PySem.Str.ofString "net")] [(PySem.Str.ofString "net")] (defScope st_check_size) := ⟨rfl, rfl, rfl, by decide +kernel, rfl, by decide +kernel, by decide +kernel⟩
theorem ok_check_size (T : Txt G) : FnOk G.P G.w G.K G.mg G.base (L2N.CX G.P G.w) 3 T.f_check_size T.fd_check_size [(PySem.Str.ofString "net")] (spOf G [false] false fn_check_size) :=
  fnok_of (G := G) (M := []) T.F_check_size sc_check_size rfl (by decide) (.inl rfl) fun cdv A outer s H E io Hv hio hr =>
  (ss_cons (s_if (dt_cmp ops_gt op_gt (d_attr (n := 0) (cs := [0]) (d_var (i := 0) (show ¬ 0 ∈ ([] : List Nat) by decide)) T.fx_size T.inj_size T.fc_size) (d_globE T.c_MOST_PLACES_netbounds repI) rfl)
  (ss_cons (s_raise (c := 0) T.ox_TooMany T.oi_TooMany T.ot_TooMany T.ok_TooMany (hr.mono (by decide)) T.ob_TooMany T.om_TooMany T.ol_TooMany (by decide) rfl (L2N.takes_of rfl rfl rfl rfl) (a_cons d_str a_nil))
  ss_nil)
  ss_nil)
  ss_nil)
theorem sc_lot_of : FnScope [(PySem.Str.ofString "bits"), (PySem.Str.ofString "size"), (PySem.Str.ofString "place")] [(PySem.Str.ofString "bits"), (PySem.Str.ofString "size")] (defScope st_lot_of) := ⟨rfl, rfl, rfl, by decide +kernel, rfl, by decide +kernel, by decide +kernel⟩
theorem ok_lot_of (T : Txt G) : FnOk G.P G.w G.K G.mg G.base (L2N.CX G.P G.w) 1 T.f_lot_of T.fd_lot_of [(PySem.Str.ofString "bits"), (PySem.Str.ofString "size")] (spOf G [false, false] false fn_lot_of) :=
  fnok_of (G := G) (M := []) T.F_lot_of sc_lot_of rfl (by decide) (.inl rfl) fun cdv A outer s H E io Hv hio hr =>
  (ss_cons (s_ret rfl (d_t1 (cas_tup rfl) call_tuple_of T.n_tuple (DF.de (d_lc (own := [((PySem.Str.ofString "place"), 2)]) (show ∀ v ∈ ([2] : List Nat), ¬ v ∈ ([] : List Nat) by decide) (by decide) rfl sc_lot_of.nd (i_range1 (d_var (i := 1) (show ¬ 1 ∈ ([] : List Nat) by decide)) T.n_range) (blkOk_by (by kernel_rfl)) (fun _ _ _ _ _ => (g_name (i := 2) (show ¬ 2 ∈ ([] : List Nat) by decide) sc_lot_of.nd)) (fun _ _ _ _ _ => (pts1 (dt_tru (d_and_b (d_var (i := 0) (show ¬ 0 ∈ ([] : List Nat) by decide)) (d_shl d_int (d_var (i := 2) (show ¬ 2 ∈ ([] : List Nat) by decide))))))) (fun _ _ _ _ _ => (d_var (i := 2) (show ¬ 2 ∈ ([] : List Nat) by decide)))))))
  ss_nil)
theorem sc_are_friends : FnScope [(PySem.Str.ofString "net"), (PySem.Str.ofString "lot"), (PySem.Str.ofString "place"), (PySem.Str.ofString "other")] [(PySem.Str.ofString "net"), (PySem.Str.ofString "lot")] (defScope st_are_friends) := ⟨rfl, rfl, rfl, by decide +kernel, rfl, by decide +kernel, by decide +kernel⟩
theorem ok_are_friends (T : Txt G) : FnOk G.P G.w G.K G.mg G.base (L2N.CX G.P G.w) 1 T.f_are_friends T.fd_are_friends [(PySem.Str.ofString "net"), (PySem.Str.ofString "lot")] (spOf G [false, false] false fn_are_friends) :=
  fnok_of (G := G) (M := []) T.F_are_friends sc_are_friends rfl (by decide) (.inl rfl) fun cdv A outer s H E io Hv hio hr =>
  (ss_cons (s_ret rfl (d_b1 (cas_all rfl) (cr_all rfl) T.n_all (DF.de (d_lc2 (own := [((PySem.Str.ofString "place"), 2), ((PySem.Str.ofString "other"), 3)]) (show ∀ v ∈ ([2, 3] : List Nat), ¬ v ∈ ([] : List Nat) by decide) (by decide) (by decide) (by decide) rfl sc_are_friends.nd (i_val (d_var (i := 1) (show ¬ 1 ∈ ([] : List Nat) by decide))) (blkOk_by (by kernel_rfl)) (fun _ _ _ _ _ => (g_name (i := 2) (show ¬ 2 ∈ ([] : List Nat) by decide) sc_are_friends.nd)) (fun _ _ _ _ _ => d_yes) (fun _ _ _ _ _ => (i_val (d_var (i := 1) (show ¬ 1 ∈ ([] : List Nat) by decide)))) (fun _ _ _ _ _ => (g_name (i := 3) (show ¬ 3 ∈ ([] : List Nat) by decide) sc_are_friends.nd)) (fun _ _ _ _ _ => (pts1 (dt_cmp (ops_neA) (op_neA (u64 hr)) (d_var (i := 3) (show ¬ 3 ∈ ([] : List Nat) by decide)) (d_var (i := 2) (show ¬ 2 ∈ ([] : List Nat) by decide)) rfl))) (fun _ _ _ _ _ => (d_cmp (ops_inA2) (op_inA2 (u65 hr)) (d_var (i := 3) (show ¬ 3 ∈ ([] : List Nat) by decide)) (d_ix (d_attr (n := 2) (cs := [0]) (d_var (i := 0) (show ¬ 0 ∈ ([] : List Nat) by decide)) T.fx_knows T.inj_knows T.fc_knows) (d_var (i := 2) (show ¬ 2 ∈ ([] : List Nat) by decide))) rfl))))))
  ss_nil)
theorem sc_least_place : FnScope [(PySem.Str.ofString "bits"), (PySem.Str.ofString "size")] [(PySem.Str.ofString "bits"), (PySem.Str.ofString "size")] (defScope st_least_place) := ⟨rfl, rfl, rfl, by decide +kernel, rfl, by decide +kernel, by decide +kernel⟩
theorem ok_least_place (T : Txt G) : FnOk G.P G.w G.K G.mg G.base (L2N.CX G.P G.w) 2 T.f_least_place T.fd_least_place [(PySem.Str.ofString "bits"), (PySem.Str.ofString "size")] (spOf G [false, false] false fn_least_place) :=
  fnok_of (G := G) (M := []) T.F_least_place sc_least_place rfl (by decide) (.inl rfl) fun cdv A outer s H E io Hv hio hr =>
  (ss_cons (s_ret rfl (d_ix (d_call (ok_lot_of T) (hr.mono (by decide)) T.m_lot_of T.F_lot_of.kp T.b_lot_of (fun σ => L2N.passAt (L2N.takes_of rfl rfl rfl rfl) σ) (a_cons (d_var (i := 0) (show ¬ 0 ∈ ([] : List Nat) by decide)) (a_cons (d_var (i := 1) (show ¬ 1 ∈ ([] : List Nat) by decide)) a_nil))) d_int))
  ss_nil)
theorem sc_friend_lots : FnScope [(PySem.Str.ofString "net"), (PySem.Str.ofString "friends"), (PySem.Str.ofString "bits"), (PySem.Str.ofString "lot"), (PySem.Str.ofString "best"), (PySem.Str.ofString "least"), (PySem.Str.ofString "found"), (PySem.Str.ofString "part")] [(PySem.Str.ofString "net")] (defScope st_friend_lots) := ⟨rfl, rfl, rfl, by decide +kernel, rfl, by decide +kernel, by decide +kernel⟩
theorem ok_friend_lots (T : Txt G) : FnOk G.P G.w G.K G.mg G.base (L2N.CX G.P G.w) 4 T.f_friend_lots T.fd_friend_lots [(PySem.Str.ofString "net")] (spOf G [false] false fn_friend_lots) :=
  fnok_of (G := G) (M := [1, 4]) T.F_friend_lots sc_friend_lots rfl (by decide) (.inl rfl) fun cdv A outer s H E io Hv hio hr =>
  (ss_cons (s_expr (d_call (ok_check_size T) (hr.mono (by decide)) T.m_check_size T.F_check_size.kp T.b_check_size (fun σ => L2N.passAt (L2N.takes_of rfl rfl rfl rfl) σ) (a_cons (d_var (i := 0) (show ¬ 0 ∈ ([1, 4] : List Nat) by decide)) a_nil)))
  (ss_cons (s_setF (i := 1) (show 1 ∈ ([1, 4] : List Nat) by decide) (io_ne hio (by decide)) sc_friend_lots.nd (d_lst a_nil))
  (ss_cons (s_for (passes_of rfl) rfl (i_iK (io_not (js := [false, false, true, true, false, false, false, false]) hio rfl) (i_range2 d_int (d_shl d_int (d_attr (n := 0) (cs := [0]) (d_var (i := 0) (show ¬ 0 ∈ ([1, 4] : List Nat) by decide)) T.fx_size T.inj_size T.fc_size)) T.n_range)) (g_name (i := 2) (show ¬ 2 ∈ ([1, 4] : List Nat) by decide) sc_friend_lots.nd)
  (ss_sK (io_not (js := [false, false, true, true, false, false, false, false]) hio rfl) (ss_cons (s_set (i := 3) (show ¬ 3 ∈ ([1, 4] : List Nat) by decide) sc_friend_lots.nd (d_call (ok_lot_of T) (hr.mono (by decide)) T.m_lot_of T.F_lot_of.kp T.b_lot_of (fun σ => L2N.passAt (L2N.takes_of rfl rfl rfl rfl) σ) (a_cons (d_var (i := 2) (show ¬ 2 ∈ ([1, 4] : List Nat) by decide)) (a_cons (d_attr (n := 0) (cs := [0]) (d_var (i := 0) (show ¬ 0 ∈ ([1, 4] : List Nat) by decide)) T.fx_size T.inj_size T.fc_size) a_nil))))
  (ss_cons (s_if (dt_val (d_call (ok_are_friends T) (hr.mono (by decide)) T.m_are_friends T.F_are_friends.kp T.b_are_friends (fun σ => L2N.passAt (L2N.takes_of rfl rfl rfl rfl) σ) (a_cons (d_var (i := 0) (show ¬ 0 ∈ ([1, 4] : List Nat) by decide)) (a_cons (d_var (i := 3) (show ¬ 3 ∈ ([1, 4] : List Nat) by decide)) a_nil))))
  (ss_cons (s_expr (d_mut (i := 1) kd_lst tyV_lst mus_append mt_append F.plainAttrs_list F.slot_list_append F.type_list_append (show 1 ∈ ([1, 4] : List Nat) by decide) (a_cons (d_tup (a_cons (d_var (i := 2) (show ¬ 2 ∈ ([1, 4] : List Nat) by decide)) (a_cons (d_var (i := 3) (show ¬ 3 ∈ ([1, 4] : List Nat) by decide)) a_nil))) a_nil)))
  ss_nil)
  ss_nil)
  ss_nil))))
  (ss_cons (s_setF (i := 4) (show 4 ∈ ([1, 4] : List Nat) by decide) (io_ne hio (by decide)) sc_friend_lots.nd (d_lst (a_cons (d_tup a_nil) a_nil)))
  (ss_cons (s_fzS (show 1 ∈ ([1, 4] : List Nat) by decide) (io_ne hio (by decide)) (s_for (passes_of rfl) rfl (i_iK (io_not (js := [false, false, true, true, false, true, true, true]) hio rfl) (i_range2 d_int (d_shl d_int (d_attr (n := 0) (cs := [0]) (d_var (i := 0) (show ¬ 0 ∈ ([1, 4] : List Nat) by decide)) T.fx_size T.inj_size T.fc_size)) T.n_range)) (g_name (i := 2) (show ¬ 2 ∈ ([1, 4] : List Nat) by decide) sc_friend_lots.nd)
  (ss_sK (io_not (js := [false, false, true, true, false, true, true, true]) hio rfl) (ss_cons (s_set (i := 5) (show ¬ 5 ∈ ([1, 4] : List Nat) by decide) sc_friend_lots.nd (d_call (ok_least_place T) (hr.mono (by decide)) T.m_least_place T.F_least_place.kp T.b_least_place (fun σ => L2N.passAt (L2N.takes_of rfl rfl rfl rfl) σ) (a_cons (d_var (i := 2) (show ¬ 2 ∈ ([1, 4] : List Nat) by decide)) (a_cons (d_attr (n := 0) (cs := [0]) (d_var (i := 0) (show ¬ 0 ∈ ([1, 4] : List Nat) by decide)) T.fx_size T.inj_size T.fc_size) a_nil))))
  (ss_cons (s_set (i := 6) (show ¬ 6 ∈ ([1, 4] : List Nat) by decide) sc_friend_lots.nd d_non)
  (ss_cons (s_for (passes_of rfl) rfl (i_iK (io_not (js := [false, false, false, true, false, false, false, true]) hio rfl) (i_val (d_fz (i := 1) (show 1 ∈ ([1, 4] : List Nat) by decide) (io_ne hio (by decide))))) (g_tup rfl (gs_cons (i := 7) (show ¬ 7 ∈ ([1, 4] : List Nat) by decide) sc_friend_lots.nd (gs_cons (i := 3) (show ¬ 3 ∈ ([1, 4] : List Nat) by decide) sc_friend_lots.nd gs_nil)))
  (ss_sK (io_not (js := [false, false, false, true, false, false, false, true]) hio rfl) (ss_cons (s_if (DW.dt (dw_and (dt_cmp (ops_eqA) (op_eqA (u64 hr)) (d_ix (d_var (i := 3) (show ¬ 3 ∈ ([1, 4] : List Nat) by decide)) d_int) (d_var (i := 5) (show ¬ 5 ∈ ([1, 4] : List Nat) by decide)) rfl) (dw_and1 (dt_cmp (ops_eqA) (op_eqA (u64 hr)) (d_and_b (d_var (i := 7) (show ¬ 7 ∈ ([1, 4] : List Nat) by decide)) (d_var (i := 2) (show ¬ 2 ∈ ([1, 4] : List Nat) by decide))) (d_var (i := 7) (show ¬ 7 ∈ ([1, 4] : List Nat) by decide)) rfl))))
  (ss_cons (s_if (DW.dt (dw_or (dt_cmp ops_isN op_isN (d_var (i := 6) (show ¬ 6 ∈ ([1, 4] : List Nat) by decide)) d_non rfl) (dw_or1 (dt_cmp (ops_ltA) (op_ltA (u0 hr)) (d_add (d_b1 (cas_len rfl) call_len T.n_len (d_ix (d_pl (i := 4) (show 4 ∈ ([1, 4] : List Nat) by decide)) (d_xor_b (d_var (i := 2) (show ¬ 2 ∈ ([1, 4] : List Nat) by decide)) (d_var (i := 7) (show ¬ 7 ∈ ([1, 4] : List Nat) by decide))))) d_int) (d_b1 (cas_len rfl) call_len T.n_len (d_var (i := 6) (show ¬ 6 ∈ ([1, 4] : List Nat) by decide))) rfl))))
  (ss_cons (s_set (i := 6) (show ¬ 6 ∈ ([1, 4] : List Nat) by decide) sc_friend_lots.nd (d_add (d_tup (a_cons (d_var (i := 3) (show ¬ 3 ∈ ([1, 4] : List Nat) by decide)) a_nil)) (d_ix (d_pl (i := 4) (show 4 ∈ ([1, 4] : List Nat) by decide)) (d_xor_b (d_var (i := 2) (show ¬ 2 ∈ ([1, 4] : List Nat) by decide)) (d_var (i := 7) (show ¬ 7 ∈ ([1, 4] : List Nat) by decide))))))
  ss_nil)
  ss_nil)
  ss_nil)
  ss_nil)
  ss_nil)))
  (ss_cons (s_expr (d_mut (i := 4) kd_lst tyV_lst mus_append mt_append F.plainAttrs_list F.slot_list_append F.type_list_append (show 4 ∈ ([1, 4] : List Nat) by decide) (a_cons (d_var (i := 6) (show ¬ 6 ∈ ([1, 4] : List Nat) by decide)) a_nil)))
  ss_nil)))))))
  (ss_cons (s_ret rfl (d_ix (d_pl (i := 4) (show 4 ∈ ([1, 4] : List Nat) by decide)) (d_neg d_int)))
  ss_nil))))))
theorem sc_law_kinds : FnScope [(PySem.Str.ofString "_law_e"), (PySem.Str.ofString "_law_kinds_here")] [(PySem.Str.ofString "_law_e")] (defScope st_law_kinds) := ⟨rfl, rfl, rfl, by decide +kernel, rfl, by decide +kernel, by decide +kernel⟩
theorem ok_law_kinds (T : Txt G) : FnP G.P G.w G.K G.mg G.base (L2N.CX G.P G.w) 1 T.f_law_kinds T.fd_law_kinds [(PySem.Str.ofString "_law_e")] (spP G 2 X_law_kinds) :=
  fnp_of (G := G) (M := [0, 1]) (n := 2) T.F_law_kinds sc_law_kinds (by decide) fun cdv A outer s H E Hv c fs a dd oe hgd hr hx => by
  have hio : ∀ p ∈ ([] : List (Nat × Addr)), ([false] : List Bool)[p.1]? = some true := fun p hp => absurd hp List.not_mem_nil
  exact (ss_cons (s_setF (i := 1) (show 1 ∈ ([0, 1] : List Nat) by decide) (io_ne hio (by decide)) sc_law_kinds.nd (d_lst a_nil))
  (ss_cons (s_sKn (io_not (js := [false, false]) hio rfl) (s_if (dt_val (d_isE hx rfl (show 0 ∈ ([0, 1] : List Nat) by decide) (t := tI_TooMany) (.inl ⟨T.oy_TooMany, _, rfl⟩) T.oi1_TooMany T.n_isinstance))
  (ss_cons (s_expr (d_mut (i := 1) kd_lst tyV_lst mus_append mt_append F.plainAttrs_list F.slot_list_append F.type_list_append (show 1 ∈ ([0, 1] : List Nat) by decide) (a_cons (d_tup (a_cons d_str (a_cons (d_repr hgd (u101H hr) (d_xf hx rfl (show 0 ∈ ([0, 1] : List Nat) by decide) T.xg_what) T.n_repr) a_nil))) a_nil)))
  ss_nil)
  ss_nil))
  (ss_cons (s_sKn (io_not (js := [false, false]) hio rfl) (s_if (dt_val (d_isET hx rfl (show 0 ∈ ([0, 1] : List Nat) by decide) (t := tJ_0) (.own (by exact rfl) T.oy_InvalidAudience (by decide) (.own (by exact rfl) T.oy_InvalidDeed (by decide) (.own (by exact rfl) T.oy_InvalidLine (by decide) (.own (by exact rfl) T.oy_InvalidLosses (by decide) (.own (by exact rfl) T.oy_InvalidLot (by decide) .nil))))) (show 5 ≤ sizeLine by decide) T.oj_0 T.n_isinstance))
  (ss_cons (s_expr (d_mut (i := 1) kd_lst tyV_lst mus_append mt_append F.plainAttrs_list F.slot_list_append F.type_list_append (show 1 ∈ ([0, 1] : List Nat) by decide) (a_cons (d_tup (a_cons d_str (a_cons d_str a_nil))) a_nil)))
  ss_nil)
  ss_nil))
  (ss_cons (s_sKn (io_not (js := [false, false]) hio rfl) (s_if (dt_val (d_isET hx rfl (show 0 ∈ ([0, 1] : List Nat) by decide) (t := tJ_1) (.own (by exact rfl) T.oy_InvalidMatrix (by decide) (.own (by exact rfl) T.oy_InvalidNet (by decide) (.own (by exact rfl) T.oy_InvalidNumber (by decide) (.own (by exact rfl) T.oy_InvalidSignals (by decide) (.own (by exact rfl) T.oy_InvalidText (by decide) .nil))))) (show 5 ≤ sizeLine by decide) T.oj_1 T.n_isinstance))
  (ss_cons (s_expr (d_mut (i := 1) kd_lst tyV_lst mus_append mt_append F.plainAttrs_list F.slot_list_append F.type_list_append (show 1 ∈ ([0, 1] : List Nat) by decide) (a_cons (d_tup (a_cons d_str (a_cons d_str a_nil))) a_nil)))
  ss_nil)
  ss_nil))
  (ss_cons (s_sKn (io_not (js := [false, false]) hio rfl) (s_if (dt_val (d_isET hx rfl (show 0 ∈ ([0, 1] : List Nat) by decide) (t := tJ_2) (.own (by exact rfl) T.oy_InvalidWord (by decide) (.own (by exact rfl) T.oy_InvalidWords (by decide) (.own (by exact rfl) T.oy_NothingToUndo (by decide) (.own (by exact rfl) T.oy_Undefined (by decide) (.own (by exact rfl) T.oy_UnknownWord (by decide) .nil))))) (show 5 ≤ sizeLine by decide) T.oj_2 T.n_isinstance))
  (ss_cons (s_expr (d_mut (i := 1) kd_lst tyV_lst mus_append mt_append F.plainAttrs_list F.slot_list_append F.type_list_append (show 1 ∈ ([0, 1] : List Nat) by decide) (a_cons (d_tup (a_cons d_str (a_cons d_str a_nil))) a_nil)))
  ss_nil)
  ss_nil))
  (ss_cons (s_if (DW.dt (dw_and (dt_cmp (ops_eqA) (op_eqA (u64H hr)) (d_b1 (cas_len rfl) call_len T.n_len (d_pl (i := 1) (show 1 ∈ ([0, 1] : List Nat) by decide))) d_int rfl) (dw_and1 (dt_val (d_isE hx rfl (show 0 ∈ ([0, 1] : List Nat) by decide) (t := tB_ValueError) (.inr ⟨T.n_ValueError, (by decide +kernel), (by decide), _, rfl⟩) T.ob1_ValueError T.n_isinstance)))))
  (ss_cons (s_ret rfl (d_ix (d_pl (i := 1) (show 1 ∈ ([0, 1] : List Nat) by decide)) d_int))
  ss_nil)
  ss_nil)
  (ss_cons (s_ret rfl (d_tup (a_cons d_str (a_cons d_str a_nil))))
  ss_nil)))))))
theorem sc_law_told : FnScope [(PySem.Str.ofString "_law_net_here"), (PySem.Str.ofString "_law_e")] [(PySem.Str.ofString "_law_net_here")] (defScope st_law_told) := ⟨rfl, rfl, rfl, by decide +kernel, rfl, by decide +kernel, by decide +kernel⟩
theorem ok_law_told (T : Txt G) : FnG G.P G.w G.K G.mg G.base (L2N.CX G.P G.w) 5 T.f_law_told T.fd_law_told [(PySem.Str.ofString "_law_net_here")] (spOf G [false] false fn_law_told) :=
  fng_of (G := G) (M := [1]) T.F_law_told sc_law_told rfl (by decide) (.inl rfl) fun cdv A outer s H E io Hv hio hgd hr =>
  (ss_cons (s_try rfl rfl sc_law_told.nd (L2N.takes_of rfl rfl rfl rfl) rfl (fun W1 pn1 xe1 tk1 hp1 =>
  (ss_cons (s_ret rfl (d_tup (a_cons d_str (a_cons (d_call (ok_friend_lots T) (hr.mono (by decide)) T.m_friend_lots T.F_friend_lots.kp T.b_friend_lots (fun σ => L2N.passAt tk1 σ) (a_cons (d_var (i := 0) (show ¬ 0 ∈ ([1] : List Nat) by decide)) a_nil)) a_nil))))
  ss_nil))
  (.named (i := 1) ⟨rfl, (by decide), .inl T.oy_SayError⟩ rfl rfl rfl (show 1 ∈ ([1] : List Nat) by decide) (io_ne hio (by decide)) T.oh_SayError (fun c fs a dd oe pn Hc Hvc ht hx =>
  (ss_cons (s_ret rfl (d_callX hx rfl (show 1 ∈ ([1] : List Nat) by decide) (ok_law_kinds T) (roomM (roomS hr) (by decide)) hgd T.m_law_kinds T.F_law_kinds.kp T.b_law_kinds))
  ss_nil)) .nil))
  ss_nil)
theorem sc_law_fewest : FnScope [(PySem.Str.ofString "_law_fits"), (PySem.Str.ofString "_law_fewest_here"), (PySem.Str.ofString "_law_at"), (PySem.Str.ofString "_law_best"), (PySem.Str.ofString "_law_part"), (PySem.Str.ofString "_law_k")] [(PySem.Str.ofString "_law_fits")] (defScope st_law_fewest) := ⟨rfl, rfl, rfl, by decide +kernel, rfl, by decide +kernel, by decide +kernel⟩
theorem ok_law_fewest (T : Txt G) : FnOk G.P G.w G.K G.mg G.base (L2N.CX G.P G.w) 1 T.f_law_fewest T.fd_law_fewest [(PySem.Str.ofString "_law_fits")] (spOf G [false] false fn_law_fewest) :=
  fnok_of (G := G) (M := [1]) T.F_law_fewest sc_law_fewest rfl (by decide) (.inl rfl) fun cdv A outer s H E io Hv hio hr =>
  (ss_cons (s_setF (i := 1) (show 1 ∈ ([1] : List Nat) by decide) (io_ne hio (by decide)) sc_law_fewest.nd (d_lst (a_cons d_int a_nil)))
  (ss_cons (s_for (passes_of rfl) rfl (i_iK (io_not (js := [false, false, true, true, true, true]) hio rfl) (i_range2 d_int (d_b1 (cas_len rfl) call_len T.n_len (d_var (i := 0) (show ¬ 0 ∈ ([1] : List Nat) by decide))) T.n_range)) (g_name (i := 2) (show ¬ 2 ∈ ([1] : List Nat) by decide) sc_law_fewest.nd)
  (ss_sK (io_not (js := [false, false, true, true, true, true]) hio rfl) (ss_cons (s_set (i := 3) (show ¬ 3 ∈ ([1] : List Nat) by decide) sc_law_fewest.nd d_int)
  (ss_cons (s_set (i := 4) (show ¬ 4 ∈ ([1] : List Nat) by decide) sc_law_fewest.nd (d_var (i := 2) (show ¬ 2 ∈ ([1] : List Nat) by decide)))
  (ss_cons (s_for (passes_of rfl) rfl (i_iK (io_not (js := [false, false, false, false, false, true]) hio rfl) (i_range1 (d_b1 (cas_len rfl) call_len T.n_len (d_var (i := 0) (show ¬ 0 ∈ ([1] : List Nat) by decide))) T.n_range)) (g_name (i := 5) (show ¬ 5 ∈ ([1] : List Nat) by decide) sc_law_fewest.nd)
  (ss_sK (io_not (js := [false, false, false, false, false, true]) hio rfl) (ss_cons (s_if (dt_cmp (ops_eqA) (op_eqA (u64 hr)) (d_var (i := 4) (show ¬ 4 ∈ ([1] : List Nat) by decide)) d_int rfl)
  (ss_cons s_break
  ss_nil)
  ss_nil)
  (ss_cons (s_sKn (io_not (js := [false, false, false, false, false, false]) hio rfl) (s_if (DW.dt (dw_and (dt_tru (d_ix (d_var (i := 0) (show ¬ 0 ∈ ([1] : List Nat) by decide)) (d_var (i := 4) (show ¬ 4 ∈ ([1] : List Nat) by decide)))) (dw_and1 (dt_cmp (ops_ltA) (op_ltA (u0 hr)) (d_add (d_ix (d_pl (i := 1) (show 1 ∈ ([1] : List Nat) by decide)) (d_sub (d_var (i := 2) (show ¬ 2 ∈ ([1] : List Nat) by decide)) (d_var (i := 4) (show ¬ 4 ∈ ([1] : List Nat) by decide)))) d_int) (d_var (i := 3) (show ¬ 3 ∈ ([1] : List Nat) by decide)) rfl))))
  (ss_cons (s_set (i := 3) (show ¬ 3 ∈ ([1] : List Nat) by decide) sc_law_fewest.nd (d_add (d_ix (d_pl (i := 1) (show 1 ∈ ([1] : List Nat) by decide)) (d_sub (d_var (i := 2) (show ¬ 2 ∈ ([1] : List Nat) by decide)) (d_var (i := 4) (show ¬ 4 ∈ ([1] : List Nat) by decide)))) d_int))
  ss_nil)
  ss_nil))
  (ss_cons (s_set (i := 4) (show ¬ 4 ∈ ([1] : List Nat) by decide) sc_law_fewest.nd (d_and_b (d_sub (d_var (i := 4) (show ¬ 4 ∈ ([1] : List Nat) by decide)) d_int) (d_var (i := 2) (show ¬ 2 ∈ ([1] : List Nat) by decide))))
  ss_nil)))))
  (ss_cons (s_expr (d_mut (i := 1) kd_lst tyV_lst mus_append mt_append F.plainAttrs_list F.slot_list_append F.type_list_append (show 1 ∈ ([1] : List Nat) by decide) (a_cons (d_var (i := 3) (show ¬ 3 ∈ ([1] : List Nat) by decide)) a_nil)))
  ss_nil))))))
  (ss_cons (s_ret rfl (d_ix (d_pl (i := 1) (show 1 ∈ ([1] : List Nat) by decide)) (d_neg d_int)))
  ss_nil)))
theorem sc_is_below : FnScope [(PySem.Str.ofString "value"), (PySem.Str.ofString "many")] [(PySem.Str.ofString "value"), (PySem.Str.ofString "many")] (defScope st_is_below) := ⟨rfl, rfl, rfl, by decide +kernel, rfl, by decide +kernel, by decide +kernel⟩
theorem ok_is_below (T : Txt G) : FnOk G.P G.w G.K G.mg G.base (L2N.CX G.P G.w) 1 T.f_is_below T.fd_is_below [(PySem.Str.ofString "value"), (PySem.Str.ofString "many")] (spOf G [false, false] false fn_is_below) :=
  fnok_of (G := G) (M := []) T.F_is_below sc_is_below rfl (by decide) (.inl rfl) fun cdv A outer s H E io Hv hio hr =>
  (ss_cons (s_ret rfl (d_and (d_isi .int (d_var (i := 0) (show ¬ 0 ∈ ([] : List Nat) by decide)) T.n_isinstance T.n_int (by decide +kernel)) (d_and (d_not (d_isi .bl (d_var (i := 0) (show ¬ 0 ∈ ([] : List Nat) by decide)) T.n_isinstance T.n_bool (by decide +kernel))) (d_one (d_chain (ops_leA) (ops_ltA) (op_leA (u0 hr)) (op_ltA (u0 hr)) d_int (d_var (i := 0) (show ¬ 0 ∈ ([] : List Nat) by decide)) (d_var (i := 1) (show ¬ 1 ∈ ([] : List Nat) by decide)))))))
  ss_nil)
theorem sc_first_wrong_arc : FnScope [(PySem.Str.ofString "size"), (PySem.Str.ofString "arcs"), (PySem.Str.ofString "ahead"), (PySem.Str.ofString "number"), (PySem.Str.ofString "arc"), (PySem.Str.ofString "place")] [(PySem.Str.ofString "size"), (PySem.Str.ofString "arcs")] (defScope st_first_wrong_arc) := ⟨rfl, rfl, rfl, by decide +kernel, rfl, by decide +kernel, by decide +kernel⟩
theorem ok_first_wrong_arc (T : Txt G) : FnOk G.P G.w G.K G.mg G.base (L2N.CX G.P G.w) 2 T.f_first_wrong_arc T.fd_first_wrong_arc [(PySem.Str.ofString "size"), (PySem.Str.ofString "arcs")] (spOf G [false, false] false fn_first_wrong_arc) :=
  fnok_of (G := G) (M := []) T.F_first_wrong_arc sc_first_wrong_arc rfl (by decide) (.inl rfl) fun cdv A outer s H E io Hv hio hr =>
  (ss_cons (s_if (dt_not (dt_val (d_isi2 .lst .tup (d_var (i := 1) (show ¬ 1 ∈ ([] : List Nat) by decide)) T.n_isinstance T.n_list (by decide +kernel) T.n_tuple (by decide +kernel))))
  (ss_cons (s_ret rfl d_int)
  ss_nil)
  ss_nil)
  (ss_cons (s_set (i := 2) (show ¬ 2 ∈ ([] : List Nat) by decide) sc_first_wrong_arc.nd (d_tup (a_cons (d_neg d_int) (a_cons (d_neg d_int) a_nil))))
  (ss_cons (s_for (passes_of rfl) rfl (i_iK (io_not (js := [false, false, false, true, true, false]) hio rfl) (i_enum (d_var (i := 1) (show ¬ 1 ∈ ([] : List Nat) by decide)) T.n_enumerate)) (g_tup rfl (gs_cons (i := 3) (show ¬ 3 ∈ ([] : List Nat) by decide) sc_first_wrong_arc.nd (gs_cons (i := 4) (show ¬ 4 ∈ ([] : List Nat) by decide) sc_first_wrong_arc.nd gs_nil)))
  (ss_sK (io_not (js := [false, false, false, true, true, false]) hio rfl) (ss_cons (s_if (DW.dt (dw_or (dt_not (dt_val (d_isi .tup (d_var (i := 4) (show ¬ 4 ∈ ([] : List Nat) by decide)) T.n_isinstance T.n_tuple (by decide +kernel)))) (dw_or (dt_cmp (ops_neA) (op_neA (u64 hr)) (d_b1 (cas_len rfl) call_len T.n_len (d_var (i := 4) (show ¬ 4 ∈ ([] : List Nat) by decide))) d_int rfl) (dw_or1 (dt_not (dt_val (d_b1 (cas_all rfl) (cr_all rfl) T.n_all (DF.de (d_lc (own := [((PySem.Str.ofString "place"), 5)]) (show ∀ v ∈ ([5] : List Nat), ¬ v ∈ ([] : List Nat) by decide) (by decide) rfl sc_first_wrong_arc.nd (i_val (d_var (i := 4) (show ¬ 4 ∈ ([] : List Nat) by decide))) (blkOk_by (by kernel_rfl)) (fun _ _ _ _ _ => (g_name (i := 5) (show ¬ 5 ∈ ([] : List Nat) by decide) sc_first_wrong_arc.nd)) (fun _ _ _ _ _ => d_yes) (fun _ _ _ _ _ => (d_call (ok_is_below T) (hr.mono (by decide)) T.m_is_below T.F_is_below.kp T.b_is_below (fun σ => L2N.passAt takes0N σ) (a_cons (d_var (i := 5) (show ¬ 5 ∈ ([] : List Nat) by decide)) (a_cons (d_var (i := 0) (show ¬ 0 ∈ ([] : List Nat) by decide)) a_nil)))))))))))))
  (ss_cons (s_ret rfl (d_var (i := 3) (show ¬ 3 ∈ ([] : List Nat) by decide)))
  ss_nil)
  ss_nil)
  (ss_cons (s_if (DW.dt (dw_or (dt_cmp (ops_eqA) (op_eqA (u64 hr)) (d_ix (d_var (i := 4) (show ¬ 4 ∈ ([] : List Nat) by decide)) d_int) (d_ix (d_var (i := 4) (show ¬ 4 ∈ ([] : List Nat) by decide)) d_int) rfl) (dw_or1 (dt_cmp (ops_leA) (op_leA (u0 hr)) (d_var (i := 4) (show ¬ 4 ∈ ([] : List Nat) by decide)) (d_var (i := 2) (show ¬ 2 ∈ ([] : List Nat) by decide)) rfl))))
  (ss_cons (s_ret rfl (d_var (i := 3) (show ¬ 3 ∈ ([] : List Nat) by decide)))
  ss_nil)
  ss_nil)
  (ss_cons (s_set (i := 2) (show ¬ 2 ∈ ([] : List Nat) by decide) sc_first_wrong_arc.nd (d_var (i := 4) (show ¬ 4 ∈ ([] : List Nat) by decide)))
  ss_nil)))))
  (ss_cons (s_ret rfl d_non)
  ss_nil))))
theorem sc_Net_init : FnScope [(PySem.Str.ofString "self"), (PySem.Str.ofString "size"), (PySem.Str.ofString "arcs"), (PySem.Str.ofString "wrong"), (PySem.Str.ofString "place"), (PySem.Str.ofString "i"), (PySem.Str.ofString "j")] [(PySem.Str.ofString "self"), (PySem.Str.ofString "size"), (PySem.Str.ofString "arcs")] (defScope st_Net_init) := ⟨rfl, rfl, rfl, by decide +kernel, rfl, by decide +kernel, by decide +kernel⟩
theorem ok_Net_init (T : Txt G) : FnOk G.P G.w G.K G.mg G.base (L2N.CX G.P G.w) 3 T.f_Net_init T.fd_Net_init [(PySem.Str.ofString "self"), (PySem.Str.ofString "size"), (PySem.Str.ofString "arcs")] (spOf G [true, false, false] false fn_Net_init) :=
  fnok_of (G := G) (M := [0]) T.F_Net_init sc_Net_init rfl (by decide) (.inl rfl) fun cdv A outer s H E io Hv hio hr =>
  (ss_cons (s_if (DW.dt (dw_or (dt_not (dt_val (d_call (ok_is_below T) (hr.mono (by decide)) T.m_is_below T.F_is_below.kp T.b_is_below (fun σ => L2N.passAt (L2N.takes_of rfl rfl rfl rfl) σ) (a_cons (d_var (i := 1) (show ¬ 1 ∈ ([0] : List Nat) by decide)) (a_cons (d_add (d_globE T.c_MOST_PLACES_nets repI) d_int) a_nil))))) (dw_or1 (dt_cmp (ops_ltA) (op_ltA (u0 hr)) (d_var (i := 1) (show ¬ 1 ∈ ([0] : List Nat) by decide)) d_int rfl))))
  (ss_cons (s_raise (c := 1) T.ox_InvalidNet T.oi_InvalidNet T.ot_InvalidNet T.ok_InvalidNet (hr.mono (by decide)) T.ob_InvalidNet T.om_InvalidNet T.ol_InvalidNet (by decide) rfl (L2N.takes_of rfl rfl rfl rfl) (a_cons d_str (a_cons d_int a_nil)))
  ss_nil)
  ss_nil)
  (ss_cons (s_set (i := 3) (show ¬ 3 ∈ ([0] : List Nat) by decide) sc_Net_init.nd (d_call (ok_first_wrong_arc T) (hr.mono (by decide)) T.m_first_wrong_arc T.F_first_wrong_arc.kp T.b_first_wrong_arc (fun σ => L2N.passAt (L2N.takes_of rfl rfl rfl rfl) σ) (a_cons (d_var (i := 1) (show ¬ 1 ∈ ([0] : List Nat) by decide)) (a_cons (d_var (i := 2) (show ¬ 2 ∈ ([0] : List Nat) by decide)) a_nil))))
  (ss_cons (s_if (dt_cmp ops_notN op_notN (d_var (i := 3) (show ¬ 3 ∈ ([0] : List Nat) by decide)) d_non rfl)
  (ss_cons (s_raise (c := 1) T.ox_InvalidNet T.oi_InvalidNet T.ot_InvalidNet T.ok_InvalidNet (hr.mono (by decide)) T.ob_InvalidNet T.om_InvalidNet T.ol_InvalidNet (by decide) rfl (L2N.takes_of rfl rfl rfl rfl) (a_cons d_str (a_cons (d_var (i := 3) (show ¬ 3 ∈ ([0] : List Nat) by decide)) a_nil)))
  ss_nil)
  ss_nil)
  (ss_cons (s_fldS (i := 0) (n := 0) (cs := [0]) (show 0 ∈ ([0] : List Nat) by decide) (d_var (i := 1) (show ¬ 1 ∈ ([0] : List Nat) by decide)) T.fx_size T.inj_size T.f1_Net_size)
  (ss_cons (s_fldS (i := 0) (n := 1) (cs := [0]) (show 0 ∈ ([0] : List Nat) by decide) (d_t1 (cas_tup rfl) call_tuple_of T.n_tuple (d_var (i := 2) (show ¬ 2 ∈ ([0] : List Nat) by decide))) T.fx_arcs T.inj_arcs T.f1_Net_arcs)
  (ss_cons (s_fldS (i := 0) (n := 2) (cs := [0]) (show 0 ∈ ([0] : List Nat) by decide) (d_t1 (cas_tup rfl) call_tuple_of T.n_tuple (DF.de (d_lc (own := [((PySem.Str.ofString "place"), 4)]) (show ∀ v ∈ ([4] : List Nat), ¬ v ∈ ([0] : List Nat) by decide) (by decide) rfl sc_Net_init.nd (i_range1 (d_var (i := 1) (show ¬ 1 ∈ ([0] : List Nat) by decide)) T.n_range) (blkOk_by (by kernel_rfl)) (fun _ _ _ _ _ => (g_name (i := 4) (show ¬ 4 ∈ ([0] : List Nat) by decide) sc_Net_init.nd)) (fun _ _ _ _ _ => d_yes) (fun _ _ _ _ _ => (d_t1 (cas_tup rfl) call_tuple_of T.n_tuple (DF.de (d_lc (own := [((PySem.Str.ofString "i"), 5), ((PySem.Str.ofString "j"), 6)]) (show ∀ v ∈ ([5, 6] : List Nat), ¬ v ∈ ([0] : List Nat) by decide) (by decide) rfl sc_Net_init.nd (i_val (d_attr (n := 1) (cs := [0]) (d_pl (i := 0) (show 0 ∈ ([0] : List Nat) by decide)) T.fx_arcs T.inj_arcs T.fc_arcs)) (blkOk_by (by kernel_rfl)) (fun _ _ _ _ _ => (g_tup rfl (gs_cons (i := 5) (show ¬ 5 ∈ ([0] : List Nat) by decide) sc_Net_init.nd (gs_cons (i := 6) (show ¬ 6 ∈ ([0] : List Nat) by decide) sc_Net_init.nd gs_nil)))) (fun _ _ _ _ _ => (pts1 (dt_cmp (ops_eqA) (op_eqA (u64 hr)) (d_var (i := 5) (show ¬ 5 ∈ ([0] : List Nat) by decide)) (d_var (i := 4) (show ¬ 4 ∈ ([0] : List Nat) by decide)) rfl))) (fun _ _ _ _ _ => (d_var (i := 6) (show ¬ 6 ∈ ([0] : List Nat) by decide)))))))))) T.fx_knows T.inj_knows T.f1_Net_knows)
  ss_nil))))))
theorem sc_law_same : FnScope [(PySem.Str.ofString "_law_actual"), (PySem.Str.ofString "_law_expected"), (PySem.Str.ofString "_law_k")] [(PySem.Str.ofString "_law_actual"), (PySem.Str.ofString "_law_expected")] (defScope st_law_same) := ⟨rfl, rfl, rfl, by decide +kernel, rfl, by decide +kernel, by decide +kernel⟩
theorem ok_law_sameN (T : Txt G) : ∀ n, FnOk G.P G.w G.K G.mg G.base (L2N.CX G.P G.w) (1 + n) T.f_law_same T.fd_law_same [(PySem.Str.ofString "_law_actual"), (PySem.Str.ofString "_law_expected")] (spOf G [false, false] false (fn_law_sameN n))
  | 0 => fnok_bad
  | n + 1 => by
    have ih := ok_law_sameN T n
    exact fnok_of (G := G) (M := []) T.F_law_same sc_law_same rfl (by decide) (.inl rfl) fun cdv A outer s H E io Hv hio hr => by
      have hrec := hr
      exact (ss_cons (s_if (dt_cmp ops_isN op_isN (d_var (i := 1) (show ¬ 1 ∈ ([] : List Nat) by decide)) d_non rfl)
  (ss_cons (s_ret rfl (d_cmp ops_isN op_isN (d_var (i := 0) (show ¬ 0 ∈ ([] : List Nat) by decide)) d_non rfl))
  ss_nil)
  ss_nil)
  (ss_cons (s_if (dt_val (d_isi .str (d_var (i := 1) (show ¬ 1 ∈ ([] : List Nat) by decide)) T.n_isinstance T.n_str (by decide +kernel)))
  (ss_cons (s_ret rfl (d_and (d_isi .str (d_var (i := 0) (show ¬ 0 ∈ ([] : List Nat) by decide)) T.n_isinstance T.n_str (by decide +kernel)) (d_one (d_cmp (ops_eqA) (op_eqA (u64 hr)) (d_var (i := 0) (show ¬ 0 ∈ ([] : List Nat) by decide)) (d_var (i := 1) (show ¬ 1 ∈ ([] : List Nat) by decide)) rfl))))
  ss_nil)
  ss_nil)
  (ss_cons (s_if (dt_val (d_isi .bl (d_var (i := 1) (show ¬ 1 ∈ ([] : List Nat) by decide)) T.n_isinstance T.n_bool (by decide +kernel)))
  (ss_cons (s_ret rfl (d_and (d_isi .bl (d_var (i := 0) (show ¬ 0 ∈ ([] : List Nat) by decide)) T.n_isinstance T.n_bool (by decide +kernel)) (d_one (d_cmp (ops_eqA) (op_eqA (u64 hr)) (d_var (i := 0) (show ¬ 0 ∈ ([] : List Nat) by decide)) (d_var (i := 1) (show ¬ 1 ∈ ([] : List Nat) by decide)) rfl))))
  ss_nil)
  ss_nil)
  (ss_cons (s_if (dt_val (d_isi .int (d_var (i := 1) (show ¬ 1 ∈ ([] : List Nat) by decide)) T.n_isinstance T.n_int (by decide +kernel)))
  (ss_cons (s_ret rfl (d_and (d_isi .int (d_var (i := 0) (show ¬ 0 ∈ ([] : List Nat) by decide)) T.n_isinstance T.n_int (by decide +kernel)) (d_and (d_not (d_isi .bl (d_var (i := 0) (show ¬ 0 ∈ ([] : List Nat) by decide)) T.n_isinstance T.n_bool (by decide +kernel))) (d_one (d_cmp (ops_eqA) (op_eqA (u64 hr)) (d_var (i := 0) (show ¬ 0 ∈ ([] : List Nat) by decide)) (d_var (i := 1) (show ¬ 1 ∈ ([] : List Nat) by decide)) rfl)))))
  ss_nil)
  ss_nil)
  (ss_cons (s_if (DW.dt (dw_or (dt_not (dt_val (d_isi .tup (d_var (i := 0) (show ¬ 0 ∈ ([] : List Nat) by decide)) T.n_isinstance T.n_tuple (by decide +kernel)))) (dw_or1 (dt_cmp (ops_neA) (op_neA (u64 hr)) (d_b1 (cas_len rfl) call_len T.n_len (d_var (i := 0) (show ¬ 0 ∈ ([] : List Nat) by decide))) (d_b1 (cas_len rfl) call_len T.n_len (d_var (i := 1) (show ¬ 1 ∈ ([] : List Nat) by decide))) rfl))))
  (ss_cons (s_ret rfl d_bl)
  ss_nil)
  ss_nil)
  (ss_cons (s_for (passes_of rfl) rfl (i_iK (io_not (js := [false, false, true]) hio rfl) (i_range1 (d_b1 (cas_len rfl) call_len T.n_len (d_var (i := 1) (show ¬ 1 ∈ ([] : List Nat) by decide))) T.n_range)) (g_name (i := 2) (show ¬ 2 ∈ ([] : List Nat) by decide) sc_law_same.nd)
  (ss_sK (io_not (js := [false, false, true]) hio rfl) (ss_cons (s_if (dt_not (dt_val (d_call ih hrec T.m_law_same T.F_law_same.kp T.b_law_same (fun σ => L2N.passAt (L2N.takes_of rfl rfl rfl rfl) σ) (a_cons (d_ix (d_var (i := 0) (show ¬ 0 ∈ ([] : List Nat) by decide)) (d_var (i := 2) (show ¬ 2 ∈ ([] : List Nat) by decide))) (a_cons (d_ix (d_var (i := 1) (show ¬ 1 ∈ ([] : List Nat) by decide)) (d_var (i := 2) (show ¬ 2 ∈ ([] : List Nat) by decide))) a_nil)))))
  (ss_cons (s_ret rfl d_bl)
  ss_nil)
  ss_nil)
  ss_nil)))
  (ss_cons (s_ret rfl d_bl)
  ss_nil)))))))
theorem ok_law_same (T : Txt G) : FnOk G.P G.w G.K G.mg G.base (L2N.CX G.P G.w) 7 T.f_law_same T.fd_law_same [(PySem.Str.ofString "_law_actual"), (PySem.Str.ofString "_law_expected")] (spOf G [false, false] false fn_law_same) := ok_law_sameN T 6
theorem sc_law_are_friends : FnScope [(PySem.Str.ofString "_law_knows_here"), (PySem.Str.ofString "_law_lot"), (PySem.Str.ofString "_law_i"), (PySem.Str.ofString "_law_j")] [(PySem.Str.ofString "_law_knows_here"), (PySem.Str.ofString "_law_lot")] (defScope st_law_are_friends) := ⟨rfl, rfl, rfl, by decide +kernel, rfl, by decide +kernel, by decide +kernel⟩
theorem ok_law_are_friends (T : Txt G) : FnOk G.P G.w G.K G.mg G.base (L2N.CX G.P G.w) 1 T.f_law_are_friends T.fd_law_are_friends [(PySem.Str.ofString "_law_knows_here"), (PySem.Str.ofString "_law_lot")] (spOf G [false, false] false fn_law_are_friends) :=
  fnok_of (G := G) (M := []) T.F_law_are_friends sc_law_are_friends rfl (by decide) (.inl rfl) fun cdv A outer s H E io Hv hio hr =>
  (ss_cons (s_for (passes_of rfl) rfl (i_iK (io_not (js := [false, false, true, true]) hio rfl) (i_val (d_var (i := 1) (show ¬ 1 ∈ ([] : List Nat) by decide)))) (g_name (i := 2) (show ¬ 2 ∈ ([] : List Nat) by decide) sc_law_are_friends.nd)
  (ss_sK (io_not (js := [false, false, true, true]) hio rfl) (ss_cons (s_for (passes_of rfl) rfl (i_iK (io_not (js := [false, false, false, true]) hio rfl) (i_val (d_var (i := 1) (show ¬ 1 ∈ ([] : List Nat) by decide)))) (g_name (i := 3) (show ¬ 3 ∈ ([] : List Nat) by decide) sc_law_are_friends.nd)
  (ss_sK (io_not (js := [false, false, false, true]) hio rfl) (ss_cons (s_if (DW.dt (dw_and (dt_cmp (ops_neA) (op_neA (u64 hr)) (d_var (i := 2) (show ¬ 2 ∈ ([] : List Nat) by decide)) (d_var (i := 3) (show ¬ 3 ∈ ([] : List Nat) by decide)) rfl) (dw_and1 (dt_cmp (ops_notInA2) (op_notInA2 (u65 hr)) (d_var (i := 3) (show ¬ 3 ∈ ([] : List Nat) by decide)) (d_ix (d_var (i := 0) (show ¬ 0 ∈ ([] : List Nat) by decide)) (d_var (i := 2) (show ¬ 2 ∈ ([] : List Nat) by decide))) rfl))))
  (ss_cons (s_ret rfl d_bl)
  ss_nil)
  ss_nil)
  ss_nil)))
  ss_nil)))
  (ss_cons (s_ret rfl d_bl)
  ss_nil))
theorem sc_law_lots : FnScope [(PySem.Str.ofString "_law_size"), (PySem.Str.ofString "_law_lots_here"), (PySem.Str.ofString "_law_i"), (PySem.Str.ofString "_law_lot")] [(PySem.Str.ofString "_law_size")] (defScope st_law_lots) := ⟨rfl, rfl, rfl, by decide +kernel, rfl, by decide +kernel, by decide +kernel⟩
theorem ok_law_lots (T : Txt G) : FnOk G.P G.w G.K G.mg G.base (L2N.CX G.P G.w) 1 T.f_law_lots T.fd_law_lots [(PySem.Str.ofString "_law_size")] (spOf G [false] false fn_law_lots) :=
  fnok_of (G := G) (M := []) T.F_law_lots sc_law_lots rfl (by decide) (.inl rfl) fun cdv A outer s H E io Hv hio hr =>
  (ss_cons (s_set (i := 1) (show ¬ 1 ∈ ([] : List Nat) by decide) sc_law_lots.nd (DF.de (d_lst (a_cons (d_tup a_nil) a_nil))))
  (ss_cons (s_for (passes_of rfl) rfl (i_iK (io_not (js := [false, false, true, false]) hio rfl) (i_range1 (d_var (i := 0) (show ¬ 0 ∈ ([] : List Nat) by decide)) T.n_range)) (g_name (i := 2) (show ¬ 2 ∈ ([] : List Nat) by decide) sc_law_lots.nd)
  (ss_sK (io_not (js := [false, false, true, false]) hio rfl) (ss_cons (s_set (i := 1) (show ¬ 1 ∈ ([] : List Nat) by decide) sc_law_lots.nd (DF.de (d_catF (d_var (i := 1) (show ¬ 1 ∈ ([] : List Nat) by decide)) (DF.de (d_lc (own := [((PySem.Str.ofString "_law_lot"), 3)]) (show ∀ v ∈ ([3] : List Nat), ¬ v ∈ ([] : List Nat) by decide) (by decide) rfl sc_law_lots.nd (i_val (d_var (i := 1) (show ¬ 1 ∈ ([] : List Nat) by decide))) (blkOk_by (by kernel_rfl)) (fun _ _ _ _ _ => (g_name (i := 3) (show ¬ 3 ∈ ([] : List Nat) by decide) sc_law_lots.nd)) (fun _ _ _ _ _ => d_yes) (fun _ _ _ _ _ => (d_add (d_var (i := 3) (show ¬ 3 ∈ ([] : List Nat) by decide)) (d_tup (a_cons (d_var (i := 2) (show ¬ 2 ∈ ([] : List Nat) by decide)) a_nil)))))))))
  ss_nil)))
  (ss_cons (s_ret rfl (d_var (i := 1) (show ¬ 1 ∈ ([] : List Nat) by decide)))
  ss_nil)))
theorem sc_law : FnScope [(PySem.Str.ofString "_law_script"), (PySem.Str.ofString "_law_at"), (PySem.Str.ofString "_law_numbers_here"), (PySem.Str.ofString "_law_net_here"), (PySem.Str.ofString "_law_arcs"), (PySem.Str.ofString "_law_knows_here"), (PySem.Str.ofString "_law_told_here"), (PySem.Str.ofString "_law_due"), (PySem.Str.ofString "_law_places"), (PySem.Str.ofString "_law_lot"), (PySem.Str.ofString "_law_eight"), (PySem.Str.ofString "_law_pairs"), (PySem.Str.ofString "_law_great"), (PySem.Str.ofString "_law_arc"), (PySem.Str.ofString "_law_i")] [(PySem.Str.ofString "_law_script")] (defScope st_law) := ⟨rfl, rfl, rfl, by decide +kernel, rfl, by decide +kernel, by decide +kernel⟩
theorem ok_law (T : Txt G) : FnG G.P G.w G.K G.mg G.base (L2N.CX G.P G.w) 8 T.f_law T.fd_law [(PySem.Str.ofString "_law_script")] (spOf G [false] false fn_law) :=
  fng_of (G := G) (M := []) T.F_law sc_law rfl (by decide) (.inl rfl) fun cdv A outer s H E io Hv hio hgd hr =>
  (ss_cons (s_for (passes_of rfl) rfl (i_iK (io_not (js := [false, true, true, true, true, true, true, true, true, true, true, true, true, false, false]) hio rfl) (i_range1 (d_b2 cas_min2 (call_min2 rfl) T.n_min (d_b1 (cas_len rfl) call_len T.n_len (d_var (i := 0) (show ¬ 0 ∈ ([] : List Nat) by decide))) d_int) T.n_range)) (g_name (i := 1) (show ¬ 1 ∈ ([] : List Nat) by decide) sc_law.nd)
  (ss_sK (io_not (js := [false, true, true, true, true, true, true, true, true, true, true, true, true, false, false]) hio rfl) (ss_cons (s_set (i := 2) (show ¬ 2 ∈ ([] : List Nat) by decide) sc_law.nd (d_call (ok_law_numbers T) (hr.mono (by decide)) T.m_law_numbers T.F_law_numbers.kp T.b_law_numbers (fun σ => L2N.passAt (L2N.takes_of rfl rfl rfl rfl) σ) (a_cons (d_ix (d_var (i := 0) (show ¬ 0 ∈ ([] : List Nat) by decide)) (d_var (i := 1) (show ¬ 1 ∈ ([] : List Nat) by decide))) (a_cons (d_var (i := 1) (show ¬ 1 ∈ ([] : List Nat) by decide)) (a_cons d_int a_nil)))))
  (ss_cons (s_set (i := 3) (show ¬ 3 ∈ ([] : List Nat) by decide) sc_law.nd (d_call (ok_law_net T) (hr.mono (by decide)) T.m_law_net T.F_law_net.kp T.b_law_net (fun σ => L2N.passAt (L2N.takes_of rfl rfl rfl rfl) σ) (a_cons (d_var (i := 2) (show ¬ 2 ∈ ([] : List Nat) by decide)) (a_cons d_int (a_cons d_int a_nil)))))
  (ss_cons (s_sKn (io_not (js := [false, false, false, false, true, false, false, false, false, false, false, false, false, false, false]) hio rfl) (s_if (dt_cmp (ops_eqA) (op_eqA (u64 hr)) (d_mod (d_t1 cas_int call_intA T.n_int (d_ix (d_var (i := 2) (show ¬ 2 ∈ ([] : List Nat) by decide)) d_int)) d_int) d_int rfl)
  (ss_cons (s_set (i := 4) (show ¬ 4 ∈ ([] : List Nat) by decide) sc_law.nd (DF.de (d_catF (d_ix (d_var (i := 3) (show ¬ 3 ∈ ([] : List Nat) by decide)) d_int) (DF.de (d_lc (own := [((PySem.Str.ofString "_law_arc"), 13)]) (show ∀ v ∈ ([13] : List Nat), ¬ v ∈ ([] : List Nat) by decide) (by decide) rfl sc_law.nd (i_val (d_ix (d_var (i := 3) (show ¬ 3 ∈ ([] : List Nat) by decide)) d_int)) (blkOk_by (by kernel_rfl)) (fun _ _ _ _ _ => (g_name (i := 13) (show ¬ 13 ∈ ([] : List Nat) by decide) sc_law.nd)) (fun _ _ _ _ _ => (pts1 (dt_cmp (ops_notInA2) (op_notInA2 (u65 hr)) (d_tup (a_cons (d_ix (d_var (i := 13) (show ¬ 13 ∈ ([] : List Nat) by decide)) d_int) (a_cons (d_ix (d_var (i := 13) (show ¬ 13 ∈ ([] : List Nat) by decide)) d_int) a_nil))) (d_ix (d_var (i := 3) (show ¬ 3 ∈ ([] : List Nat) by decide)) d_int) rfl))) (fun _ _ _ _ _ => (d_tup (a_cons (d_ix (d_var (i := 13) (show ¬ 13 ∈ ([] : List Nat) by decide)) d_int) (a_cons (d_ix (d_var (i := 13) (show ¬ 13 ∈ ([] : List Nat) by decide)) d_int) a_nil)))))))))
  (ss_cons (s_set (i := 3) (show ¬ 3 ∈ ([] : List Nat) by decide) sc_law.nd (d_tup (a_cons (d_ix (d_var (i := 3) (show ¬ 3 ∈ ([] : List Nat) by decide)) d_int) (a_cons (DF.de (d_b1F (caf_sort rfl) (cr_sortA (u16 hr)) T.n_sorted (d_var (i := 4) (show ¬ 4 ∈ ([] : List Nat) by decide)))) a_nil))))
  ss_nil))
  ss_nil))
  (ss_cons (s_set (i := 5) (show ¬ 5 ∈ ([] : List Nat) by decide) sc_law.nd (d_call (ok_law_knows T) (hr.mono (by decide)) T.m_law_knows T.F_law_knows.kp T.b_law_knows (fun σ => L2N.passAt (L2N.takes_of rfl rfl rfl rfl) σ) (a_cons (d_var (i := 3) (show ¬ 3 ∈ ([] : List Nat) by decide)) a_nil)))
  (ss_cons (s_set (i := 6) (show ¬ 6 ∈ ([] : List Nat) by decide) sc_law.nd (d_callG (ok_law_told T) (hr.mono (by decide)) hgd T.m_law_told T.F_law_told.kp T.b_law_told (fun σ => L2N.passAt (L2N.takes_of rfl rfl rfl rfl) σ) (a_cons (DF.de (d_make (c := 0) 2 T.mk_Net (ok_Net_init T) (aLenC (aLenC aLenN)) (hr.mono (by decide)) T.m_Net T.b_Net_init (fun σ => L2N.passAt (L2N.takes_of rfl rfl rfl rfl) σ) (a_cons (d_ix (d_var (i := 3) (show ¬ 3 ∈ ([] : List Nat) by decide)) d_int) (a_cons (d_ix (d_var (i := 3) (show ¬ 3 ∈ ([] : List Nat) by decide)) d_int) a_nil)))) a_nil)))
  (ss_cons (s_set (i := 7) (show ¬ 7 ∈ ([] : List Nat) by decide) sc_law.nd (d_call (ok_law_fewest T) (hr.mono (by decide)) T.m_law_fewest T.F_law_fewest.kp T.b_law_fewest (fun σ => L2N.passAt (L2N.takes_of rfl rfl rfl rfl) σ) (a_cons (DF.de (d_lc (own := [((PySem.Str.ofString "_law_lot"), 9)]) (show ∀ v ∈ ([9] : List Nat), ¬ v ∈ ([] : List Nat) by decide) (by decide) rfl sc_law.nd (i_val (d_call (ok_law_lots T) (hr.mono (by decide)) T.m_law_lots T.F_law_lots.kp T.b_law_lots (fun σ => L2N.passAt (L2N.takes_of rfl rfl rfl rfl) σ) (a_cons (d_ix (d_var (i := 3) (show ¬ 3 ∈ ([] : List Nat) by decide)) d_int) a_nil))) (blkOk_by (by kernel_rfl)) (fun _ _ _ _ _ => (g_name (i := 9) (show ¬ 9 ∈ ([] : List Nat) by decide) sc_law.nd)) (fun _ _ _ _ _ => d_yes) (fun _ _ _ _ _ => (d_call (ok_law_are_friends T) (hr.mono (by decide)) T.m_law_are_friends T.F_law_are_friends.kp T.b_law_are_friends (fun σ => L2N.passAt takes0N σ) (a_cons (d_var (i := 5) (show ¬ 5 ∈ ([] : List Nat) by decide)) (a_cons (d_var (i := 9) (show ¬ 9 ∈ ([] : List Nat) by decide)) a_nil)))))) a_nil)))
  (ss_cons (s_if (DW.dt (dw_or (dt_cmp (ops_neA) (op_neA (u64 hr)) (d_ix (d_var (i := 6) (show ¬ 6 ∈ ([] : List Nat) by decide)) d_int) d_str rfl) (dw_or (dt_not (dt_val (d_isi .tup (d_ix (d_var (i := 6) (show ¬ 6 ∈ ([] : List Nat) by decide)) d_int) T.n_isinstance T.n_tuple (by decide +kernel)))) (dw_or1 (dt_cmp (ops_neA) (op_neA (u64 hr)) (d_b1 (cas_len rfl) call_len T.n_len (d_ix (d_var (i := 6) (show ¬ 6 ∈ ([] : List Nat) by decide)) d_int)) (d_var (i := 7) (show ¬ 7 ∈ ([] : List Nat) by decide)) rfl)))))
  (ss_cons (s_ret rfl d_bl)
  ss_nil)
  ss_nil)
  (ss_cons (s_set (i := 8) (show ¬ 8 ∈ ([] : List Nat) by decide) sc_law.nd (DF.de (d_lst a_nil)))
  (ss_cons (s_for (passes_of rfl) rfl (i_iK (io_not (js := [false, false, false, false, false, false, false, false, false, true, false, false, false, false, false]) hio rfl) (i_val (d_ix (d_var (i := 6) (show ¬ 6 ∈ ([] : List Nat) by decide)) d_int))) (g_name (i := 9) (show ¬ 9 ∈ ([] : List Nat) by decide) sc_law.nd)
  (ss_sK (io_not (js := [false, false, false, false, false, false, false, false, false, true, false, false, false, false, false]) hio rfl) (ss_cons (s_if (DW.dt (dw_or (dt_not (dt_val (d_isi .tup (d_var (i := 9) (show ¬ 9 ∈ ([] : List Nat) by decide)) T.n_isinstance T.n_tuple (by decide +kernel)))) (dw_or (dt_cmp (ops_eqA) (op_eqA (u64 hr)) (d_b1 (cas_len rfl) call_len T.n_len (d_var (i := 9) (show ¬ 9 ∈ ([] : List Nat) by decide))) d_int rfl) (dw_or1 (dt_not (dt_val (d_call (ok_law_are_friends T) (hr.mono (by decide)) T.m_law_are_friends T.F_law_are_friends.kp T.b_law_are_friends (fun σ => L2N.passAt (L2N.takes_of rfl rfl rfl rfl) σ) (a_cons (d_var (i := 5) (show ¬ 5 ∈ ([] : List Nat) by decide)) (a_cons (d_var (i := 9) (show ¬ 9 ∈ ([] : List Nat) by decide)) a_nil)))))))))
  (ss_cons (s_ret rfl d_bl)
  ss_nil)
  ss_nil)
  (ss_cons (s_if (dt_cmp (ops_neA) (op_neA (u64 hr)) (DF.de (d_t1F (caf_lst rfl) call_list_of T.n_list (d_var (i := 9) (show ¬ 9 ∈ ([] : List Nat) by decide)))) (DF.de (d_b1F (caf_sortTI rfl) (cr_sortTI (u16 hr)) T.n_sorted (d_var (i := 9) (show ¬ 9 ∈ ([] : List Nat) by decide)))) rfl)
  (ss_cons (s_ret rfl d_bl)
  ss_nil)
  ss_nil)
  (ss_cons (s_set (i := 8) (show ¬ 8 ∈ ([] : List Nat) by decide) sc_law.nd (DF.de (d_catF (d_var (i := 8) (show ¬ 8 ∈ ([] : List Nat) by decide)) (DF.de (d_t1F (caf_lst rfl) call_list_of T.n_list (d_var (i := 9) (show ¬ 9 ∈ ([] : List Nat) by decide)))))))
  ss_nil)))))
  (ss_cons (s_if (dt_not (dt_val (d_call (ok_law_same T) (hr.mono (by decide)) T.m_law_same T.F_law_same.kp T.b_law_same (fun σ => L2N.passAt (L2N.takes_of rfl rfl rfl rfl) σ) (a_cons (d_t1 (cas_tup rfl) call_tuple_of T.n_tuple (DF.de (d_b1F (caf_sort rfl) (cr_sortA (u16 hr)) T.n_sorted (d_var (i := 8) (show ¬ 8 ∈ ([] : List Nat) by decide))))) (a_cons (d_tupRg (d_ix (d_var (i := 3) (show ¬ 3 ∈ ([] : List Nat) by decide)) d_int) T.n_tuple T.n_range) a_nil)))))
  (ss_cons (s_ret rfl d_bl)
  ss_nil)
  ss_nil)
  (ss_cons (s_setLcV (i := 10) (own := [((PySem.Str.ofString "_law_i"), 14)]) (show ∀ v ∈ ([14] : List Nat), ¬ v ∈ ([] : List Nat) by decide) (by decide) (show ¬ 10 ∈ ([] : List Nat) by decide) rfl sc_law.nd (i_range1 d_int T.n_range) (blkOk_by (by kernel_rfl)) (fun _ _ _ _ _ => (g_name (i := 14) (show ¬ 14 ∈ ([] : List Nat) by decide) sc_law.nd)) (fun _ _ _ _ _ => d_yes) (fun _ _ _ _ _ => (d_tup (a_cons (d_t1 cas_int call_intA T.n_int (d_var (i := 14) (show ¬ 14 ∈ ([] : List Nat) by decide))) (a_cons (d_t1 cas_int call_intA T.n_int (d_sub (d_add (d_var (i := 14) (show ¬ 14 ∈ ([] : List Nat) by decide)) d_int) (d_mul d_int (d_mod (d_t1 cas_int call_intA T.n_int (d_var (i := 14) (show ¬ 14 ∈ ([] : List Nat) by decide))) d_int)))) a_nil)))) (sw_true rfl rfl rfl (by decide +kernel)))
  (ss_cons (s_set (i := 11) (show ¬ 11 ∈ ([] : List Nat) by decide) sc_law.nd (d_callG (ok_law_told T) (hr.mono (by decide)) hgd T.m_law_told T.F_law_told.kp T.b_law_told (fun σ => L2N.passAt (L2N.takes_of rfl rfl rfl rfl) σ) (a_cons (DF.de (d_make (c := 0) 2 T.mk_Net (ok_Net_init T) (aLenC (aLenC aLenN)) (hr.mono (by decide)) T.m_Net T.b_Net_init (fun σ => L2N.passAt (L2N.takes_of rfl rfl rfl rfl) σ) (a_cons d_int (a_cons (d_var (i := 10) (show ¬ 10 ∈ ([] : List Nat) by decide)) a_nil)))) a_nil)))
  (ss_cons (s_if (DW.dt (dw_or (dt_cmp (ops_neA) (op_neA (u64 hr)) (d_ix (d_var (i := 11) (show ¬ 11 ∈ ([] : List Nat) by decide)) d_int) d_str rfl) (dw_or (dt_cmp (ops_neA) (op_neA (u64 hr)) (d_b1 (cas_len rfl) call_len T.n_len (d_ix (d_var (i := 11) (show ¬ 11 ∈ ([] : List Nat) by decide)) d_int)) d_int rfl) (dw_or1 (dt_cmp (ops_neA) (op_neA (u64 hr)) (DF.de (d_b1F (caf_sort rfl) (cr_sortA (u16 hr)) T.n_sorted (DF.de (d_t1F (caf_lst rfl) call_list_of T.n_list (d_ix (d_var (i := 11) (show ¬ 11 ∈ ([] : List Nat) by decide)) d_int))))) (DF.de (d_ev2L (d_var (i := 10) (show ¬ 10 ∈ ([] : List Nat) by decide)))) rfl)))))
  (ss_cons (s_ret rfl d_bl)
  ss_nil)
  ss_nil)
  (ss_cons (s_set (i := 12) (show ¬ 12 ∈ ([] : List Nat) by decide) sc_law.nd (d_add d_int (d_mod (d_t1 cas_int call_intA T.n_int (d_ix (d_var (i := 2) (show ¬ 2 ∈ ([] : List Nat) by decide)) d_int)) d_int)))
  (ss_cons (s_if (dt_not (dt_val (d_call (ok_law_same T) (hr.mono (by decide)) T.m_law_same T.F_law_same.kp T.b_law_same (fun σ => L2N.passAt (L2N.takes_of rfl rfl rfl rfl) σ) (a_cons (d_callG (ok_law_told T) (hr.mono (by decide)) hgd T.m_law_told T.F_law_told.kp T.b_law_told (fun σ => L2N.passAt (L2N.takes_of rfl rfl rfl rfl) σ) (a_cons (DF.de (d_make (c := 0) 2 T.mk_Net (ok_Net_init T) (aLenC (aLenC aLenN)) (hr.mono (by decide)) T.m_Net T.b_Net_init (fun σ => L2N.passAt (L2N.takes_of rfl rfl rfl rfl) σ) (a_cons (d_var (i := 12) (show ¬ 12 ∈ ([] : List Nat) by decide)) (a_cons (DF.de (d_lst (a_cons (d_tup (a_cons d_int (a_cons d_int a_nil))) (a_cons (d_tup (a_cons d_int (a_cons d_int a_nil))) a_nil)))) a_nil)))) a_nil)) (a_cons (d_tup (a_cons d_str (a_cons (d_repr hgd (u101 hr) d_str T.n_repr) a_nil))) a_nil)))))
  (ss_cons (s_ret rfl d_bl)
  ss_nil)
  ss_nil)
  ss_nil)))))))))))))))))
  (ss_cons (s_ret rfl d_bl)
  ss_nil))
end
end Lk33
namespace Lk33
open PySem KS KT
theorem numbers (cell at_ many : Int) (h0 : 0 ≤ many) (h1 : many < 1000) : Oks (T_law_numbers cell at_ many) fun l => l.length = many.toNat ∧ ∀ x ∈ l, 0 ≤ x ∧ x < 1000 := by
  unfold T_law_numbers
  refine oks_lt (oks_lt ?_)
  refine oks_ck (by unfold okR; omega) ?_
  refine oks_bind (P := fun s => s.2.length = many.toNat ∧ ∀ x ∈ s.2, 0 ≤ x ∧ x < 1000) ?_ fun s h => oks_ok h
  refine oks_fold (fun pre s => s.2.length = pre.length ∧ ∀ x ∈ s.2, 0 ≤ x ∧ x < 1000) ⟨rfl, fun x hx => by cases hx⟩ ?_ ?_
  · rintro pre a post ⟨rest, out⟩ e ⟨hl, hx⟩
    dsimp only at hl hx
    have hlen : pre.length + 1 ≤ 1000 := by
      have := congrArg List.length e
      rw [rng_len] at this
      simp at this
      omega
    have app : appC out := by unfold appC; omega
    have add : ∀ y : Int, 0 ≤ y → y < 1000 → (out ++ [y]).length = (pre ++ [a]).length ∧ ∀ x ∈ out ++ [y], 0 ≤ x ∧ x < 1000 := fun y y0 y1 => by
      refine ⟨by simp [hl], fun x h => ?_⟩
      rcases List.mem_append.mp h with h | h
      · exact hx x h
      · rw [List.mem_singleton.mp h]; exact ⟨y0, y1⟩
    refine oks_ifb (fun _ => ?_) fun _ => ?_
    · refine oks_ck app (oks_lt (oks_ok ?_))
      exact add _ (by dsimp only; omega) (by dsimp only; omega)
    · refine oks_lt (oks_ck (.inl (by omega)) (oks_lt (oks_ck (.inl (by omega)) (oks_lt (oks_ck app (oks_ok ?_))))))
      exact add _ (by omega) (by omega)
  · rintro s ⟨hl, hx⟩
    exact ⟨by rw [hl, rng_len]; omega, hx⟩
/-- the draws -/
structure Nums (l : List Int) : Prop where
  len : l.length = 50
  rng : ∀ x ∈ l, 0 ≤ x ∧ x < 1000
theorem Nums.at {l : List Int} (h : Nums l) {i : Int} (h0 : 0 ≤ i) (h1 : i < 50) : ∃ x, L2.atI l i = some x ∧ 0 ≤ x ∧ x < 1000 := by
  obtain ⟨x, e, m, _⟩ := at_some (l := l) h0 (by rw [h.len]; exact h1)
  exact ⟨x, e, h.rng x m⟩
theorem ins_perm {α : Type} (l : List α) (i : Int) (a : α) : (insT l i a).Perm (a :: l) := by
  unfold insT
  rw [List.append_assoc]
  refine (List.perm_middle (a := a) (l₁ := l.take i.toNat) (l₂ := l.drop i.toNat)).trans ?_
  rw [List.take_append_drop]
theorem rng_snoc {n : Int} {pre post : List Int} {a : Int} (e : rngT 0 n = pre ++ a :: post) : a = pre.length ∧ (pre.length : Int) < n ∧ pre = rngT 0 pre.length := by
  have hl := congrArg List.length e
  rw [rng_len, List.length_append, List.length_cons] at hl
  have h1 : pre.length < (n - 0).toNat := by omega
  have h2 := rng_get (i := 0) h1
  rw [e] at h2
  simp at h2
  refine ⟨h2, by omega, ?_⟩
  refine List.ext_getElem? fun j => ?_
  by_cases hj : j < pre.length
  · have h3 := rng_get (i := 0) (n := n) (k := j) (by omega)
    rw [e, List.getElem?_append_left hj] at h3
    rw [h3, rng_get (by omega)]
  · rw [List.getElem?_eq_none (by omega), List.getElem?_eq_none (by rw [rng_len]; omega)]
theorem order {l : List Int} (N : Nums l) {k size : Int} (h0 : 0 ≤ k) (s0 : 0 ≤ size) (h1 : k + size ≤ 50) : Oks (T_law_order l k size) fun o => o.Perm (rngT 0 size) := by
  unfold T_law_order
  refine oks_ck (by unfold okR; omega) ?_
  refine oks_bind (P := fun o => o.Perm (rngT 0 size)) ?_ fun s h => oks_ok h
  refine oks_fold (fun pre o => o.Perm pre) (.refl _) ?_ fun s h => h
  intro pre a post o e h
  obtain ⟨ha, hn, _⟩ := rng_snoc e
  obtain ⟨x, ex, x0, x1⟩ := N.at (i := k + a) (by omega) (by omega)
  refine oks_opt ex (oks_ck (by omega) (oks_ck ?_ (oks_ok ?_)))
  · have hl := h.length_eq
    have m1 := Int.emod_nonneg x (show a + 1 ≠ 0 by omega)
    have m2 := Int.emod_lt_of_pos x (show 0 < a + 1 by omega)
    unfold insC
    omega
  · exact (ins_perm _ _ _).trans ((List.Perm.cons a h).trans (by
      have := (List.perm_middle (a := a) (l₁ := pre) (l₂ := [])).symm
      simpa using this))
end Lk33
namespace Lk33
open PySem KS KT
def ltP (p q : Int × Int) : Prop := p.1 < q.1 ∨ (p.1 = q.1 ∧ p.2 < q.2)
/-- a net's arcs -/
structure VN (n : Int) (as : List (Int × Int)) : Prop where
  lo : 1 ≤ n
  hi : n ≤ 12
  rng : ∀ p ∈ as, (0 ≤ p.1 ∧ p.1 < n) ∧ (0 ≤ p.2 ∧ p.2 < n) ∧ p.1 ≠ p.2
  ord : as.Pairwise ltP
  len : as.length ≤ 100
theorem leP_iff {p q : Int × Int} : leP p q = true ↔ p.1 < q.1 ∨ (p.1 = q.1 ∧ p.2 ≤ q.2) := by
  unfold leP
  rw [decide_eq_true_iff]
theorem ord_sort {l : List (Int × Int)} (h : l.Nodup) : (l.mergeSort leP).Pairwise ltP := by
  have h1 : (l.mergeSort leP).Pairwise fun a b => leP a b = true := List.pairwise_mergeSort (fun a b c h1 h2 => by
    rw [leP_iff] at *; omega) (fun a b => by
    have : leP a b = true ∨ leP b a = true := by rw [leP_iff, leP_iff]; omega
    rcases this with h | h <;> simp [h]) l
  have h2 : (l.mergeSort leP).Pairwise (· ≠ ·) := ((List.mergeSort_perm l leP).nodup_iff).mpr h
  refine (h1.and h2).imp ?_
  rintro ⟨a, b⟩ ⟨c, d⟩ ⟨h, n⟩
  rw [leP_iff] at h
  unfold ltP
  dsimp only at h ⊢
  have : ¬ (a = c ∧ b = d) := fun ⟨x, y⟩ => n (by rw [x, y])
  omega
theorem erase_sub {α : Type} [DecidableEq α] (l : List α) (a : α) : (eraseT l a).Sublist l := by
  induction l with
  | nil => exact .refl _
  | cons b l ih =>
    unfold eraseT
    split
    · exact List.sublist_cons_self ..
    · exact ih.cons₂ b
theorem five {o : List Int} (h : o.Perm (rngT 0 5)) : ∃ a b c d e : Int, o = [a, b, c, d, e] ∧ [a, b, c, d, e].Nodup ∧ ∀ x ∈ [a, b, c, d, e], 0 ≤ x ∧ x < 5 := by
  have hl := h.length_eq
  rw [rng_len] at hl
  have hn := (h.nodup_iff).mpr (rng_nodup 0 5)
  have hm : ∀ x ∈ o, 0 ≤ x ∧ x < 5 := fun x hx => mem_rng.mp ((h.mem_iff).mp hx)
  match o, hl, hn, hm with
  | [a, b, c, d, e], _, hn, hm => exact ⟨a, b, c, d, e, rfl, hn, hm⟩
theorem ring {l : List Int} (N : Nums l) {k : Int} (h0 : 0 ≤ k) (h1 : k ≤ 10) : Oks (T_law_ring_of_five l k) fun p => p.1 = 5 ∧ VN 5 p.2 := by
  unfold T_law_ring_of_five
  refine oks_call (order N h0 (by omega) (by omega)) fun o ho => ?_
  obtain ⟨a, b, c, d, e, rfl, hn, hm⟩ := five ho
  refine oks_bind (P := fun s => s = [(a, b), (b, a), (b, c), (c, b), (c, d), (d, c), (d, e), (e, d), (e, a), (a, e)]) ⟨_, rfl, rfl⟩ fun s hs => ?_
  obtain ⟨x, ex, x0, x1⟩ := N.at (i := k + 5) (by omega) (by omega)
  refine oks_opt ex (oks_ck (by unfold okR; omega) ?_)
  refine oks_bind (P := fun s => s.Nodup ∧ s.length ≤ 13 ∧ ∀ p ∈ s, (0 ≤ p.1 ∧ p.1 < 5) ∧ (0 ≤ p.2 ∧ p.2 < 5) ∧ p.1 ≠ p.2) ?_ fun s hs => ?_
  · refine oks_fold (fun pre s => s.Nodup ∧ s.length ≤ 10 + pre.length ∧ ∀ p ∈ s, (0 ≤ p.1 ∧ p.1 < 5) ∧ (0 ≤ p.2 ∧ p.2 < 5) ∧ p.1 ≠ p.2) ?_ ?_ ?_
    · subst hs
      simp only [List.nodup_cons, List.mem_cons, not_or, List.not_mem_nil, not_false_eq_true, and_true, List.nodup_nil, or_false, forall_eq_or_imp, forall_eq] at hn hm
      obtain ⟨⟨h1, h2, h3, h4⟩, ⟨h5, h6, h7⟩, ⟨h8, h9⟩, h10⟩ := hn
      refine ⟨?_, by simp, ?_⟩
      · simp only [List.nodup_cons, List.mem_cons, not_or, List.not_mem_nil, not_false_eq_true, and_true, List.nodup_nil, or_false, Prod.mk.injEq]
        omega
      · simp only [List.mem_cons, List.not_mem_nil, or_false, forall_eq_or_imp, forall_eq]
        omega
    · rintro pre j post s e1 ⟨hd, hl, hr⟩
      obtain ⟨hj, hjn, _⟩ := rng_snoc e1
      have m1 : x % 4 < 4 := Int.emod_lt_of_pos x (by omega)
      obtain ⟨y, ey, y0, y1⟩ := N.at (i := k + 6 + j) (by omega) (by omega)
      refine oks_opt ey (oks_lt (oks_opt ey (oks_lt ?_)))
      have n1 : 0 ≤ y % 5 ∧ y % 5 < 5 := by omega
      have n2 : 0 ≤ y / 5 % 4 ∧ y / 5 % 4 < 4 := by omega
      generalize hz : ((y % 5, (y % 5 + 1 + y / 5 % 4) % 5) : Int × Int) = z
      have hz' : (0 ≤ z.1 ∧ z.1 < 5) ∧ (0 ≤ z.2 ∧ z.2 < 5) ∧ z.1 ≠ z.2 := by
        subst hz
        dsimp only
        generalize y % 5 = u at *
        generalize y / 5 % 4 = v at *
        omega
      refine oks_ifb (fun hin => ?_) fun hin => ?_
      · refine oks_ck hin (oks_ok ⟨(erase_sub s z).nodup hd, ?_, fun p hp => hr p ((erase_sub s z).mem hp)⟩)
        have := (erase_sub s z).length_le
        simp only [List.length_append, List.length_cons, List.length_nil]
        omega
      · refine oks_ck (by unfold appC; omega) (oks_ok ⟨?_, ?_, fun p hp => ?_⟩)
        · refine List.nodup_append.mpr ⟨hd, by simp, fun p hp q hq => ?_⟩
          rw [List.mem_singleton.mp hq]
          rintro rfl
          rw [memT_iff.mpr hp] at hin
          cases hin
        · simp only [List.length_append, List.length_cons, List.length_nil]
          omega
        · rcases List.mem_append.mp hp with hp | hp
          · exact hr p hp
          · rw [List.mem_singleton.mp hp]; exact hz'
    · rintro s ⟨hd, hl, hr⟩
      refine ⟨hd, ?_, hr⟩
      rw [rng_len] at hl
      have m1 : x % 4 < 4 := Int.emod_lt_of_pos x (by omega)
      omega
  · obtain ⟨hd, hl, hr⟩ := hs
    refine oks_ok ⟨rfl, by decide, by decide, fun p hp => hr p (List.mem_mergeSort.mp hp), ord_sort hd, ?_⟩
    dsimp only
    rw [List.length_mergeSort]
    omega
theorem pow5 {i : Int} (h0 : 0 ≤ i) (h1 : i < 4) : ∃ x : Int, L2.atI [1, 5, 25, 125] i = some x ∧ 1 ≤ x ∧ x ≤ 125 := by
  have : i = 0 ∨ i = 1 ∨ i = 2 ∨ i = 3 := by omega
  rcases this with rfl | rfl | rfl | rfl
  · exact ⟨1, rfl, by decide, by decide⟩
  · exact ⟨5, rfl, by decide, by decide⟩
  · exact ⟨25, rfl, by decide, by decide⟩
  · exact ⟨125, rfl, by decide, by decide⟩
theorem net {l : List Int} (N : Nums l) {k m : Int} (h0 : 0 ≤ k) (h1 : k ≤ 9) (m0 : 1 ≤ m) (m1 : m ≤ 7) : Oks (T_law_net l k m) fun p => VN p.1 p.2 ∧ (p.1 ≤ m) := by
  unfold T_law_net
  obtain ⟨x, ex, x0, x1⟩ := N.at (i := k) (by omega) (by omega)
  rw [ex]
  refine oks_bind (P := fun p => p.1 = true → 4 < m) ?_ fun p hp => ?_
  · refine oks_ifb (fun h => ?_) fun h => ?_
    · exact oks_ok fun _ => of_decide_eq_true h
    · exact oks_ok fun h => by cases h
  refine oks_ifb (fun h => ?_) fun h => ?_
  · refine oks_call (ring N (by omega) (by omega)) fun p hp2 => oks_ok ?_
    have := hp h
    rw [hp2.1]
    exact ⟨hp2.2, by omega⟩
  refine oks_opt rfl (oks_ck (by omega) (oks_lt ?_))
  have d1 := Int.emod_nonneg (x / 3) (show m ≠ 0 by omega)
  have d2 := Int.emod_lt_of_pos (x / 3) (show 0 < m by omega)
  generalize hn : 1 + x / 3 % m = n
  have n1 : 1 ≤ n := by omega
  have n2 : n ≤ m := by omega
  refine oks_ck (by unfold okR; omega) ?_
  refine oks_bind (P := fun s => s.1.Pairwise ltP ∧ s.1.length ≤ 49 ∧ ∀ p ∈ s.1, (0 ≤ p.1 ∧ p.1 < n) ∧ (0 ≤ p.2 ∧ p.2 < n) ∧ p.1 ≠ p.2) ?_ fun s hs => ?_
  · refine oks_fold (fun pre s => s.1.Pairwise ltP ∧ (s.1.length : Int) ≤ s.2 ∧ 0 ≤ s.2 ∧ s.2 ≤ 7 * (pre.length : Int) ∧ ∀ p ∈ s.1, (0 ≤ p.1 ∧ p.1 < (pre.length : Int)) ∧ (0 ≤ p.2 ∧ p.2 < n) ∧ p.1 ≠ p.2) ?_ ?_ ?_
    · exact ⟨.nil, by decide, by decide, by decide, fun p hp => by cases hp⟩
    · rintro pre i post ⟨as, at_⟩ e1 ⟨ho, hl, ha, hb, hr⟩
      obtain ⟨hi, hin, _⟩ := rng_snoc e1
      dsimp only at ho hl ha hb hr
      refine oks_ck (by unfold okR; omega) ?_
      refine oks_bind (P := fun s => s.1.Pairwise ltP ∧ (s.1.length : Int) ≤ s.2 ∧ 0 ≤ s.2 ∧ s.2 ≤ 7 * (pre.length : Int) + n ∧ ∀ p ∈ s.1, (0 ≤ p.1 ∧ p.1 ≤ i) ∧ (0 ≤ p.2 ∧ p.2 < n) ∧ p.1 ≠ p.2) ?_ fun s hs => ?_
      · refine oks_fold (fun pre2 s => s.1.Pairwise ltP ∧ (s.1.length : Int) ≤ s.2 ∧ 0 ≤ s.2 ∧ s.2 ≤ 7 * (pre.length : Int) + (pre2.length : Int) ∧ ∀ p ∈ s.1, (0 ≤ p.1 ∧ (p.1 < i ∨ (p.1 = i ∧ p.2 < (pre2.length : Int)))) ∧ (0 ≤ p.2 ∧ p.2 < n) ∧ p.1 ≠ p.2) ?_ ?_ ?_
        · refine ⟨ho, hl, ha, by simpa using hb, fun p hp => ?_⟩
          have := hr p hp
          refine ⟨⟨this.1.1, .inl ?_⟩, this.2⟩
          omega
        · rintro pre2 j post2 ⟨as2, at2⟩ e2 ⟨ho2, hl2, ha2, hb2, hr2⟩
          obtain ⟨hj, hjn, _⟩ := rng_snoc e2
          dsimp only at ho2 hl2 ha2 hb2 hr2
          have keep : ∀ p ∈ as2, (0 ≤ p.1 ∧ (p.1 < i ∨ (p.1 = i ∧ p.2 < ((pre2 ++ [j]).length : Int)))) ∧ (0 ≤ p.2 ∧ p.2 < n) ∧ p.1 ≠ p.2 := fun p hp => by
            have := hr2 p hp
            simp only [List.length_append, List.length_cons, List.length_nil]
            omega
          refine oks_ifb (fun hne => ?_) fun hne => ?_
          · have hne' : i ≠ j := by
              intro h
              rw [decide_eq_true h] at hne
              cases hne
            obtain ⟨y, ey, y0, y1⟩ := N.at (i := k + 1 + at2 / 4) (by omega) (by omega)
            obtain ⟨w, ew, w0, w1⟩ := pow5 (i := at2 % 4) (by omega) (by omega)
            refine oks_opt ey (oks_opt ew (oks_ck (by unfold divC; omega) (oks_lt (oks_lt ?_))))
            refine oks_opt rfl (oks_opt rfl ?_)
            refine oks_if (fun _ => ?_) fun _ => ?_
            · refine oks_ck (by unfold appC; dsimp only; omega) (oks_ok ?_)
              refine ⟨?_, ?_, by dsimp only; omega, ?_, fun p hp => ?_⟩
              · refine List.pairwise_append.mpr ⟨ho2, by simp, fun p hp q hq => ?_⟩
                rw [List.mem_singleton.mp hq]
                have := hr2 p hp
                unfold ltP
                dsimp only at *
                omega
              · simp only [List.length_append, List.length_cons, List.length_nil]
                omega
              · simp only [List.length_append, List.length_cons, List.length_nil]
                omega
              · rcases List.mem_append.mp hp with hp | hp
                · exact keep p hp
                · rw [List.mem_singleton.mp hp]
                  simp only [List.length_append, List.length_cons, List.length_nil]
                  refine ⟨⟨by omega, .inr ⟨trivial, by omega⟩⟩, ⟨by omega, by omega⟩, hne'⟩
            · refine oks_ok ⟨ho2, by dsimp only; omega, by dsimp only; omega, ?_, keep⟩
              simp only [List.length_append, List.length_cons, List.length_nil]
              omega
          · refine oks_ok ⟨ho2, by dsimp only; omega, by dsimp only; omega, ?_, keep⟩
            simp only [List.length_append, List.length_cons, List.length_nil]
            omega
        · rintro s ⟨ho2, hl2, ha2, hb2, hr2⟩
          rw [rng_len] at hb2
          refine ⟨ho2, hl2, ha2, by omega, fun p hp => ?_⟩
          have := hr2 p hp
          omega
      · obtain ⟨ho2, hl2, ha2, hb2, hr2⟩ := hs
        refine oks_ok ⟨ho2, hl2, ha2, ?_, fun p hp => ?_⟩
        · simp only [List.length_append, List.length_cons, List.length_nil]
          omega
        · have := hr2 p hp
          simp only [List.length_append, List.length_cons, List.length_nil]
          omega
    · rintro s ⟨ho, hl, ha, hb, hr⟩
      rw [rng_len] at hb hr
      refine ⟨ho, by omega, fun p hp => ?_⟩
      have := hr p hp
      omega
  · obtain ⟨ho, hl, hr⟩ := hs
    exact oks_ok ⟨⟨n1, by dsimp only; omega, hr, ho, by dsimp only; omega⟩, n2⟩
end Lk33
namespace Lk33
open PySem KS KT
theorem leTs_pp (p q : Int × Int) : leTs [p.1, p.2] [q.1, q.2] = decide (p.1 < q.1 ∨ (p.1 = q.1 ∧ p.2 ≤ q.2)) := by
  unfold leTs
  show Ob.lexAt _ _ _ 0 2 = _
  rw [Ob.lexAt_succ, Ob.lexAt_succ, Ob.lexAt_zero]
  simp only [List.getD_cons_zero, List.getD_cons_succ, Nat.zero_add]
  by_cases h1 : p.1 = q.1
  · by_cases h2 : p.2 = q.2
    · simp [h1, h2]
    · simp [h1, h2]
  · simp [h1]
    omega
abbrev eA : Int × Int → DV := eP2 eI eI
theorem le_arc (p q : Int × Int) : leYo (eA p) (eA q) = some (decide (p.1 < q.1 ∨ (p.1 = q.1 ∧ p.2 ≤ q.2))) := by
  rw [← leTs_pp]
  rfl
theorem below (x m : Int) : T_is_below (eI x) m = .ok (decide (0 ≤ x) && decide (x < m)) := rfl
theorem enum_get {α : Type} (l : List α) (k : Nat) : (enumT l)[k]? = (l[k]?).map fun a => ((k : Int), a) := by
  unfold enumT
  rw [List.getElem?_map, List.getElem?_zipIdx]
  cases l[k]? <;> simp
theorem enum_snoc {α : Type} {l : List α} {pre post : List (Int × α)} {p : Int × α} (e : enumT l = pre ++ p :: post) : p.1 = pre.length ∧ l[pre.length]? = some p.2 := by
  have h := enum_get l pre.length
  rw [e, List.getElem?_append_right (Nat.le_refl _), Nat.sub_self, List.getElem?_cons_zero] at h
  cases hl : l[pre.length]? with
  | none => rw [hl] at h; cases h
  | some a =>
    rw [hl] at h
    injection h with h
    rw [h]
    exact ⟨rfl, rfl⟩
theorem wrong_arc {n : Int} {as : List (Int × Int)} (h : VN n as) {C : DV} (hC : C = .lst (as.map eA) ∨ C = .tup (as.map eA)) : T_first_wrong_arc n C = .ok none := by
  refine Oks.to ?_
  unfold T_first_wrong_arc
  have h1 : isiYs [.lst, .tup] C = some true := by rcases hC with rfl | rfl <;> rfl
  have h2 : seqY C = some (as.map eA) := by rcases hC with rfl | rfl <;> rfl
  refine oks_opt h1 (oks_ifb (fun h => by cases h) fun _ => oks_lt (oks_opt h2 ?_))
  refine oks_aft (P := fun w => match w with
    | .nx _ => True
    | .brk _ => True
    | .ret _ => False) ?_ (fun s _ => oks_ok rfl) (fun s _ => oks_ok rfl) (fun x h => h.elim)
  refine oks_loop (fun pre s => ∃ q, s = eA q ∧ ∀ a ∈ as.drop pre.length, ltP q a) ?_ ?_ fun s _ => trivial
  · refine ⟨(-1, -1), rfl, fun a ha => ?_⟩
    have := h.rng a (List.mem_of_mem_drop ha)
    exact .inl (by dsimp only; omega)
  · rintro pre p post s e ⟨q, rfl, hq⟩
    obtain ⟨_, hp⟩ := enum_snoc e
    rw [List.getElem?_map, Option.map_eq_some_iff] at hp
    obtain ⟨a, ha, he⟩ := hp
    have hd : as.drop pre.length = a :: as.drop (pre.length + 1) := by
      obtain ⟨hlt, rfl⟩ := List.getElem?_eq_some_iff.mp ha
      exact List.drop_eq_getElem_cons hlt
    have ham : a ∈ as := List.mem_of_getElem? ha
    have hr := h.rng a ham
    have hqa : ltP q a := hq a (by rw [hd]; exact List.mem_cons_self ..)
    have hnext : ∀ b ∈ as.drop (pre.length + 1), ltP a b := by
      have : (as.drop pre.length).Pairwise ltP := h.ord.sublist (List.drop_sublist ..)
      rw [hd, List.pairwise_cons] at this
      exact this.1
    rw [← he]
    refine oks_bind (P := fun p => p.1 = false) ?_ fun b hb => ?_
    · refine oks_opt (a := true) rfl (oks_ifb (fun h => by cases h) fun _ => ?_)
      refine oks_opt (a := 2) rfl (oks_ifb (fun h => by cases h) fun _ => ?_)
      refine oks_opt (a := [.int a.1, .int a.2]) rfl (oks_ck (show (2 : Nat) ≤ 16777216 by decide) ?_)
      refine oks_call (P := fun l => l.1 = [true, true]) ?_ fun l hl => oks_ok (by dsimp only; rw [hl]; rfl)
      refine ⟨([true, true], ()), ?_, rfl⟩
      unfold compT compT compT
      rw [show (DV.int a.1) = eI a.1 from rfl, show (DV.int a.2) = eI a.2 from rfl, below, below, decide_eq_true hr.1.1, decide_eq_true hr.1.2, decide_eq_true hr.2.1.1, decide_eq_true hr.2.1.2]
      rfl
    · rw [hb]
      refine oks_ifb (fun h => by cases h) fun _ => ?_
      refine oks_bind (P := fun p => p.1 = false) ?_ fun b hb => ?_
      · refine oks_opt (a := .int a.1) rfl (oks_opt (a := .int a.2) rfl (oks_opt (a := decide (a.1 = a.2)) (eqb_I ..) ?_))
        rw [decide_eq_false hr.2.2]
        refine oks_ifb (fun h => by cases h) fun _ => ?_
        refine oks_opt (le_arc a q) (oks_ok ?_)
        unfold ltP at hqa
        exact decide_eq_false (by omega)
      · rw [hb]
        refine oks_ifb (fun h => by cases h) fun _ => oks_ok ?_
        dsimp only
        refine ⟨a, rfl, ?_⟩
        rw [List.length_append]
        exact hnext
theorem decs_m {α : Type} {d : DV → Option α} {E : α → DV} (h : ∀ a, d (E a) = some a) : ∀ l : List α, decs d (l.map E) = some l
  | [] => rfl
  | a :: l => by
    rw [List.map_cons, decs, h, decs_m h l]
/-- whom each place knows -/
def kn (n : Int) (as : List (Int × Int)) : List (List Int) := (rngT 0 n).map fun i => (as.filter fun p => decide (p.1 = i)).map fun p => p.2
theorem init {n : Int} {as : List (Int × Int)} (h : VN n as) : T_Net_init n (eL eA as) = .ok ((), (n, as, kn n as)) := by
  refine Oks.to ?_
  unfold T_Net_init
  have lo := h.lo
  have hi := h.hi
  refine oks_call (Oks.eq (below n (12 + 1))) ?_
  rintro _ rfl
  refine oks_if (fun h2 => ?_) fun _ => ?_
  · exfalso
    simp at h2
    omega
  refine oks_call (Oks.eq (wrong_arc h (.inl rfl))) ?_
  rintro _ rfl
  refine oks_if (fun h2 => by cases h2) fun _ => oks_lt ?_
  refine oks_opt (a := eT eA as) rfl ?_
  refine oks_opt (a := as) (decs_m (d := asP2 asI asI) (E := eA) (fun a => rfl) as) (oks_lt ?_)
  have hl := h.len
  refine oks_ck (by unfold okR; omega) (oks_ck (by omega) (oks_ck ?_ (oks_lt (oks_ok rfl))))
  rw [rng_len]
  omega
theorem knows {n : Int} {as : List (Int × Int)} (h : VN n as) : T_law_knows (n, as) = .ok (kn n as) := by
  refine Oks.to ?_
  unfold T_law_knows
  have lo := h.lo
  have hi := h.hi
  have hl := h.len
  refine oks_ck (by unfold okR; dsimp only; omega) ?_
  refine oks_bind (P := fun s => s = kn n as) ?_ fun s hs => oks_ok hs
  refine oks_fold (fun pre s => s = pre.map fun i => (as.filter fun p => decide (p.1 = i)).map fun p => p.2) rfl ?_ ?_
  · rintro pre i post s e rfl
    obtain ⟨hi2, hin, _⟩ := rng_snoc e
    dsimp only at hin
    refine oks_ck (by dsimp only; omega) (oks_ck ?_ (oks_ok ?_))
    · unfold appC
      rw [List.length_map]
      omega
    · rw [List.map_append]
      rfl
  · rintro s rfl
    rfl
end Lk33
namespace Lk33
open PySem KS KT KL
open KN (LotOf lotsN mem_lotsN lotsN_len lotsN_len_of)
theorem sameN : ∀ (n : Nat) (v : DV), plV n v = true → T_law_sameN n v v = .ok true
  | 0, v, h => by cases v <;> cases h
  | n + 1, v, h => by
    refine Oks.to ?_
    unfold T_law_sameN
    cases v with
    | non => exact oks_ok rfl
    | str x =>
      refine oks_ifb (fun h => by cases h) fun _ => oks_opt (a := true) rfl (oks_ifb (fun _ => ?_) fun h => by cases h)
      refine oks_bind (P := (· = true)) (oks_opt (a := true) rfl (oks_ifb (fun _ => oks_opt (eqY_str x x) (oks_ok (decide_eq_true rfl))) fun h => by cases h)) ?_
      rintro _ rfl
      exact oks_ok rfl
    | bl x =>
      refine oks_ifb (fun h => by cases h) fun _ => oks_opt (a := false) rfl (oks_ifb (fun h => by cases h) fun _ => oks_opt (a := true) rfl (oks_ifb (fun _ => ?_) fun h => by cases h))
      refine oks_bind (P := (· = true)) (oks_opt (a := true) rfl (oks_ifb (fun _ => oks_opt (eqY_bl x x) (oks_ok (decide_eq_true rfl))) fun h => by cases h)) ?_
      rintro _ rfl
      exact oks_ok rfl
    | int x =>
      refine oks_ifb (fun h => by cases h) fun _ => oks_opt (a := false) rfl (oks_ifb (fun h => by cases h) fun _ => oks_opt (a := false) rfl (oks_ifb (fun h => by cases h) fun _ => oks_opt (a := true) rfl (oks_ifb (fun _ => ?_) fun h => by cases h)))
      refine oks_bind (P := (· = true)) (oks_opt (a := true) rfl (oks_ifb (fun _ => oks_opt (a := false) rfl (oks_ifb (fun _ => oks_opt (eqY_int x x) (oks_ok (decide_eq_true rfl))) fun h => by cases h)) fun h => by cases h)) ?_
      rintro _ rfl
      exact oks_ok rfl
    | tup ds =>
      have h : ds.length ≤ 1000000 ∧ ∀ d ∈ ds, plV n d = true := by simpa [plV] using h
      refine oks_ifb (fun h => by cases h) fun _ => oks_opt (a := false) rfl (oks_ifb (fun h => by cases h) fun _ => oks_opt (a := false) rfl (oks_ifb (fun h => by cases h) fun _ => oks_opt (a := false) rfl (oks_ifb (fun h => by cases h) fun _ => ?_)))
      refine oks_bind (P := fun p => p.1 = false) ?_ fun p hp => ?_
      · refine oks_opt (a := true) rfl (oks_ifb (fun h => by cases h) fun _ => oks_opt (a := (ds.length : Int)) rfl (oks_opt (a := (ds.length : Int)) rfl (oks_ok ?_)))
        dsimp only
        rw [decide_eq_true rfl]; rfl
      · rw [hp]
        refine oks_ifb (fun h => by cases h) fun _ => oks_opt (a := (ds.length : Int)) rfl (oks_ck (by unfold okR; omega) ?_)
        refine oks_aft (P := fun w => match w with
          | .nx _ => True
          | .brk _ => True
          | .ret _ => False) ?_ (fun s _ => oks_ok rfl) (fun s _ => oks_ok rfl) (fun x h => h.elim)
        refine oks_loop (fun pre s => True) trivial ?_ fun s _ => trivial
        rintro pre i post s e _
        have hi : i ∈ rngT 0 (ds.length : Int) := by rw [e]; simp
        obtain ⟨i0, i1⟩ := mem_rng.mp hi
        have hlt : i.toNat < ds.length := by omega
        have hat : ixY (.tup ds) i = some ds[i.toNat] := by
          show L2.atI ds i = _
          rw [at_nat i0 i1, List.getElem?_eq_getElem hlt]
        refine oks_opt hat (oks_opt hat (oks_call (Oks.eq (sameN n _ (h.2 _ (List.getElem_mem hlt)))) ?_))
        rintro _ rfl
        exact oks_ifb (fun h => by cases h) fun _ => oks_ok trivial
    | lst ds => cases h
    | scr ns => cases h
    | obj c ns fs => cases h
    | dct ks vs => cases h
theorem same {v : DV} (h : plV 6 v = true) : T_law_same v v = .ok true := sameN 6 v h
theorem lots {n : Int} (n0 : 0 ≤ n) (n1 : n ≤ 12) : T_law_lots n = .ok (lotsN n.toNat) := by
  refine Oks.to ?_
  unfold T_law_lots
  refine oks_lt (oks_ck (by unfold okR; omega) ?_)
  refine oks_bind (P := fun s => s = lotsN n.toNat) ?_ fun s hs => oks_ok hs
  refine oks_fold (fun pre s => s = lotsN pre.length) rfl ?_ fun s hs => by rw [hs, rng_len, Int.sub_zero]
  rintro pre i post s e rfl
  obtain ⟨hi, hin, _⟩ := rng_snoc e
  have hl := lotsN_len pre.length
  have hp : 2 ^ pre.length ≤ 2 ^ 11 := Nat.pow_le_pow_right (by decide) (by omega)
  have hp : (lotsN pre.length).length ≤ 2048 := by rw [hl]; exact hp
  refine oks_ck (by omega) ?_
  rw [comp_map (g := fun l => l ++ [i]) fun l hlm => ?_]
  · refine oks_ck (by unfold catC; dsimp only; rw [List.length_map]; omega) (oks_lt (oks_ok ?_))
    rw [List.length_append, hi]
    rfl
  · have := lotsN_len_of hlm
    rw [ck_pos (by unfold catC; simp; omega)]
end Lk33
namespace Lk33
open PySem KS KT KL
open KN (LotOf kw mem_T bitsL mem_bits bits_lot lots_bits lotsN lotsN_len Pt Mn Sub head_bits bits_ne head_same and_iff xor_int and_int bit_test sub_spec bits_sub rng_snocI next_le sub_lt)
theorem kn_eq (n : Int) (as : List (Int × Int)) : kn n as = KN.kn n as := rfl
/-- all places of a lot know one another -/
def fr (as : List (Int × Int)) (L : List Int) : Bool := L.all fun i => L.all fun j => decide (j = i) || memT j (kw as i)
theorem fr_iff {as : List (Int × Int)} {L : List Int} : fr as L = true ↔ ∀ i ∈ L, ∀ j ∈ L, j ≠ i → j ∈ kw as i := by
  unfold fr
  rw [List.all_eq_true]
  refine forall_congr' fun i => forall_congr' fun hi => ?_
  rw [List.all_eq_true]
  refine forall_congr' fun j => forall_congr' fun hj => ?_
  by_cases e : j = i
  · simp [e]
  · simp [e, mem_T]
theorem law_friends {n : Int} {as : List (Int × Int)} (V : VN n as) {L : List Int} (hL : LotOf n L) : T_law_are_friends (kn n as) L = .ok (fr as L) := by
  refine Oks.to ?_
  unfold T_law_are_friends
  refine oks_aft (P := fun w => match w with
    | .nx _ => fr as L = true
    | .brk _ => False
    | .ret r => r = false ∧ fr as L = false) ?_ (fun s hs => oks_ok hs.symm) (fun s hs => hs.elim) (fun r hr => oks_ok (by rw [hr.1, hr.2]))
  refine oks_loop (fun pre _ => ∀ i ∈ pre, ∀ j ∈ L, j ≠ i → j ∈ kw as i) (fun _ h => (by cases h)) ?_ fun s hs => fr_iff.2 hs
  rintro pre i post s e h1
  have hi : i ∈ L := by rw [e]; simp
  have hb := hL.2 i hi
  refine oks_aft (P := fun w => match w with
    | .nx _ => ∀ j ∈ L, j ≠ i → j ∈ kw as i
    | .brk _ => False
    | .ret r => r = false ∧ fr as L = false) ?_ (fun s hs => oks_ok fun k hk => ?_) (fun s hs => hs.elim) (fun r hr => oks_ok hr)
  · refine oks_loop (fun pre2 _ => ∀ j ∈ pre2, j ≠ i → j ∈ kw as i) (fun _ h => (by cases h)) ?_ fun s hs => hs
    rintro pre2 j post2 s2 e2 h2
    have hj : j ∈ L := by rw [e2]; simp
    refine oks_bind (P := fun p => p.1 = (!decide (i = j) && !memT j (kw as i))) ?_ fun p hp => ?_
    · refine oks_ifb (fun c => ?_) fun c => oks_ok (by rw [c]; rfl)
      rw [kn_eq]
      refine oks_opt (KN.kn_at hb.1 hb.2) (oks_ok ?_)
      rw [c]; rfl
    · rw [hp]
      refine oks_ifb (fun c => oks_ok ⟨rfl, ?_⟩) fun c => oks_ok fun k hk hne => ?_
      · refine Bool.eq_false_iff.2 fun z => ?_
        rw [Bool.and_eq_true, Bool.not_eq_true', Bool.not_eq_true', decide_eq_false_iff_not] at c
        have := mem_T.2 (fr_iff.1 z i hi j hj fun z => c.1 z.symm)
        rw [c.2] at this
        cases this
      · rcases List.mem_append.1 hk with hk | hk
        · exact h2 k hk hne
        · rw [List.mem_singleton.1 hk] at hne ⊢
          rw [Bool.and_eq_false_iff, Bool.not_eq_false', Bool.not_eq_false', decide_eq_true_iff] at c
          rcases c with c | c
          · exact absurd c.symm hne
          · exact mem_T.1 c
  · rcases List.mem_append.1 hk with hk | hk
    · exact h1 k hk
    · rw [List.mem_singleton.1 hk]; exact hs
theorem comp2_eq {α β : Type} {l : List α} {b : α → O (List β)} {f : α → List β} (h : ∀ a ∈ l, b a = .ok (f a)) : comp2T l b = .ok (l.flatMap f) := by
  induction l with
  | nil => rfl
  | cons a l ih =>
    unfold comp2T
    rw [h a (List.mem_cons_self ..), O.bind_ok, ih fun x hx => h x (List.mem_cons_of_mem _ hx), O.bind_ok, List.flatMap_cons]
theorem friends {n : Int} {as : List (Int × Int)} (V : VN n as) {L : List Int} (hL : LotOf n L) : T_are_friends (n, as, kn n as) L = .ok (fr as L) := by
  have lo := V.lo
  have hi := V.hi
  have ll := hL.len (by omega)
  unfold T_are_friends
  rw [comp2_eq (f := fun i => L.filterMap fun j => if (!decide (j = i)) = true then some (memT j (kw as i)) else none) fun i hi => by
    have hb := hL.2 i hi
    rw [comp_eq (g := fun j => if (!decide (j = i)) = true then some (memT j (kw as i)) else none) fun j hj => by
      rw [kn_eq]
      split
      · rw [KN.kn_at hb.1 hb.2]; rfl
      · rfl]
    rfl, no_ok, O.bind_ok]
  have hlen : ∀ M : List Int, (M.flatMap fun i => L.filterMap fun j => if (!decide (j = i)) = true then some (memT j (kw as i)) else none).length ≤ M.length * L.length := fun M => by
    induction M with
    | nil => simp
    | cons a M ih =>
      rw [List.flatMap_cons, List.length_append, List.length_cons, Nat.succ_mul]
      have := List.length_filterMap_le (fun j => if (!decide (j = a)) = true then some (memT j (kw as a)) else none) L
      omega
  have h2 : L.length * L.length ≤ 12 * 12 := Nat.mul_le_mul (by omega) (by omega)
  rw [ck_pos (by have := hlen L; omega)]
  congr 1
  rw [Bool.eq_iff_iff, fr_iff, List.all_eq_true]
  constructor
  · intro h i hi j hj hne
    refine mem_T.1 (h _ (List.mem_flatMap.2 ⟨i, hi, List.mem_filterMap.2 ⟨j, hj, ?_⟩⟩))
    rw [decide_eq_false hne]; rfl
  · intro h b hb
    obtain ⟨i, hi, hb⟩ := List.mem_flatMap.1 hb
    obtain ⟨j, hj, e⟩ := List.mem_filterMap.1 hb
    by_cases c : j = i
    · rw [decide_eq_true c] at e; cases e
    · rw [decide_eq_false c] at e
      cases e
      exact mem_T.2 (h i hi j hj c)
theorem lot_of {n b : Nat} (hn : n ≤ 100) : T_lot_of (b : Int) (n : Int) = .ok (bitsL n b) := by
  unfold T_lot_of
  rw [ck_pos (by unfold okR; omega), ck_pos (by rw [rng_len]; omega), comp_eq (g := fun i => if b.testBit i.toNat = true then some i else none) fun i hi => by
    obtain ⟨h0, h1⟩ := mem_rng.1 hi
    obtain ⟨j, rfl⟩ : ∃ j : Nat, i = (j : Int) := ⟨i.toNat, by omega⟩
    rw [ck_pos (by unfold shlC; omega), bit_test, Int.toNat_natCast]
    split <;> rfl, no_ok, O.bind_ok]
  congr 1
  unfold bitsL
  have : ∀ l : List Int, (l.filterMap fun i => if b.testBit i.toNat = true then some i else none) = l.filter fun i => b.testBit i.toNat := fun l => by
    induction l with
    | nil => rfl
    | cons a l ih =>
      rw [List.filterMap_cons, List.filter_cons]
      cases b.testBit a.toNat
      · simpa using ih
      · simpa using ih
  exact this _
theorem least {n b : Nat} (hn : n ≤ 100) {x : Int} {r : List Int} (e : bitsL n b = x :: r) : T_least_place (b : Int) (n : Int) = .ok x := by
  unfold T_least_place
  rw [lot_of hn, no_ok, O.bind_ok, e, at_cons]
  rfl
theorem step_le {y p l a : Nat} (hy : y ≤ p - 1) (h0 : p ≠ 0) (h : p = 0 ∨ p + l ≤ a) : y + (l + 1) ≤ a := by omega
theorem fewest {n : Nat} (hn : n ≤ 8) {f : Nat → Bool} (hf : ∀ t < n, f (2 ^ t) = true) {fits : List Bool} (fl : fits.length = 2 ^ n) (hfit : ∀ p : Nat, p < 2 ^ n → L2.atI fits (p : Int) = some (f p)) : Oks (T_law_fewest fits) fun r => ∃ k : Nat, r = (k : Int) ∧ Mn f (2 ^ n - 1) k := by
  have fpos : 0 < 2 ^ n := Nat.pow_pos (by decide)
  have f256 : 2 ^ n ≤ 2 ^ 8 := Nat.pow_le_pow_right (by decide) hn
  unfold T_law_fewest
  refine oks_lt (oks_ck (by unfold okR; omega) ?_)
  refine oks_bind (P := fun (s : List Int) => s.length = fits.length ∧ ∀ (a : Nat) (h : a < s.length), ∃ k : Nat, s[a] = (k : Int) ∧ Mn f a k) ?_ ?_
  · refine oks_fold (fun pre (s : List Int) => s.length = pre.length + 1 ∧ ∀ (a : Nat) (h : a < s.length), ∃ k : Nat, s[a] = (k : Int) ∧ Mn f a k) ⟨rfl, fun a h => ?_⟩ ?_ ?_
    · have : a = 0 := by simp at h; omega
      subst this
      exact ⟨0, rfl, KN.mn_zero f⟩
    · rintro pre at_ post s e ⟨h1, h2⟩
      obtain ⟨hat, hlt⟩ := rng_snocI e
      obtain ⟨a, rfl⟩ : ∃ a : Nat, at_ = (a : Int) := ⟨at_.toNat, by omega⟩
      have ha : a = s.length := by omega
      have hal : a < 2 ^ n := by omega
      have sat : ∀ k : Nat, k < a → ∃ m : Nat, L2.atI s (k : Int) = some (m : Int) ∧ Mn f k m := fun k hk => by
        obtain ⟨m, e1, e2⟩ := h2 k (by omega)
        refine ⟨m, ?_, e2⟩
        rw [at_nat (by omega) (by omega), Int.toNat_natCast, List.getElem?_eq_getElem (by omega), e1]
      obtain ⟨k0, hk0, hpt0⟩ := Pt.some hal hf
      refine oks_ck (by unfold okR; omega) ?_
      have fin : ∀ best : Int, (best = 99 ∨ ∃ k : Nat, best = (k : Int) ∧ Pt f a k) → (∀ q, Sub q a → q ≠ 0 → f q = true → ∀ m, Mn f (a - q) m → best ≤ (m : Int) + 1) → ∃ k : Nat, best = (k : Int) ∧ Mn f a k := fun best hb hall => by
        have low : ∀ k', Pt f a k' → best ≤ (k' : Int) := fun k' hk' => by
          cases hk' with
          | nil => omega
          | @cons _ p k g0 g1 g2 g3 =>
            have hp : a - p < a := by have := g1.le; omega
            obtain ⟨m, _, hm⟩ := sat (a - p) hp
            have := hall p g1 g0 g2 m hm
            have := hm.2 k g3
            omega
        rcases hb with hb | ⟨k, hb, hk⟩
        · have := low k0 hpt0
          omega
        · exact ⟨k, hb, hk, fun k' hk' => by have := low k' hk'; omega⟩
      refine oks_aft (P := EndQ fun w => ∃ k : Nat, w.1 = (k : Int) ∧ Mn f a k) ?_ (fun w hw => ?_) (fun w hw => ?_) fun x hx => hx.elim
      · refine oks_loop (fun pre2 (w : Int × Int) => ∃ p : Nat, w.2 = (p : Int) ∧ Sub p a ∧ (p = 0 ∨ p + pre2.length ≤ a) ∧ (w.1 = 99 ∨ ∃ k : Nat, w.1 = (k : Int) ∧ Pt f a k) ∧ ∀ q, Sub q a → p < q → f q = true → ∀ m, Mn f (a - q) m → w.1 ≤ (m : Int) + 1) ⟨a, rfl, Sub.refl a, .inr (by simp), .inl rfl, fun q hq hlt => by have := hq.le; omega⟩ ?_ ?_
        · rintro pre2 k post2 ⟨best, part⟩ e2 ⟨p, hp, hps, hpl, hb, hall⟩
          dsimp only at hp hb hall ⊢
          subst hp
          have hple := hps.le
          refine oks_ifb (fun c => oks_ok ?_) fun c => ?_
          · have c := of_decide_eq_true c
            have : p = 0 := by omega
            subst this
            exact fin best hb fun q hq h0 => hall q hq (by omega)
          · have c := of_decide_eq_false c
            refine oks_bind (P := fun b => (b = 99 ∨ ∃ k : Nat, b = (k : Int) ∧ Pt f a k) ∧ b ≤ best ∧ (f p = true → ∀ m, Mn f (a - p) m → b ≤ (m : Int) + 1)) ?_ ?_
            · refine oks_bind (P := fun x => ∃ m, Mn f (a - p) m ∧ L2.atI s ((a : Int) - (p : Int)) = some (m : Int) ∧ x.1 = (f p && decide ((m : Int) + 1 < best))) ?_ ?_
              · obtain ⟨m, em, hm⟩ := sat (a - p) (by omega)
                have em' : L2.atI s ((a : Int) - (p : Int)) = some (m : Int) := by rw [← em]; congr 1; omega
                refine oks_opt (hfit p (by omega)) (oks_ifb (fun c => oks_opt em' (oks_ok ⟨m, hm, em', by rw [c]; rfl⟩)) fun c => oks_ok ⟨m, hm, em', by rw [c]; rfl⟩)
              · rintro x ⟨m, hm, em, hx⟩
                rw [hx]
                refine oks_ifb (fun c2 => ?_) fun c2 => oks_ok ⟨hb, Int.le_refl _, fun hfp m' hm' => ?_⟩
                · rw [Bool.and_eq_true, decide_eq_true_iff] at c2
                  refine oks_opt em (oks_lt (oks_ok ⟨.inr ⟨m + 1, by omega, .cons (by omega) hps c2.1 hm.1⟩, by omega, fun _ m' hm' => by rw [hm.uniq hm']; exact Int.le_refl _⟩))
                · rw [hfp, Bool.true_and, decide_eq_false_iff_not] at c2
                  rw [← hm.uniq hm']
                  omega
            · rintro b ⟨b1, b2, b3⟩
              refine oks_lt (oks_ok ⟨(p - 1) &&& a, ?_, Sub.and _ _, ?_, b1, fun q hq hlt hfq m hm => ?_⟩)
              · dsimp only
                rw [← and_int]
                congr 1
                omega
              · have hy : (p - 1) &&& a ≤ p - 1 := Nat.and_le_left
                rw [List.length_append, List.length_singleton]
                exact .inr (step_le hy (fun z => c (by rw [z]; rfl)) hpl)
              · by_cases c3 : q = p
                · subst c3; exact b3 hfq m hm
                · by_cases c4 : p < q
                  · exact Int.le_trans b2 (hall q hq c4 hfq m hm)
                  · have := next_le p a q hps hq (by omega)
                    omega
        · rintro ⟨best, part⟩ ⟨p, hp, hps, hpl, hb, hall⟩
          rw [rng_len] at hpl
          have : p = 0 := by omega
          subst this
          exact fin best hb fun q hq h0 => hall q hq (by omega)
      all_goals
        obtain ⟨k, hk, hm⟩ := (hw : ∃ k : Nat, w.1 = (k : Int) ∧ Mn f a k)
        refine oks_ck (by unfold appC; omega) (oks_ok ⟨by simp; omega, fun j hj => ?_⟩)
        rw [List.length_append, List.length_singleton] at hj
        by_cases hjs : j < s.length
        · rw [List.getElem_append_left hjs]; exact h2 j hjs
        · rw [List.getElem_append_right (by omega)]
          simp only [List.getElem_singleton]
          rw [show j = a by omega]
          exact ⟨k, hk, hm⟩
    · rintro s ⟨h1, h2⟩
      rw [rng_len] at h1
      exact ⟨by omega, h2⟩
  · rintro s ⟨h1, h2⟩
    have hne : s ≠ [] := List.length_pos_iff.1 (by omega)
    refine oks_opt (at_last hne) (oks_ok ?_)
    rw [List.getLast_eq_getElem]
    obtain ⟨k, g1, g2⟩ := h2 (s.length - 1) (by omega)
    exact ⟨k, g1, by rw [show 2 ^ n - 1 = s.length - 1 by omega]; exact g2⟩
end Lk33
namespace Lk33
open PySem KS KT KL
open KN (LotOf kw mem_T bitsL mem_bits bits_lot lots_bits lotsN lotsN_len Pt Mn Sub head_bits bits_ne head_same and_iff xor_int and_int bit_test sub_spec bits_sub rng_snocI next_le sub_lt)
/-- lots that make up a lot, each of which fits -/
structure Gd (n : Nat) (as : List (Int × Int)) (b : Nat) (F : List (List Int)) : Prop where
  ne : ∀ L ∈ F, L ≠ []
  lot : ∀ L ∈ F, LotOf n L
  frs : ∀ L ∈ F, fr as L = true
  perm : (F.flatMap id).Perm (bitsL n b)
  mn : Mn (fun p => fr as (bitsL n p)) b F.length
theorem perm_split {n b p : Nat} (h : Sub p b) : (bitsL n p ++ bitsL n (b - p)).Perm (bitsL n b) := by
  refine (List.perm_ext_iff_of_nodup ?_ (bits_lot n b).nd).2 fun x => ?_
  · refine List.nodup_append.2 ⟨(bits_lot n p).nd, (bits_lot n (b - p)).nd, fun x hx y hy e => ?_⟩
    subst e
    exact ((bits_sub h).1 hy).2 hx
  · rw [List.mem_append, bits_sub h]
    constructor
    · rintro (z | z)
      · exact h.bits x z
      · exact z.1
    · intro z
      by_cases c : x ∈ bitsL n p
      · exact .inl c
      · exact .inr ⟨z, c⟩
theorem single {n : Nat} {as : List (Int × Int)} {t : Nat} (ht : t < n) : fr as (bitsL n (2 ^ t)) = true := by
  rw [fr_iff]
  intro i hi j hj hne
  have a := (mem_bits.1 hi)
  have b := (mem_bits.1 hj)
  rw [Nat.testBit_two_pow, decide_eq_true_iff] at a b
  omega
theorem friend_lots {n : Nat} {as : List (Int × Int)} (V : VN n as) (hn : n ≤ 8) : Oks (T_friend_lots (n, as, kn n as)) fun F => Gd n as (2 ^ n - 1) F := by
  have lo := V.lo
  obtain ⟨f, hf⟩ : ∃ f, f = fun p => fr as (bitsL n p) := ⟨_, rfl⟩
  have fpos : 0 < 2 ^ n := Nat.pow_pos (by decide)
  have f256 : 2 ^ n ≤ 2 ^ 8 := Nat.pow_le_pow_right (by decide) hn
  have e2 : (1 : Int) * 2 ^ ((n : Int)).toNat = ((2 ^ n : Nat) : Int) := by
    rw [Int.one_mul, Int.toNat_natCast, Int.natCast_pow]; rfl
  unfold T_friend_lots
  refine oks_bind (P := fun _ => True) ?_ fun _ _ => ?_
  · unfold T_check_size
    refine oks_ifb (fun c => by have := of_decide_eq_true c; dsimp only at this; omega) fun _ => oks_ok trivial
  refine oks_ck (by unfold shlC; dsimp only; omega) ?_
  dsimp only
  rw [e2]
  refine oks_ck (by unfold okR; omega) ?_
  refine oks_bind (P := fun (s : List (Int × List Int)) => ∀ x, x ∈ s ↔ ∃ p : Nat, p ≠ 0 ∧ p < 2 ^ n ∧ f p = true ∧ x = ((p : Int), bitsL n p)) ?_ ?_
  · refine oks_fold (fun pre (s : List (Int × List Int)) => s.length ≤ pre.length ∧ ∀ x, x ∈ s ↔ ∃ p : Nat, p ≠ 0 ∧ p < 1 + pre.length ∧ f p = true ∧ x = ((p : Int), bitsL n p)) ⟨Nat.le_refl _, fun x => ⟨fun h => (by cases h), fun ⟨p, h0, h1, _⟩ => by simp at h1; omega⟩⟩ ?_ ?_
    · rintro pre b_ post s e ⟨h1, h2⟩
      obtain ⟨hb, hlt⟩ := rng_snocI e
      obtain ⟨b, rfl⟩ : ∃ b : Nat, b_ = (b : Int) := ⟨b_.toNat, by omega⟩
      have hbe : b = 1 + pre.length := by omega
      rw [lot_of (n := n) (by omega), no_ok, O.bind_ok, friends V (bits_lot n b), no_ok, O.bind_ok]
      refine oks_ifb (fun c => oks_ck (by unfold appC; omega) (oks_ok ⟨by simp; omega, fun x => ?_⟩)) fun c => oks_ok ⟨by simp; omega, fun x => ?_⟩
      · rw [List.mem_append, h2, List.mem_singleton, List.length_append, List.length_singleton]
        constructor
        · rintro (⟨p, g0, g1, g2, rfl⟩ | rfl)
          · exact ⟨p, g0, by omega, g2, rfl⟩
          · exact ⟨b, by omega, by omega, by rw [hf]; exact c, rfl⟩
        · rintro ⟨p, g0, g1, g2, rfl⟩
          by_cases hp : p = b
          · exact .inr (by rw [hp])
          · exact .inl ⟨p, g0, by omega, g2, rfl⟩
      · rw [h2, List.length_append, List.length_singleton]
        constructor
        · rintro ⟨p, g0, g1, g2, rfl⟩
          exact ⟨p, g0, by omega, g2, rfl⟩
        · rintro ⟨p, g0, g1, g2, rfl⟩
          have : p ≠ b := fun z => by
            rw [hf, z] at g2
            rw [show fr as (bitsL n b) = true from g2] at c
            cases c
          exact ⟨p, g0, by omega, g2, rfl⟩
    · rintro s ⟨_, h2⟩ x
      rw [h2]
      have : (rngT 1 ((2 ^ n : Nat) : Int)).length = 2 ^ n - 1 := by rw [rng_len]; omega
      rw [this]
      constructor
      · rintro ⟨p, g0, g1, g⟩; exact ⟨p, g0, by omega, g⟩
      · rintro ⟨p, g0, g1, g⟩; exact ⟨p, g0, by omega, g⟩
  intro fl hfl
  refine oks_lt (oks_ck (by unfold shlC; omega) ?_)
  refine oks_ck (by unfold okR; omega) ?_
  refine oks_bind (P := fun (s : List (List (List Int))) => s.length = 2 ^ n ∧ ∀ (a : Nat) (h : a < s.length), Gd n as a s[a]) ?_ ?_
  · refine oks_fold (fun pre (s : List (List (List Int))) => s.length = pre.length + 1 ∧ ∀ (a : Nat) (h : a < s.length), Gd n as a s[a]) ⟨rfl, fun a h => ?_⟩ ?_ ?_
    · have : a = 0 := by simp at h; omega
      subst this
      refine ⟨fun L h => (by cases h), fun L h => (by cases h), fun L h => (by cases h), ?_, KN.mn_zero _⟩
      have : bitsL n 0 = [] := List.eq_nil_iff_forall_not_mem.2 fun x hx => by
        have := (mem_bits.1 hx).2
        simp at this
      rw [this]; exact List.Perm.refl _
    · rintro pre b_ post s e ⟨h1, h2⟩
      obtain ⟨hb, hlt⟩ := rng_snocI e
      obtain ⟨b, rfl⟩ : ∃ b : Nat, b_ = (b : Int) := ⟨b_.toNat, by omega⟩
      have hbs : b = s.length := by omega
      have hbl : b < 2 ^ n := by omega
      obtain ⟨y, r, hy⟩ := bits_ne hbl (by omega : b ≠ 0)
      have sat : ∀ k : Nat, k < b → ∃ F, L2.atI s (k : Int) = some F ∧ Gd n as k F := fun k hk => by
        refine ⟨s[k]'(by omega), ?_, h2 k (by omega)⟩
        rw [at_nat (by omega) (by omega), Int.toNat_natCast, List.getElem?_eq_getElem (by omega)]
      rw [least (n := n) (by omega) hy, no_ok, O.bind_ok]
      refine oks_bind (P := fun o : Option (List (List Int)) => ∃ F, o = some F ∧ Gd n as b F) ?_ ?_
      · -- candidates
        let Cand (p : Nat) : Prop := p ≠ 0 ∧ Sub p b ∧ f p = true ∧ p.testBit y.toNat = true
        refine oks_fold (fun pre2 (o : Option (List (List Int))) => (o = none ∧ ∀ p, Cand p → ((p : Int), bitsL n p) ∉ pre2) ∨ ∃ F, o = some F ∧ ((∀ L ∈ F, L ≠ []) ∧ (∀ L ∈ F, LotOf n L) ∧ (∀ L ∈ F, fr as L = true) ∧ (F.flatMap id).Perm (bitsL n b) ∧ Pt f b F.length) ∧ ∀ p, Cand p → ((p : Int), bitsL n p) ∈ pre2 → ∀ m, Mn f (b - p) m → F.length ≤ m + 1) (.inl ⟨rfl, fun _ _ h => (by cases h)⟩) ?_ ?_
        · rintro pre2 x post2 o e3 inv
          have hx : x ∈ fl := by rw [e3]; simp
          obtain ⟨p, p0, p1, p2, rfl⟩ := (hfl x).1 hx
          obtain ⟨z, zr, hz⟩ := bits_ne p1 p0
          dsimp only
          rw [hz, at_cons, opt_some, O.bind_ok, and_int]
          have hcond : ((decide (z = y)) && (decide (((p &&& b : Nat) : Int) = (p : Int)))) = true ↔ Cand p := by
            rw [Bool.and_eq_true, decide_eq_true_iff, decide_eq_true_iff]
            constructor
            · rintro ⟨q1, q2⟩
              have hs := and_iff.1 (show p &&& b = p by omega)
              exact ⟨p0, hs, p2, (head_same hs hz hy).1 q1⟩
            · rintro ⟨_, hs, _, ht⟩
              exact ⟨(head_same hs hz hy).2 ht, by rw [and_iff.2 hs]⟩
          refine oks_ifb (fun c => ?_) fun c => oks_ok ?_
          · obtain ⟨_, hs, _, ht⟩ := hcond.1 c
            have hle := hs.le
            obtain ⟨F', eF, gF⟩ := sat (b - p) (by omega)
            have ex : L2.atI s (Builtin.bitXor (b : Int) (p : Int)) = some F' := by rw [xor_int hs]; exact eF
            have ok : (∀ L ∈ bitsL n p :: F', L ≠ []) ∧ (∀ L ∈ bitsL n p :: F', LotOf n L) ∧ (∀ L ∈ bitsL n p :: F', fr as L = true) ∧ ((bitsL n p :: F').flatMap id).Perm (bitsL n b) ∧ Pt f b (bitsL n p :: F').length := by
              refine ⟨fun L hL => ?_, fun L hL => ?_, fun L hL => ?_, ?_, ?_⟩
              · rcases List.mem_cons.1 hL with rfl | hL
                · rw [hz]; exact List.cons_ne_nil _ _
                · exact gF.ne L hL
              · rcases List.mem_cons.1 hL with rfl | hL
                · exact bits_lot n p
                · exact gF.lot L hL
              · rcases List.mem_cons.1 hL with rfl | hL
                · rw [hf] at p2; exact p2
                · exact gF.frs L hL
              · rw [List.flatMap_cons]
                exact (List.Perm.append_left _ gF.perm).trans (perm_split hs)
              · rw [List.length_cons]
                have := gF.mn.1
                rw [← hf] at this
                exact .cons p0 hs p2 this
            have le1 : ∀ m, Mn f (b - p) m → (bitsL n p :: F').length ≤ m + 1 := fun m hm => by
              have := gF.mn
              rw [← hf] at this
              rw [List.length_cons, this.uniq hm]
              exact Nat.le_refl _
            rw [← hz]
            have fl8 : F'.length ≤ 100 := by
              have := gF.mn.2
              obtain ⟨k0, hk0, hpt0⟩ := Pt.some (fr := fun p => fr as (bitsL n p)) (n := n) (b := b - p) (by omega) fun t ht => single ht
              have := this _ hpt0
              omega
            refine oks_bind (P := fun q => (q.1 = true ∧ (o = none ∨ ∃ F, o = some F ∧ F'.length + 1 < F.length)) ∨ (q.1 = false ∧ ∃ F, o = some F ∧ F.length ≤ F'.length + 1)) ?_ ?_
            · cases o with
              | none => exact oks_ifb (fun _ => oks_ok (.inl ⟨rfl, .inl rfl⟩)) fun c2 => by cases c2
              | some F =>
                refine oks_ifb (fun c2 => by cases c2) fun _ => oks_opt ex (oks_opt (a := F) rfl (oks_ok ?_))
                by_cases c3 : ((F'.length : Int) + 1) < (F.length : Int)
                · exact .inl ⟨decide_eq_true c3, .inr ⟨F, rfl, by omega⟩⟩
                · exact .inr ⟨decide_eq_false c3, F, rfl, by omega⟩
            · rintro q hq
              refine oks_ifb (fun c2 => ?_) fun c2 => oks_ok ?_
              · refine oks_opt ex (oks_ck (by unfold catC; simp; omega) (oks_lt (oks_ok (.inr ⟨bitsL n p :: F', rfl, ok, fun p' hp' hmem m hm => ?_⟩))))
                by_cases hpp : p' = p
                · subst hpp; exact le1 m hm
                · have hin : ((p' : Int), bitsL n p') ∈ pre2 := by
                    rcases List.mem_append.1 hmem with h | h
                    · exact h
                    · exact absurd (by have := congrArg Prod.fst (List.mem_singleton.1 h); dsimp only at this; omega) hpp
                  rcases inv with ⟨_, hno⟩ | ⟨F, hoF, _, hall⟩
                  · exact absurd hin (hno p' hp')
                  · have hF := hall p' hp' hin m hm
                    rcases hq with ⟨_, h | ⟨F2, h, hlt2⟩⟩ | ⟨h, _⟩
                    · rw [hoF] at h; cases h
                    · rw [hoF] at h; cases h
                      rw [List.length_cons]
                      omega
                    · rw [h] at c2; cases c2
              · rcases hq with ⟨hq, _⟩ | ⟨_, F, rfl, hFl⟩
                · rw [hq] at c2; cases c2
                · rcases inv with ⟨h, _⟩ | ⟨F2, h, hok, hall⟩
                  · cases h
                  · cases h
                    refine .inr ⟨F, rfl, hok, fun p' hp' hmem m hm => ?_⟩
                    rcases List.mem_append.1 hmem with h | h
                    · exact hall p' hp' h m hm
                    · have hpp : p' = p := by have := congrArg Prod.fst (List.mem_singleton.1 h); dsimp only at this; omega
                      subst hpp
                      have := le1 m hm
                      rw [List.length_cons] at this
                      omega
          · have hnc : ¬ Cand p := fun z => by rw [hcond.2 z] at c; cases c
            have keep : ∀ p', Cand p' → ((p' : Int), bitsL n p') ∈ pre2 ++ [((p : Int), z :: zr)] → ((p' : Int), bitsL n p') ∈ pre2 := fun p' hp' hmem => by
              rcases List.mem_append.1 hmem with h | h
              · exact h
              · have hpp : p' = p := by have := congrArg Prod.fst (List.mem_singleton.1 h); dsimp only at this; omega
                exact absurd (hpp ▸ hp') hnc
            rcases inv with ⟨h, hno⟩ | ⟨F, h, hok, hall⟩
            · exact .inl ⟨h, fun p' hp' hm => hno p' hp' (keep p' hp' hm)⟩
            · exact .inr ⟨F, h, hok, fun p' hp' hm => hall p' hp' (keep p' hp' hm)⟩
        · rintro o inv
          have ht : b.testBit y.toNat = true := (head_bits hy).2.1
          have all : ∀ p, Cand p → ((p : Int), bitsL n p) ∈ fl := fun p hp => (hfl _).2 ⟨p, hp.1, sub_lt hp.2.1 hbl, hp.2.2.1, rfl⟩
          rcases inv with ⟨_, hno⟩ | ⟨F, rfl, ⟨o1, o2, o3, o4, o5⟩, hall⟩
          · exfalso
            obtain ⟨k0, hk0, hpt0⟩ := Pt.some (fr := f) (n := n) (b := b) hbl fun t ht => by rw [hf]; exact single ht
            obtain ⟨p, k', _, g0, g1, g2, g3, _⟩ := hpt0.first ht
            exact hno p ⟨g0, g1, g2, g3⟩ (all p ⟨g0, g1, g2, g3⟩)
          · refine ⟨F, rfl, o1, o2, o3, o4, ?_⟩
            rw [← hf]
            refine ⟨o5, fun k' hk' => ?_⟩
            obtain ⟨p, k2, rfl, g0, g1, g2, g3, g4⟩ := hk'.first ht
            have hle := g1.le
            obtain ⟨F', _, gF⟩ := sat (b - p) (by omega)
            have hm := gF.mn
            rw [← hf] at hm
            have := hall p ⟨g0, g1, g2, g3⟩ (all p ⟨g0, g1, g2, g3⟩) _ hm
            have := hm.2 k2 g4
            omega
      · rintro o ⟨F, rfl, gF⟩
        refine oks_opt (a := F) rfl (oks_ck (by unfold appC; omega) (oks_ok ⟨by simp; omega, fun j hj => ?_⟩))
        rw [List.length_append, List.length_singleton] at hj
        by_cases hjs : j < s.length
        · rw [List.getElem_append_left hjs]; exact h2 j hjs
        · rw [List.getElem_append_right (by omega)]
          simp only [List.getElem_singleton]
          rw [show j = b by omega]
          exact gF
    · rintro s ⟨h1, h2⟩
      rw [rng_len] at h1
      exact ⟨by omega, h2⟩
  · rintro s ⟨h1, h2⟩
    have hne : s ≠ [] := List.length_pos_iff.1 (by omega)
    refine oks_opt (at_last hne) (oks_ok ?_)
    rw [List.getLast_eq_getElem]
    have := h2 (s.length - 1) (by omega)
    have e : s.length - 1 = 2 ^ n - 1 := by omega
    exact e ▸ this
end Lk33
namespace Lk33
open PySem KS KT KL
open KN (LotOf kw mem_T bitsL mem_bits bits_lot lots_bits lotsN mem_lotsN lotsN_len Pt Mn)
theorem kinds0 {v : DV} {x : Str} (h : reprV v = some x) : T_law_kinds 0 [v] = .ok ((PySem.Str.ofString "TooMany"), eS x) := by
  unfold T_law_kinds
  have e : xfT (xf_what 0) [v] = some v := rfl
  simp only [e, h, opt_some, O.bind_ok]
  rfl
theorem told_ok {net : O_Net} {r : List (List Int)} (h : T_friend_lots net = .ok r) : T_law_told net = .ok ((PySem.Str.ofString ""), eT (eT eI) r) := by
  unfold T_law_told
  rw [h]
  rfl
theorem told_many {n : Int} {as : List (Int × Int)} {ks : List (List Int)} (h : 8 < n) {x : Str} (hx : reprV (eS (PySem.Str.ofString "places")) = some x) : T_law_told (n, as, ks) = .ok ((PySem.Str.ofString "TooMany"), eS x) := by
  have e : T_friend_lots (n, as, ks) = .exc 0 [eS (PySem.Str.ofString "places")] [] := by
    unfold T_friend_lots T_check_size
    rw [decide_eq_true h, if_pos rfl]
    rfl
  unfold T_law_told
  rw [e]
  show tryT (O.exc 0 [eS (PySem.Str.ofString "places")] []) _ = _
  rw [tryT_exc, ck_pos (by decide), if_pos (show tI_SayError 0 = true from rfl), kinds0 hx]
  rfl
def A8 : List (Int × Int) := [(0, 1), (1, 0), (2, 3), (3, 2), (4, 5), (5, 4), (6, 7), (7, 6)]
theorem eq8 : ((rngT 0 8).map fun i_80 => (i_80, ((i_80 + 1) - (2 * (i_80 % 2))))) = A8 := by decide +kernel
theorem vn8 : VN 8 A8 := ⟨by decide, by decide, by decide +kernel, by unfold A8 ltP; simp, by decide⟩
def R8 : List (List Int) := [[0, 1], [2, 3], [4, 5], [6, 7]]
theorem fl8 : T_friend_lots (8, A8, kn 8 A8) = .ok R8 := by kernel_rfl
theorem dec8 : asT (asP2 asI asI) (eT (eT eI) R8) = some [(0, 1), (2, 3), (4, 5), (6, 7)] := rfl
theorem ev8 : ev2 A8 = [(0, 1), (2, 3), (4, 5), (6, 7)] := by decide +kernel
theorem srt8 : ([(0, 1), (2, 3), (4, 5), (6, 7)] : List (Int × Int)).mergeSort leP = [(0, 1), (2, 3), (4, 5), (6, 7)] := List.mergeSort_of_pairwise (by decide +kernel)
theorem vnG {n : Int} (h : 9 ≤ n) (h2 : n ≤ 12) : VN n [(0, 1), (1, 0)] := ⟨by omega, h2, fun p hp => by
  simp only [List.mem_cons, List.not_mem_nil, or_false] at hp
  rcases hp with rfl | rfl <;> dsimp only <;> omega, by unfold ltP; simp, by decide⟩
theorem asT_words (ws : List (List Int)) : asT (asT asI) (eT (eT eI) ws) = some ws := decs_m (E := eT eI) (fun w => decs_m (E := eI) (fun _ => rfl) w) ws
theorem leI_pw {l : List Int} (h : l.Pairwise (· < ·)) : l.Pairwise fun a b => leI a b = true := h.imp fun {a b} hab => by unfold leI; exact decide_eq_true (Int.le_of_lt hab)
theorem sort_same {l : List Int} (h : l.Pairwise (· < ·)) : l.mergeSort leI = l := List.mergeSort_of_pairwise (leI_pw h)
theorem sort_perm {l m : List Int} (h : l.Perm m) (hm : m.Pairwise (· < ·)) : l.mergeSort leI = m := by
  have h1 : (l.mergeSort leI).Pairwise fun a b => leI a b = true := List.pairwise_mergeSort (fun a b c h1 h2 => by
    unfold leI at *
    simp only [decide_eq_true_eq] at *
    omega) (fun a b => by
    unfold leI
    simp only [Bool.or_eq_true, decide_eq_true_eq]
    omega) l
  refine List.Perm.eq_of_pairwise (le := fun a b : Int => a ≤ b) (fun a b _ _ h1 h2 => Int.le_antisymm h1 h2) (h1.imp fun {a b} h => by unfold leI at h; exact of_decide_eq_true h) (hm.imp fun h => Int.le_of_lt h) ((List.mergeSort_perm l leI).trans h)
theorem bits_full (n : Nat) : bitsL n (2 ^ n - 1) = rngT 0 n := by
  unfold bitsL
  refine List.filter_eq_self.2 fun i hi => ?_
  obtain ⟨h0, h1⟩ := mem_rng.1 hi
  rw [Nat.testBit_two_pow_sub_one]
  exact decide_eq_true (by omega)
theorem told (ns : List Int) (hl : ns.length ≤ 63) : T_law ns = .ok true := by
  refine Oks.to ?_
  unfold T_law
  refine oks_ck ?_ ?_
  · unfold okR
    split <;> omega
  refine oks_aft (P := EndQ fun _ : Unit => True) ?_ (fun s _ => oks_ok rfl) (fun s _ => oks_ok rfl) (fun x h => h.elim)
  refine oks_loop (fun pre s => True) trivial ?_ fun s _ => trivial
  rintro pre a post s e _
  have ham : a ∈ rngT 0 (if 3 < (ns.length : Int) then 3 else (ns.length : Int)) := by rw [e]; simp
  obtain ⟨a0, a1⟩ := mem_rng.mp ham
  obtain ⟨cell, ec, _, _⟩ := at_some (l := ns) a0 (by split at a1 <;> omega)
  refine oks_opt ec (oks_call (numbers cell a 50 (by decide) (by decide)) fun l hN => ?_)
  have N : Nums l := ⟨hN.1, hN.2⟩
  refine oks_call (net N (k := 0) (m := 7) (by decide) (by decide) (by decide) (by decide)) ?_
  rintro ⟨n0, a0'⟩ ⟨V0, hn0⟩
  dsimp only at V0 hn0 ⊢
  obtain ⟨x30, e30, _, _⟩ := N.at (i := 30) (by decide) (by decide)
  refine oks_opt e30 ?_
  refine oks_bind (P := fun p => VN p.1 p.2 ∧ p.1 ≤ 7) ?_ ?_
  · refine oks_ifb (fun _ => ?_) fun _ => oks_ok ⟨V0, hn0⟩
    have irr : a0'.Nodup := V0.ord.imp fun {p q} h e => by
      subst e
      unfold ltP at h
      omega
    have al : a0'.length ≤ 49 := by
      have : a0'.length ≤ ((rngT 0 7).flatMap fun i => (rngT 0 7).map fun j => (i, j)).length := by
        have nl : ∀ {A l : List (Int × Int)}, A.Nodup → (∀ x ∈ A, x ∈ l) → A.length ≤ l.length := fun {A} => by
          induction A with
          | nil => intro l _ _; simp
          | cons a A ih =>
            intro l hd h
            rw [List.nodup_cons] at hd
            have ha := h a List.mem_cons_self
            have h2 := ih (l := l.erase a) hd.2 fun x hx => (List.mem_erase_of_ne (fun z => by subst z; exact hd.1 hx)).mpr (h x (List.mem_cons_of_mem _ hx))
            rw [List.length_erase_of_mem ha] at h2
            have := List.length_pos_of_mem ha
            rw [List.length_cons]; omega
        refine nl irr fun p hp => ?_
        have r := V0.rng p hp
        exact List.mem_flatMap.2 ⟨p.1, mem_rng.2 (by omega), List.mem_map.2 ⟨p.2, mem_rng.2 (by omega), rfl⟩⟩
      exact this
    obtain ⟨ex, hex⟩ : ∃ ex, ex = ((a0'.filter fun arc_17 => (!memT ((arc_17.2, arc_17.1)) a0')).map fun arc_17 => (arc_17.2, arc_17.1)) := ⟨_, rfl⟩
    rw [← hex]
    have exl : ex.length ≤ 49 := by
      rw [hex, List.length_map]
      exact Nat.le_trans (List.length_filter_le ..) al
    have exm : ∀ p ∈ ex, (p.2, p.1) ∈ a0' ∧ p ∉ a0' := fun p hp => by
      rw [hex] at hp
      obtain ⟨q, hq, rfl⟩ := List.mem_map.1 hp
      obtain ⟨q1, q2⟩ := List.mem_filter.1 hq
      refine ⟨q1, fun z => ?_⟩
      rw [mem_T.2 z] at q2
      cases q2
    refine oks_ck (by omega) (oks_ck (by unfold catC; omega) (oks_lt (oks_lt (oks_ok ⟨⟨V0.lo, V0.hi, fun p hp => ?_, ord_sort ?_, ?_⟩, hn0⟩))))
    · rcases List.mem_append.1 ((List.mergeSort_perm _ leP).mem_iff.1 hp) with h | h
      · exact V0.rng p h
      · have := V0.rng _ (exm p h).1
        dsimp only at this
        exact ⟨this.2.1, this.1, fun z => this.2.2 z.symm⟩
    · refine List.nodup_append.2 ⟨irr, ?_, fun p hp q hq e => by subst e; exact (exm p hq).2 hp⟩
      rw [hex]
      refine List.pairwise_map.2 ((irr.filter _).imp fun {p q} hne e => hne ?_)
      have e1 := congrArg Prod.fst e
      have e2 := congrArg Prod.snd e
      exact Prod.ext e2 e1
    · rw [List.length_mergeSort, List.length_append]; omega
  rintro ⟨n', as⟩ ⟨V, hn7⟩
  dsimp only at V hn7 ⊢
  have lo := V.lo
  obtain ⟨n, rfl⟩ : ∃ n : Nat, n' = (n : Int) := ⟨n'.toNat, by omega⟩
  refine oks_call (Oks.eq (knows V)) ?_
  rintro _ rfl
  refine oks_call (Oks.eq (init V)) ?_
  rintro _ rfl
  obtain ⟨F, eF, gF⟩ := friend_lots V (by omega)
  refine oks_call (Oks.eq (told_ok eF)) ?_
  rintro _ rfl
  refine oks_call (Oks.eq (lots (n := (n : Int)) (by omega) (by omega))) ?_
  rintro _ rfl
  rw [Int.toNat_natCast]
  have l256 : (lotsN n).length ≤ 256 := by
    rw [lotsN_len]
    exact Nat.le_trans (Nat.pow_le_pow_right (by decide) (show n ≤ 8 by omega)) (by decide)
  refine oks_ck (by omega) ?_
  rw [KT.comp_map (g := fr as) fun L hL => by rw [law_friends V (mem_lotsN.1 hL)]; rfl, no_ok, O.bind_ok]
  refine oks_bind (fewest (n := n) (f := fun p => fr as (bitsL n p)) (by omega) (fun t ht => single ht) (by rw [List.length_map, lotsN_len]) fun p hp => ?_) ?_
  · rw [at_nat (by omega) (by rw [List.length_map, lotsN_len]; omega), Int.toNat_natCast, List.getElem?_map, lots_bits hp]; rfl
  rintro _ ⟨k, rfl, hk⟩
  have hkF := gF.mn.uniq hk
  refine oks_bind (P := fun p => p.1 = false) ?_ fun p hp => ?_
  · refine oks_ifb (fun c => ?_) fun _ => ?_
    · rw [decide_eq_true rfl] at c; cases c
    · refine oks_opt (asT_words F) (oks_opt (a := true) rfl (oks_ifb (fun c => by cases c) fun _ => oks_opt (asT_words F) (oks_ok ?_)))
      dsimp only
      rw [hkF, decide_eq_true rfl]; rfl
  rw [hp]
  refine oks_ifb (fun h => by cases h) fun _ => oks_opt (asT_words F) ?_
  have Fl : (F.flatMap id).length ≤ 12 := by
    rw [gF.perm.length_eq]
    have := (bits_lot n (2 ^ n - 1)).len (by omega)
    omega
  refine oks_aft (P := EndQ fun s : List Int => s = F.flatMap id) ?_ (fun s hs => ?_) (fun s hs => ?_) (fun x h => h.elim)
  · refine oks_loop (fun pre s => s = pre.flatMap id) rfl ?_ fun s hs => hs
    rintro pre2 L post2 s2 e2 rfl
    have mL : L ∈ F := by rw [e2]; simp
    have ll : (pre2.flatMap id).length + L.length ≤ 12 := by
      rw [e2, List.flatMap_append, List.flatMap_cons, List.length_append, List.length_append] at Fl
      simp only [id] at Fl ⊢
      omega
    refine oks_bind (P := fun p => p.1 = false) ?_ fun p hp => ?_
    · have pos := List.length_pos_iff.2 (gF.ne L mL)
      refine oks_opt (a := true) rfl (oks_ifb (fun c => by cases c) fun _ => oks_ifb (fun c => by have := of_decide_eq_true c; omega) fun _ => ?_)
      refine oks_call (Oks.eq (law_friends V (gF.lot L mL))) ?_
      rintro _ rfl
      rw [gF.frs L mL]
      exact oks_ok rfl
    rw [hp]
    refine oks_ifb (fun h => by cases h) fun _ => oks_ifb (fun c => ?_) fun _ => oks_ck (by unfold catC; omega) (oks_lt (oks_ok ?_))
    · rw [decide_eq_true (sort_same (gF.lot L mL).1).symm] at c; cases c
    · rw [List.flatMap_append]; simp
  all_goals
    obtain rfl := (hs : s = F.flatMap id)
    refine oks_ck (by unfold okS okR; omega) ?_
    rw [sort_perm (gF.perm.trans (by rw [bits_full])) (rng_sorted 0 n)]
    refine oks_call (Oks.eq (same (v := eT eI (rngT 0 n)) (pl_word 4 _ (by rw [rng_len]; omega)))) ?_
    rintro _ rfl
    refine oks_ifb (fun h => by cases h) fun _ => oks_ck (by rw [rng_len]; decide) ?_
    rw [eq8]
    refine oks_lt (oks_call (Oks.eq (init vn8)) ?_)
    rintro _ rfl
    refine oks_call (Oks.eq (told_ok fl8)) ?_
    rintro _ rfl
    refine oks_bind (P := fun p => p.1 = false) ?_ fun p hp => ?_
    · refine oks_ifb (fun c => ?_) fun _ => ?_
      · rw [decide_eq_true rfl] at c; cases c
      · refine oks_opt dec8 (oks_ifb (fun c => by cases c) fun _ => oks_opt dec8 (oks_ok ?_))
        dsimp only
        rw [srt8, ev8, decide_eq_true rfl]; rfl
    rw [hp]
    refine oks_ifb (fun h => by cases h) fun _ => ?_
    obtain ⟨x24, e24, _, _⟩ := N.at (i := 24) (by decide) (by decide)
    refine oks_opt e24 (oks_lt ?_)
    refine oks_call (Oks.eq (init (vnG (n := 9 + x24 % 4) (by omega) (by omega)))) ?_
    rintro _ rfl
    obtain ⟨xw, exw⟩ : ∃ x, reprV (eS (PySem.Str.ofString "places")) = some x := ⟨_, (by decide +kernel : reprV (eS (PySem.Str.ofString "places")) = some (PySem.Str.ofString "'places'"))⟩
    refine oks_call (Oks.eq (told_many (by omega) exw)) ?_
    rintro _ rfl
    refine oks_opt exw (oks_call (Oks.eq (same (v := eP2 eS eY (_, eS xw)) rfl)) ?_)
    rintro _ rfl
    exact oks_ifb (fun h => by cases h) fun _ => oks_ok trivial
theorem law_true (ns : List Int) (hl : ns.length ≤ 63) (hb : ∀ z ∈ ns, Builtin.Int.intBits z ≤ 1048576) : ∃ outs, fn_law [.scr ns] = .ok (.bl true) outs := law_of (told ns hl)
end Lk33
namespace Lk33
open PySem PySem.Spec L2 KS PyProof.Rows
def fldF : Nat → Str
  | 0 => (PySem.Str.ofString "size")
  | 1 => (PySem.Str.ofString "arcs")
  | 2 => (PySem.Str.ofString "knows")
  | _ => (PySem.Str.ofString "?")
theorem injF_size : ∀ m, fldF m = fldF 0 → m = 0
  | 0, _ => rfl
  | 1, h => absurd h (show ¬ ((PySem.Str.ofString "arcs") = (PySem.Str.ofString "size")) by decide +kernel)
  | 2, h => absurd h (show ¬ ((PySem.Str.ofString "knows") = (PySem.Str.ofString "size")) by decide +kernel)
  | _ + 3, h => absurd h (show ¬ ((PySem.Str.ofString "?") = (PySem.Str.ofString "size")) by decide +kernel)
theorem injF_arcs : ∀ m, fldF m = fldF 1 → m = 1
  | 0, h => absurd h (show ¬ ((PySem.Str.ofString "size") = (PySem.Str.ofString "arcs")) by decide +kernel)
  | 1, _ => rfl
  | 2, h => absurd h (show ¬ ((PySem.Str.ofString "knows") = (PySem.Str.ofString "arcs")) by decide +kernel)
  | _ + 3, h => absurd h (show ¬ ((PySem.Str.ofString "?") = (PySem.Str.ofString "arcs")) by decide +kernel)
theorem injF_knows : ∀ m, fldF m = fldF 2 → m = 2
  | 0, h => absurd h (show ¬ ((PySem.Str.ofString "size") = (PySem.Str.ofString "knows")) by decide +kernel)
  | 1, h => absurd h (show ¬ ((PySem.Str.ofString "arcs") = (PySem.Str.ofString "knows")) by decide +kernel)
  | 2, _ => rfl
  | _ + 3, h => absurd h (show ¬ ((PySem.Str.ofString "?") = (PySem.Str.ofString "knows")) by decide +kernel)
def spLaw (K : PySem.W.Frag) : Sp := fun vs H Q _ => ∃ (a : Addr) (ns : List Int), vs = [.ref a] ∧ SqL K H a (ns.map V.int) ∧ ns.length ≤ 63 ∧ (∀ z ∈ ns, Builtin.Int.intBits z ≤ 1048576) ∧ ∀ H', Q (.bl true) H'
theorem sp_law {G : SE} (ht : G.tabs = []) (vs : List V) (H : Hp) (Q : VK) (E : XK) (h : spLaw G.K vs H Q E) : spOf G [false] false fn_law vs H Q E := by
  obtain ⟨a, ns, rfl, hs, hl, hb, q⟩ := h
  refine ⟨[.scr ns], H, ⟨.refl _, (by rw [ht]; intro P hP; cases hP), rfl, rfl, fun i d hm hd => ?_, fun i d hm hd => ?_, fun i j a' hij hi hj => ?_⟩, ?_⟩
  · cases i with
    | zero =>
      have e : D.scr ns = d := Option.some.inj hd
      subst e
      refine ⟨_, rfl, ?_⟩
      simp only [Rep]
      exact ⟨a, rfl, hs⟩
    | succ i => simp at hd
  · cases i with
    | zero => cases hm
    | succ i => simp at hm
  · cases i with
    | zero => cases hi
    | succ i => simp at hi
  · obtain ⟨outs, e⟩ := law_true ns hl hb
    rw [e]
    intro v H' Hv' _ ret
    have ret : Rep G Hv' (.bl true) v := by
      unfold RetR at ret
      rwa [if_neg Bool.false_ne_true] at ret
    rw [Rep.bl_iff.mp ret]
    exact q H'
theorem all_mk {l : PySem.W.OpenLaw} {w : World} {K : PySem.W.Frag} {h : Heap} {mg : Str → Option Value} {fa f_law_numbers f_law_order f_law_ring_of_five f_law_net f_law_knows f_check_size f_lot_of f_are_friends f_least_place f_friend_lots f_law_kinds f_law_told f_law_fewest f_is_below f_first_wrong_arc f_Net_init f_law_same f_law_are_friends f_law_lots f_law C_Net X_TooMany of_TooMany X_InvalidNet of_InvalidNet Y_SayError Y_InvalidAudience Y_InvalidDeed Y_InvalidLine Y_InvalidLosses Y_InvalidLot Y_InvalidMatrix Y_InvalidNumber Y_InvalidSignals Y_InvalidText Y_InvalidWord Y_InvalidWords Y_NothingToUndo Y_Undefined Y_UnknownWord : Addr} (X : K.In h) (G : h.Ns mainGlobals mg) (hfa : mg "law" = some (.ref fa))
    {od_law_numbers an_law_numbers od_law_order an_law_order od_law_ring_of_five an_law_ring_of_five od_law_net an_law_net od_law_knows an_law_knows od_check_size an_check_size od_lot_of an_lot_of od_are_friends an_are_friends od_least_place an_least_place od_friend_lots an_friend_lots od_law_kinds an_law_kinds od_law_told an_law_told od_law_fewest an_law_fewest od_is_below an_is_below od_first_wrong_arc an_first_wrong_arc od_Net_init an_Net_init od_law_same an_law_same od_law_are_friends an_law_are_friends od_law_lots an_law_lots od_law an_law od_TooMany an_TooMany od_InvalidNet an_InvalidNet : Option Addr} {sl_law_numbers sl_law_order sl_law_ring_of_five sl_law_net sl_law_knows sl_check_size sl_lot_of sl_are_friends sl_least_place sl_friend_lots sl_law_kinds sl_law_told sl_law_fewest sl_is_below sl_first_wrong_arc sl_Net_init sl_law_same sl_law_are_friends sl_law_lots sl_law sl_TooMany sl_InvalidNet : Array (Option Value)} {oc_law_numbers kV_law_numbers dc_law_numbers pm_law_numbers cd_law_numbers ct_law_numbers oc_law_order kV_law_order dc_law_order pm_law_order cd_law_order ct_law_order oc_law_ring_of_five kV_law_ring_of_five dc_law_ring_of_five pm_law_ring_of_five cd_law_ring_of_five ct_law_ring_of_five oc_law_net kV_law_net dc_law_net pm_law_net cd_law_net ct_law_net oc_law_knows kV_law_knows dc_law_knows pm_law_knows cd_law_knows ct_law_knows oc_check_size kV_check_size dc_check_size pm_check_size cd_check_size ct_check_size oc_lot_of kV_lot_of dc_lot_of pm_lot_of cd_lot_of ct_lot_of oc_are_friends kV_are_friends dc_are_friends pm_are_friends cd_are_friends ct_are_friends oc_least_place kV_least_place dc_least_place pm_least_place cd_least_place ct_least_place oc_friend_lots kV_friend_lots dc_friend_lots pm_friend_lots cd_friend_lots ct_friend_lots oc_law_kinds kV_law_kinds dc_law_kinds pm_law_kinds cd_law_kinds ct_law_kinds oc_law_told kV_law_told dc_law_told pm_law_told cd_law_told ct_law_told oc_law_fewest kV_law_fewest dc_law_fewest pm_law_fewest cd_law_fewest ct_law_fewest oc_is_below kV_is_below dc_is_below pm_is_below cd_is_below ct_is_below oc_first_wrong_arc kV_first_wrong_arc dc_first_wrong_arc pm_first_wrong_arc cd_first_wrong_arc ct_first_wrong_arc oc_Net_init kV_Net_init dc_Net_init pm_Net_init cd_Net_init ct_Net_init oc_law_same kV_law_same dc_law_same pm_law_same cd_law_same ct_law_same oc_law_are_friends kV_law_are_friends dc_law_are_friends pm_law_are_friends cd_law_are_friends ct_law_are_friends oc_law_lots kV_law_lots dc_law_lots pm_law_lots cd_law_lots ct_law_lots oc_law kV_law dc_law pm_law cd_law ct_law oc_TooMany kV_TooMany dc_TooMany pm_TooMany cd_TooMany ct_TooMany oc_InvalidNet kV_InvalidNet dc_InvalidNet pm_InvalidNet cd_InvalidNet ct_InvalidNet : Value} {t_MOST_PLACES_netbounds t_MOST_PLACES_nets : Tok}
    (aC_Net : PySem.W.nsIn K mainGlobals (PySem.Str.ofString "Net") = some (some (.ref C_Net)))
    (xC_TooMany : PySem.W.nsIn K mainGlobals (PySem.Str.ofString "TooMany") = some (some (.ref X_TooMany)))
    (xC_InvalidNet : PySem.W.nsIn K mainGlobals (PySem.Str.ofString "InvalidNet") = some (some (.ref X_InvalidNet)))
    (yC_SayError : PySem.W.nsIn K mainGlobals (PySem.Str.ofString "SayError") = some (some (.ref Y_SayError)))
    (yC_InvalidAudience : PySem.W.nsIn K mainGlobals (PySem.Str.ofString "InvalidAudience") = some (some (.ref Y_InvalidAudience)))
    (yC_InvalidDeed : PySem.W.nsIn K mainGlobals (PySem.Str.ofString "InvalidDeed") = some (some (.ref Y_InvalidDeed)))
    (yC_InvalidLine : PySem.W.nsIn K mainGlobals (PySem.Str.ofString "InvalidLine") = some (some (.ref Y_InvalidLine)))
    (yC_InvalidLosses : PySem.W.nsIn K mainGlobals (PySem.Str.ofString "InvalidLosses") = some (some (.ref Y_InvalidLosses)))
    (yC_InvalidLot : PySem.W.nsIn K mainGlobals (PySem.Str.ofString "InvalidLot") = some (some (.ref Y_InvalidLot)))
    (yC_InvalidMatrix : PySem.W.nsIn K mainGlobals (PySem.Str.ofString "InvalidMatrix") = some (some (.ref Y_InvalidMatrix)))
    (yC_InvalidNumber : PySem.W.nsIn K mainGlobals (PySem.Str.ofString "InvalidNumber") = some (some (.ref Y_InvalidNumber)))
    (yC_InvalidSignals : PySem.W.nsIn K mainGlobals (PySem.Str.ofString "InvalidSignals") = some (some (.ref Y_InvalidSignals)))
    (yC_InvalidText : PySem.W.nsIn K mainGlobals (PySem.Str.ofString "InvalidText") = some (some (.ref Y_InvalidText)))
    (yC_InvalidWord : PySem.W.nsIn K mainGlobals (PySem.Str.ofString "InvalidWord") = some (some (.ref Y_InvalidWord)))
    (yC_InvalidWords : PySem.W.nsIn K mainGlobals (PySem.Str.ofString "InvalidWords") = some (some (.ref Y_InvalidWords)))
    (yC_NothingToUndo : PySem.W.nsIn K mainGlobals (PySem.Str.ofString "NothingToUndo") = some (some (.ref Y_NothingToUndo)))
    (yC_Undefined : PySem.W.nsIn K mainGlobals (PySem.Str.ofString "Undefined") = some (some (.ref Y_Undefined)))
    (yC_UnknownWord : PySem.W.nsIn K mainGlobals (PySem.Str.ofString "UnknownWord") = some (some (.ref Y_UnknownWord)))
    (a_law_numbers : PySem.W.nsIn K mainGlobals (PySem.Str.ofString "_law_numbers") = some (some (.ref f_law_numbers)))
    (l_law_numbers : K.lookup f_law_numbers = some ⟨oc_law_numbers, od_law_numbers, .func (PySem.W.fnOf (PySem.Str.ofString "_law_numbers") (PySem.Str.ofString "_law_numbers") (defArgs st_law_numbers) (defBody st_law_numbers) (defScope st_law_numbers) .none kV_law_numbers dc_law_numbers pm_law_numbers an_law_numbers cd_law_numbers ct_law_numbers), sl_law_numbers⟩)
    (c_law_numbers : PySem.W.codeIn K cd_law_numbers (PySem.Str.ofString "_law_numbers") = true)
    (k_law_numbers : PySem.W.keepIn K (.ref f_law_numbers) = true)
    (a_law_order : PySem.W.nsIn K mainGlobals (PySem.Str.ofString "_law_order") = some (some (.ref f_law_order)))
    (l_law_order : K.lookup f_law_order = some ⟨oc_law_order, od_law_order, .func (PySem.W.fnOf (PySem.Str.ofString "_law_order") (PySem.Str.ofString "_law_order") (defArgs st_law_order) (defBody st_law_order) (defScope st_law_order) .none kV_law_order dc_law_order pm_law_order an_law_order cd_law_order ct_law_order), sl_law_order⟩)
    (c_law_order : PySem.W.codeIn K cd_law_order (PySem.Str.ofString "_law_order") = true)
    (k_law_order : PySem.W.keepIn K (.ref f_law_order) = true)
    (a_law_ring_of_five : PySem.W.nsIn K mainGlobals (PySem.Str.ofString "_law_ring_of_five") = some (some (.ref f_law_ring_of_five)))
    (l_law_ring_of_five : K.lookup f_law_ring_of_five = some ⟨oc_law_ring_of_five, od_law_ring_of_five, .func (PySem.W.fnOf (PySem.Str.ofString "_law_ring_of_five") (PySem.Str.ofString "_law_ring_of_five") (defArgs st_law_ring_of_five) (defBody st_law_ring_of_five) (defScope st_law_ring_of_five) .none kV_law_ring_of_five dc_law_ring_of_five pm_law_ring_of_five an_law_ring_of_five cd_law_ring_of_five ct_law_ring_of_five), sl_law_ring_of_five⟩)
    (c_law_ring_of_five : PySem.W.codeIn K cd_law_ring_of_five (PySem.Str.ofString "_law_ring_of_five") = true)
    (k_law_ring_of_five : PySem.W.keepIn K (.ref f_law_ring_of_five) = true)
    (a_law_net : PySem.W.nsIn K mainGlobals (PySem.Str.ofString "_law_net") = some (some (.ref f_law_net)))
    (l_law_net : K.lookup f_law_net = some ⟨oc_law_net, od_law_net, .func (PySem.W.fnOf (PySem.Str.ofString "_law_net") (PySem.Str.ofString "_law_net") (defArgs st_law_net) (defBody st_law_net) (defScope st_law_net) .none kV_law_net dc_law_net pm_law_net an_law_net cd_law_net ct_law_net), sl_law_net⟩)
    (c_law_net : PySem.W.codeIn K cd_law_net (PySem.Str.ofString "_law_net") = true)
    (k_law_net : PySem.W.keepIn K (.ref f_law_net) = true)
    (a_law_knows : PySem.W.nsIn K mainGlobals (PySem.Str.ofString "_law_knows") = some (some (.ref f_law_knows)))
    (l_law_knows : K.lookup f_law_knows = some ⟨oc_law_knows, od_law_knows, .func (PySem.W.fnOf (PySem.Str.ofString "_law_knows") (PySem.Str.ofString "_law_knows") (defArgs st_law_knows) (defBody st_law_knows) (defScope st_law_knows) .none kV_law_knows dc_law_knows pm_law_knows an_law_knows cd_law_knows ct_law_knows), sl_law_knows⟩)
    (c_law_knows : PySem.W.codeIn K cd_law_knows (PySem.Str.ofString "_law_knows") = true)
    (k_law_knows : PySem.W.keepIn K (.ref f_law_knows) = true)
    (a_check_size : PySem.W.nsIn K mainGlobals (PySem.Str.ofString "check_size") = some (some (.ref f_check_size)))
    (l_check_size : K.lookup f_check_size = some ⟨oc_check_size, od_check_size, .func (PySem.W.fnOf (PySem.Str.ofString "check_size") (PySem.Str.ofString "check_size") (defArgs st_check_size) (defBody st_check_size) (defScope st_check_size) .none kV_check_size dc_check_size pm_check_size an_check_size cd_check_size ct_check_size), sl_check_size⟩)
    (c_check_size : PySem.W.codeIn K cd_check_size (PySem.Str.ofString "check_size") = true)
    (k_check_size : PySem.W.keepIn K (.ref f_check_size) = true)
    (a_lot_of : PySem.W.nsIn K mainGlobals (PySem.Str.ofString "lot_of") = some (some (.ref f_lot_of)))
    (l_lot_of : K.lookup f_lot_of = some ⟨oc_lot_of, od_lot_of, .func (PySem.W.fnOf (PySem.Str.ofString "lot_of") (PySem.Str.ofString "lot_of") (defArgs st_lot_of) (defBody st_lot_of) (defScope st_lot_of) .none kV_lot_of dc_lot_of pm_lot_of an_lot_of cd_lot_of ct_lot_of), sl_lot_of⟩)
    (c_lot_of : PySem.W.codeIn K cd_lot_of (PySem.Str.ofString "lot_of") = true)
    (k_lot_of : PySem.W.keepIn K (.ref f_lot_of) = true)
    (a_are_friends : PySem.W.nsIn K mainGlobals (PySem.Str.ofString "are_friends") = some (some (.ref f_are_friends)))
    (l_are_friends : K.lookup f_are_friends = some ⟨oc_are_friends, od_are_friends, .func (PySem.W.fnOf (PySem.Str.ofString "are_friends") (PySem.Str.ofString "are_friends") (defArgs st_are_friends) (defBody st_are_friends) (defScope st_are_friends) .none kV_are_friends dc_are_friends pm_are_friends an_are_friends cd_are_friends ct_are_friends), sl_are_friends⟩)
    (c_are_friends : PySem.W.codeIn K cd_are_friends (PySem.Str.ofString "are_friends") = true)
    (k_are_friends : PySem.W.keepIn K (.ref f_are_friends) = true)
    (a_least_place : PySem.W.nsIn K mainGlobals (PySem.Str.ofString "least_place") = some (some (.ref f_least_place)))
    (l_least_place : K.lookup f_least_place = some ⟨oc_least_place, od_least_place, .func (PySem.W.fnOf (PySem.Str.ofString "least_place") (PySem.Str.ofString "least_place") (defArgs st_least_place) (defBody st_least_place) (defScope st_least_place) .none kV_least_place dc_least_place pm_least_place an_least_place cd_least_place ct_least_place), sl_least_place⟩)
    (c_least_place : PySem.W.codeIn K cd_least_place (PySem.Str.ofString "least_place") = true)
    (k_least_place : PySem.W.keepIn K (.ref f_least_place) = true)
    (a_friend_lots : PySem.W.nsIn K mainGlobals (PySem.Str.ofString "friend_lots") = some (some (.ref f_friend_lots)))
    (l_friend_lots : K.lookup f_friend_lots = some ⟨oc_friend_lots, od_friend_lots, .func (PySem.W.fnOf (PySem.Str.ofString "friend_lots") (PySem.Str.ofString "friend_lots") (defArgs st_friend_lots) (defBody st_friend_lots) (defScope st_friend_lots) .none kV_friend_lots dc_friend_lots pm_friend_lots an_friend_lots cd_friend_lots ct_friend_lots), sl_friend_lots⟩)
    (c_friend_lots : PySem.W.codeIn K cd_friend_lots (PySem.Str.ofString "friend_lots") = true)
    (k_friend_lots : PySem.W.keepIn K (.ref f_friend_lots) = true)
    (a_law_kinds : PySem.W.nsIn K mainGlobals (PySem.Str.ofString "_law_kinds") = some (some (.ref f_law_kinds)))
    (l_law_kinds : K.lookup f_law_kinds = some ⟨oc_law_kinds, od_law_kinds, .func (PySem.W.fnOf (PySem.Str.ofString "_law_kinds") (PySem.Str.ofString "_law_kinds") (defArgs st_law_kinds) (defBody st_law_kinds) (defScope st_law_kinds) .none kV_law_kinds dc_law_kinds pm_law_kinds an_law_kinds cd_law_kinds ct_law_kinds), sl_law_kinds⟩)
    (c_law_kinds : PySem.W.codeIn K cd_law_kinds (PySem.Str.ofString "_law_kinds") = true)
    (k_law_kinds : PySem.W.keepIn K (.ref f_law_kinds) = true)
    (a_law_told : PySem.W.nsIn K mainGlobals (PySem.Str.ofString "_law_told") = some (some (.ref f_law_told)))
    (l_law_told : K.lookup f_law_told = some ⟨oc_law_told, od_law_told, .func (PySem.W.fnOf (PySem.Str.ofString "_law_told") (PySem.Str.ofString "_law_told") (defArgs st_law_told) (defBody st_law_told) (defScope st_law_told) .none kV_law_told dc_law_told pm_law_told an_law_told cd_law_told ct_law_told), sl_law_told⟩)
    (c_law_told : PySem.W.codeIn K cd_law_told (PySem.Str.ofString "_law_told") = true)
    (k_law_told : PySem.W.keepIn K (.ref f_law_told) = true)
    (a_law_fewest : PySem.W.nsIn K mainGlobals (PySem.Str.ofString "_law_fewest") = some (some (.ref f_law_fewest)))
    (l_law_fewest : K.lookup f_law_fewest = some ⟨oc_law_fewest, od_law_fewest, .func (PySem.W.fnOf (PySem.Str.ofString "_law_fewest") (PySem.Str.ofString "_law_fewest") (defArgs st_law_fewest) (defBody st_law_fewest) (defScope st_law_fewest) .none kV_law_fewest dc_law_fewest pm_law_fewest an_law_fewest cd_law_fewest ct_law_fewest), sl_law_fewest⟩)
    (c_law_fewest : PySem.W.codeIn K cd_law_fewest (PySem.Str.ofString "_law_fewest") = true)
    (k_law_fewest : PySem.W.keepIn K (.ref f_law_fewest) = true)
    (a_is_below : PySem.W.nsIn K mainGlobals (PySem.Str.ofString "is_below") = some (some (.ref f_is_below)))
    (l_is_below : K.lookup f_is_below = some ⟨oc_is_below, od_is_below, .func (PySem.W.fnOf (PySem.Str.ofString "is_below") (PySem.Str.ofString "is_below") (defArgs st_is_below) (defBody st_is_below) (defScope st_is_below) .none kV_is_below dc_is_below pm_is_below an_is_below cd_is_below ct_is_below), sl_is_below⟩)
    (c_is_below : PySem.W.codeIn K cd_is_below (PySem.Str.ofString "is_below") = true)
    (k_is_below : PySem.W.keepIn K (.ref f_is_below) = true)
    (a_first_wrong_arc : PySem.W.nsIn K mainGlobals (PySem.Str.ofString "first_wrong_arc") = some (some (.ref f_first_wrong_arc)))
    (l_first_wrong_arc : K.lookup f_first_wrong_arc = some ⟨oc_first_wrong_arc, od_first_wrong_arc, .func (PySem.W.fnOf (PySem.Str.ofString "first_wrong_arc") (PySem.Str.ofString "first_wrong_arc") (defArgs st_first_wrong_arc) (defBody st_first_wrong_arc) (defScope st_first_wrong_arc) .none kV_first_wrong_arc dc_first_wrong_arc pm_first_wrong_arc an_first_wrong_arc cd_first_wrong_arc ct_first_wrong_arc), sl_first_wrong_arc⟩)
    (c_first_wrong_arc : PySem.W.codeIn K cd_first_wrong_arc (PySem.Str.ofString "first_wrong_arc") = true)
    (k_first_wrong_arc : PySem.W.keepIn K (.ref f_first_wrong_arc) = true)
    (a_Net_init : PySem.W.findIn K (.ref C_Net) (PySem.Str.ofString "__init__") = some (some (.ref f_Net_init)))
    (i_Net_init : PySem.W.isFn K (.ref f_Net_init) = true)
    (l_Net_init : K.lookup f_Net_init = some ⟨oc_Net_init, od_Net_init, .func (PySem.W.fnOf (PySem.Str.ofString "__init__") (PySem.Str.ofString "Net.__init__") (defArgs st_Net_init) (defBody st_Net_init) (defScope st_Net_init) .none kV_Net_init dc_Net_init pm_Net_init an_Net_init cd_Net_init ct_Net_init), sl_Net_init⟩)
    (c_Net_init : PySem.W.codeIn K cd_Net_init (PySem.Str.ofString "Net.__init__") = true)
    (k_Net_init : PySem.W.keepIn K (.ref f_Net_init) = true)
    (a_law_same : PySem.W.nsIn K mainGlobals (PySem.Str.ofString "_law_same") = some (some (.ref f_law_same)))
    (l_law_same : K.lookup f_law_same = some ⟨oc_law_same, od_law_same, .func (PySem.W.fnOf (PySem.Str.ofString "_law_same") (PySem.Str.ofString "_law_same") (defArgs st_law_same) (defBody st_law_same) (defScope st_law_same) .none kV_law_same dc_law_same pm_law_same an_law_same cd_law_same ct_law_same), sl_law_same⟩)
    (c_law_same : PySem.W.codeIn K cd_law_same (PySem.Str.ofString "_law_same") = true)
    (k_law_same : PySem.W.keepIn K (.ref f_law_same) = true)
    (a_law_are_friends : PySem.W.nsIn K mainGlobals (PySem.Str.ofString "_law_are_friends") = some (some (.ref f_law_are_friends)))
    (l_law_are_friends : K.lookup f_law_are_friends = some ⟨oc_law_are_friends, od_law_are_friends, .func (PySem.W.fnOf (PySem.Str.ofString "_law_are_friends") (PySem.Str.ofString "_law_are_friends") (defArgs st_law_are_friends) (defBody st_law_are_friends) (defScope st_law_are_friends) .none kV_law_are_friends dc_law_are_friends pm_law_are_friends an_law_are_friends cd_law_are_friends ct_law_are_friends), sl_law_are_friends⟩)
    (c_law_are_friends : PySem.W.codeIn K cd_law_are_friends (PySem.Str.ofString "_law_are_friends") = true)
    (k_law_are_friends : PySem.W.keepIn K (.ref f_law_are_friends) = true)
    (a_law_lots : PySem.W.nsIn K mainGlobals (PySem.Str.ofString "_law_lots") = some (some (.ref f_law_lots)))
    (l_law_lots : K.lookup f_law_lots = some ⟨oc_law_lots, od_law_lots, .func (PySem.W.fnOf (PySem.Str.ofString "_law_lots") (PySem.Str.ofString "_law_lots") (defArgs st_law_lots) (defBody st_law_lots) (defScope st_law_lots) .none kV_law_lots dc_law_lots pm_law_lots an_law_lots cd_law_lots ct_law_lots), sl_law_lots⟩)
    (c_law_lots : PySem.W.codeIn K cd_law_lots (PySem.Str.ofString "_law_lots") = true)
    (k_law_lots : PySem.W.keepIn K (.ref f_law_lots) = true)
    (a_law : PySem.W.nsIn K mainGlobals (PySem.Str.ofString "law") = some (some (.ref f_law)))
    (l_law : K.lookup f_law = some ⟨oc_law, od_law, .func (PySem.W.fnOf (PySem.Str.ofString "law") (PySem.Str.ofString "law") (defArgs st_law) (defBody st_law) (defScope st_law) .none kV_law dc_law pm_law an_law cd_law ct_law), sl_law⟩)
    (c_law : PySem.W.codeIn K cd_law (PySem.Str.ofString "law") = true)
    (k_law : PySem.W.keepIn K (.ref f_law) = true)
    (pg_Net : PySem.W.plainGet K C_Net Str.empty = true)
    (hd_Net : PySem.W.hasDictIn K C_Net = true)
    (po_Net : PySem.W.plainOver K C_Net = true)
    (sa_Net : PySem.W.findIn K (.ref C_Net) "__setattr__" = some (some (.builtin "object.__setattr__")))
    (mk_Net : PySem.W.makesIn K C_Net = true)
    (kq_Net : PySem.W.keepIn K (.ref C_Net) = true)
    (ha_Net : PySem.W.findIn K (.ref C_Net) "__class__" = some (some (.builtin "object.__class__")))
    (hn_Net : PySem.W.specialIn K (.builtin "object.__class__") "__get__" = some (some (.builtin "getset_descriptor.__get__")))
    (ht_Net : PySem.W.takesIn K (.builtin "object.__class__") = some true)
    (hm_Net : PySem.W.mroIn K C_Net (.type "object") = some true)
    (nf_Net_size : PySem.W.findIn K (.ref C_Net) (PySem.Str.ofString "size") = some none)
    (nf_Net_arcs : PySem.W.findIn K (.ref C_Net) (PySem.Str.ofString "arcs") = some none)
    (nf_Net_knows : PySem.W.findIn K (.ref C_Net) (PySem.Str.ofString "knows") = some none)
    (xa_TooMany : PySem.W.findIn K (.ref X_TooMany) "__init__" = some (some (.ref of_TooMany)))
    (xt_TooMany : PySem.W.typeIn K (.ref of_TooMany) = some (.type "function"))
    (xl_TooMany : K.lookup of_TooMany = some ⟨oc_TooMany, od_TooMany, .func (PySem.W.fnOf "__init__" (PySem.Str.ofString "TooMany.__init__") (defArgs st_xTooMany) (defBody st_xTooMany) (defScope st_xTooMany) .none kV_TooMany dc_TooMany pm_TooMany an_TooMany cd_TooMany ct_TooMany), sl_TooMany⟩)
    (xc_TooMany : PySem.W.codeIn K cd_TooMany (PySem.Str.ofString "TooMany.__init__") = true)
    (xk_TooMany : PySem.W.keepIn K (.ref of_TooMany) = true)
    (xs_TooMany : PySem.W.findIn K (.ref X_TooMany) "__setattr__" = some (some (.builtin "object.__setattr__")))
    (xe_TooMany : PySem.W.subIn K (.ref X_TooMany) (.type "BaseException") = some true)
    (xy_TooMany : PySem.W.typeIn K (.ref X_TooMany) = some (.type "type"))
    (xp_TooMany : PySem.W.keepIn K (.ref X_TooMany) = true)
    (xo_TooMany : ∃ nm q N bs bm sn sub ab col dd k0 k1 k2 k3 k5, K.lookup X_TooMany = some (excClassObj nm q X_TooMany N bs bm true sn sub ab col dd k0 k1 k2 k3 k5 "ValueError.__new__") ∧ PySem.HandSPX.refsVE bm = true)
    (xf_TooMany_what : PySem.W.findIn K (.ref X_TooMany) (PySem.Str.ofString "what") = some none)
    (eg_TooMany : PySem.W.findIn K (.ref X_TooMany) "__getattribute__" = some (some (.builtin "BaseException.__getattribute__")))
    (ek_TooMany : PySem.W.findIn K (.ref X_TooMany) "__getattr__" = some none)
    (eh_TooMany : PySem.W.hasDictIn K X_TooMany = true)
    (ea_TooMany : PySem.W.findIn K (.ref X_TooMany) "__class__" = some (some (.builtin "object.__class__")))
    (en_TooMany : PySem.W.specialIn K (.builtin "object.__class__") "__get__" = some (some (.builtin "getset_descriptor.__get__")))
    (et_TooMany : PySem.W.takesIn K (.builtin "object.__class__") = some true)
    (em_TooMany : PySem.W.mroIn K X_TooMany (.type "object") = some true)
    (xa_InvalidNet : PySem.W.findIn K (.ref X_InvalidNet) "__init__" = some (some (.ref of_InvalidNet)))
    (xt_InvalidNet : PySem.W.typeIn K (.ref of_InvalidNet) = some (.type "function"))
    (xl_InvalidNet : K.lookup of_InvalidNet = some ⟨oc_InvalidNet, od_InvalidNet, .func (PySem.W.fnOf "__init__" (PySem.Str.ofString "InvalidNet.__init__") (defArgs st_xInvalidNet) (defBody st_xInvalidNet) (defScope st_xInvalidNet) .none kV_InvalidNet dc_InvalidNet pm_InvalidNet an_InvalidNet cd_InvalidNet ct_InvalidNet), sl_InvalidNet⟩)
    (xc_InvalidNet : PySem.W.codeIn K cd_InvalidNet (PySem.Str.ofString "InvalidNet.__init__") = true)
    (xk_InvalidNet : PySem.W.keepIn K (.ref of_InvalidNet) = true)
    (xs_InvalidNet : PySem.W.findIn K (.ref X_InvalidNet) "__setattr__" = some (some (.builtin "object.__setattr__")))
    (xe_InvalidNet : PySem.W.subIn K (.ref X_InvalidNet) (.type "BaseException") = some true)
    (xy_InvalidNet : PySem.W.typeIn K (.ref X_InvalidNet) = some (.type "type"))
    (xp_InvalidNet : PySem.W.keepIn K (.ref X_InvalidNet) = true)
    (xo_InvalidNet : ∃ nm q N bs bm sn sub ab col dd k0 k1 k2 k3 k5, K.lookup X_InvalidNet = some (excClassObj nm q X_InvalidNet N bs bm true sn sub ab col dd k0 k1 k2 k3 k5 "ValueError.__new__") ∧ PySem.HandSPX.refsVE bm = true)
    (xf_InvalidNet_part : PySem.W.findIn K (.ref X_InvalidNet) (PySem.Str.ofString "part") = some none)
    (xf_InvalidNet_place : PySem.W.findIn K (.ref X_InvalidNet) (PySem.Str.ofString "place") = some none)
    (eg_InvalidNet : PySem.W.findIn K (.ref X_InvalidNet) "__getattribute__" = some (some (.builtin "BaseException.__getattribute__")))
    (ek_InvalidNet : PySem.W.findIn K (.ref X_InvalidNet) "__getattr__" = some none)
    (eh_InvalidNet : PySem.W.hasDictIn K X_InvalidNet = true)
    (ea_InvalidNet : PySem.W.findIn K (.ref X_InvalidNet) "__class__" = some (some (.builtin "object.__class__")))
    (en_InvalidNet : PySem.W.specialIn K (.builtin "object.__class__") "__get__" = some (some (.builtin "getset_descriptor.__get__")))
    (et_InvalidNet : PySem.W.takesIn K (.builtin "object.__class__") = some true)
    (em_InvalidNet : PySem.W.mroIn K X_InvalidNet (.type "object") = some true)
    (ys_SayError : PySem.W.subIn K (.ref Y_SayError) (.type "BaseException") = some true)
    (yd_SayError : PySem.W.hasDictIn K Y_SayError = true)
    (yt_SayError : PySem.W.typeIn K (.ref Y_SayError) = some (.type "type"))
    (yb_TooMany_SayError : PySem.W.subIn K (.ref X_TooMany) (.ref Y_SayError) = some true)
    (yb_InvalidNet_SayError : PySem.W.subIn K (.ref X_InvalidNet) (.ref Y_SayError) = some true)
    (yk_TooMany_TooMany : PySem.W.kitOne K (.ref X_TooMany) (.ref X_TooMany) = some true)
    (yk_InvalidNet_TooMany : PySem.W.kitOne K (.ref X_InvalidNet) (.ref X_TooMany) = some false)
    (yj_TooMany_0 : PySem.W.kitAny K (.ref X_TooMany) [.ref Y_InvalidAudience, .ref Y_InvalidDeed, .ref Y_InvalidLine, .ref Y_InvalidLosses, .ref Y_InvalidLot] = some false)
    (yj_InvalidNet_0 : PySem.W.kitAny K (.ref X_InvalidNet) [.ref Y_InvalidAudience, .ref Y_InvalidDeed, .ref Y_InvalidLine, .ref Y_InvalidLosses, .ref Y_InvalidLot] = some false)
    (yj_TooMany_1 : PySem.W.kitAny K (.ref X_TooMany) [.ref Y_InvalidMatrix, .ref X_InvalidNet, .ref Y_InvalidNumber, .ref Y_InvalidSignals, .ref Y_InvalidText] = some false)
    (yj_InvalidNet_1 : PySem.W.kitAny K (.ref X_InvalidNet) [.ref Y_InvalidMatrix, .ref X_InvalidNet, .ref Y_InvalidNumber, .ref Y_InvalidSignals, .ref Y_InvalidText] = some true)
    (yj_TooMany_2 : PySem.W.kitAny K (.ref X_TooMany) [.ref Y_InvalidWord, .ref Y_InvalidWords, .ref Y_NothingToUndo, .ref Y_Undefined, .ref Y_UnknownWord] = some false)
    (yj_InvalidNet_2 : PySem.W.kitAny K (.ref X_InvalidNet) [.ref Y_InvalidWord, .ref Y_InvalidWords, .ref Y_NothingToUndo, .ref Y_Undefined, .ref Y_UnknownWord] = some false)
    (yv_TooMany_ValueError : PySem.W.kitOne K (.ref X_TooMany) (.type "ValueError") = some true)
    (yv_InvalidNet_ValueError : PySem.W.kitOne K (.ref X_InvalidNet) (.type "ValueError") = some true)
    (z_ValueError : PySem.W.nsIn K mainGlobals (PySem.Str.ofString "ValueError") = some none)
    (z_abs : PySem.W.nsIn K mainGlobals (PySem.Str.ofString "abs") = some none)
    (z_all : PySem.W.nsIn K mainGlobals (PySem.Str.ofString "all") = some none)
    (z_bool : PySem.W.nsIn K mainGlobals (PySem.Str.ofString "bool") = some none)
    (z_enumerate : PySem.W.nsIn K mainGlobals (PySem.Str.ofString "enumerate") = some none)
    (z_int : PySem.W.nsIn K mainGlobals (PySem.Str.ofString "int") = some none)
    (z_isinstance : PySem.W.nsIn K mainGlobals (PySem.Str.ofString "isinstance") = some none)
    (z_len : PySem.W.nsIn K mainGlobals (PySem.Str.ofString "len") = some none)
    (z_list : PySem.W.nsIn K mainGlobals (PySem.Str.ofString "list") = some none)
    (z_min : PySem.W.nsIn K mainGlobals (PySem.Str.ofString "min") = some none)
    (z_range : PySem.W.nsIn K mainGlobals (PySem.Str.ofString "range") = some none)
    (z_repr : PySem.W.nsIn K mainGlobals (PySem.Str.ofString "repr") = some none)
    (z_sorted : PySem.W.nsIn K mainGlobals (PySem.Str.ofString "sorted") = some none)
    (z_str : PySem.W.nsIn K mainGlobals (PySem.Str.ofString "str") = some none)
    (z_tuple : PySem.W.nsIn K mainGlobals (PySem.Str.ofString "tuple") = some none)
    (g_MOST_PLACES_netbounds : PySem.W.nsIn K mainGlobals (PySem.Str.ofString "MOST_PLACES_netbounds") = some (some (.int 8 t_MOST_PLACES_netbounds)))
    (g_MOST_PLACES_nets : PySem.W.nsIn K mainGlobals (PySem.Str.ofString "MOST_PLACES_nets") = some (some (.int 12 t_MOST_PLACES_nets))) :
    ∃ fd : FuncData, (∀ (s : Shared) (v : Value), BindsTo s fd ⟨[v], []⟩ [((PySem.Str.ofString "_law_script"), v)]) ∧ ∀ base : Heap, K.In base → base.Ns mainGlobals mg → FnG l.prog w K mg base (L2N.CX l.prog w) 8 fa fd [(PySem.Str.ofString "_law_script")] (spLaw K) := by
  have e := hfa.symm.trans (PySem.W.mg_of X G a_law)
  cases e
  have F_law_numbers := fun_mk (st := st_law_numbers) l_law_numbers c_law_numbers k_law_numbers
  have b_law_numbers := F_law_numbers.binds (ps := [(PySem.Str.ofString "_law_cell"), (PySem.Str.ofString "_law_at"), (PySem.Str.ofString "_law_many")]) fun _ _ _ _ _ _ us hl => match us, hl with | [_, _, _], _ => rfl
  have F_law_order := fun_mk (st := st_law_order) l_law_order c_law_order k_law_order
  have b_law_order := F_law_order.binds (ps := [(PySem.Str.ofString "_law_numbers_here"), (PySem.Str.ofString "_law_k"), (PySem.Str.ofString "_law_size")]) fun _ _ _ _ _ _ us hl => match us, hl with | [_, _, _], _ => rfl
  have F_law_ring_of_five := fun_mk (st := st_law_ring_of_five) l_law_ring_of_five c_law_ring_of_five k_law_ring_of_five
  have b_law_ring_of_five := F_law_ring_of_five.binds (ps := [(PySem.Str.ofString "_law_numbers_here"), (PySem.Str.ofString "_law_k")]) fun _ _ _ _ _ _ us hl => match us, hl with | [_, _], _ => rfl
  have F_law_net := fun_mk (st := st_law_net) l_law_net c_law_net k_law_net
  have b_law_net := F_law_net.binds (ps := [(PySem.Str.ofString "_law_numbers_here"), (PySem.Str.ofString "_law_k"), (PySem.Str.ofString "_law_most")]) fun _ _ _ _ _ _ us hl => match us, hl with | [_, _, _], _ => rfl
  have F_law_knows := fun_mk (st := st_law_knows) l_law_knows c_law_knows k_law_knows
  have b_law_knows := F_law_knows.binds (ps := [(PySem.Str.ofString "_law_net_here")]) fun _ _ _ _ _ _ us hl => match us, hl with | [_], _ => rfl
  have F_check_size := fun_mk (st := st_check_size) l_check_size c_check_size k_check_size
  have b_check_size := F_check_size.binds (ps := [(PySem.Str.ofString "net")]) fun _ _ _ _ _ _ us hl => match us, hl with | [_], _ => rfl
  have F_lot_of := fun_mk (st := st_lot_of) l_lot_of c_lot_of k_lot_of
  have b_lot_of := F_lot_of.binds (ps := [(PySem.Str.ofString "bits"), (PySem.Str.ofString "size")]) fun _ _ _ _ _ _ us hl => match us, hl with | [_, _], _ => rfl
  have F_are_friends := fun_mk (st := st_are_friends) l_are_friends c_are_friends k_are_friends
  have b_are_friends := F_are_friends.binds (ps := [(PySem.Str.ofString "net"), (PySem.Str.ofString "lot")]) fun _ _ _ _ _ _ us hl => match us, hl with | [_, _], _ => rfl
  have F_least_place := fun_mk (st := st_least_place) l_least_place c_least_place k_least_place
  have b_least_place := F_least_place.binds (ps := [(PySem.Str.ofString "bits"), (PySem.Str.ofString "size")]) fun _ _ _ _ _ _ us hl => match us, hl with | [_, _], _ => rfl
  have F_friend_lots := fun_mk (st := st_friend_lots) l_friend_lots c_friend_lots k_friend_lots
  have b_friend_lots := F_friend_lots.binds (ps := [(PySem.Str.ofString "net")]) fun _ _ _ _ _ _ us hl => match us, hl with | [_], _ => rfl
  have F_law_kinds := fun_mk (st := st_law_kinds) l_law_kinds c_law_kinds k_law_kinds
  have b_law_kinds := F_law_kinds.binds (ps := [(PySem.Str.ofString "_law_e")]) fun _ _ _ _ _ _ us hl => match us, hl with | [_], _ => rfl
  have F_law_told := fun_mk (st := st_law_told) l_law_told c_law_told k_law_told
  have b_law_told := F_law_told.binds (ps := [(PySem.Str.ofString "_law_net_here")]) fun _ _ _ _ _ _ us hl => match us, hl with | [_], _ => rfl
  have F_law_fewest := fun_mk (st := st_law_fewest) l_law_fewest c_law_fewest k_law_fewest
  have b_law_fewest := F_law_fewest.binds (ps := [(PySem.Str.ofString "_law_fits")]) fun _ _ _ _ _ _ us hl => match us, hl with | [_], _ => rfl
  have F_is_below := fun_mk (st := st_is_below) l_is_below c_is_below k_is_below
  have b_is_below := F_is_below.binds (ps := [(PySem.Str.ofString "value"), (PySem.Str.ofString "many")]) fun _ _ _ _ _ _ us hl => match us, hl with | [_, _], _ => rfl
  have F_first_wrong_arc := fun_mk (st := st_first_wrong_arc) l_first_wrong_arc c_first_wrong_arc k_first_wrong_arc
  have b_first_wrong_arc := F_first_wrong_arc.binds (ps := [(PySem.Str.ofString "size"), (PySem.Str.ofString "arcs")]) fun _ _ _ _ _ _ us hl => match us, hl with | [_, _], _ => rfl
  have F_Net_init := fun_mk (st := st_Net_init) l_Net_init c_Net_init k_Net_init
  have b_Net_init := F_Net_init.binds (ps := [(PySem.Str.ofString "self"), (PySem.Str.ofString "size"), (PySem.Str.ofString "arcs")]) fun _ _ _ _ _ _ us hl => match us, hl with | [_, _, _], _ => rfl
  have F_law_same := fun_mk (st := st_law_same) l_law_same c_law_same k_law_same
  have b_law_same := F_law_same.binds (ps := [(PySem.Str.ofString "_law_actual"), (PySem.Str.ofString "_law_expected")]) fun _ _ _ _ _ _ us hl => match us, hl with | [_, _], _ => rfl
  have F_law_are_friends := fun_mk (st := st_law_are_friends) l_law_are_friends c_law_are_friends k_law_are_friends
  have b_law_are_friends := F_law_are_friends.binds (ps := [(PySem.Str.ofString "_law_knows_here"), (PySem.Str.ofString "_law_lot")]) fun _ _ _ _ _ _ us hl => match us, hl with | [_, _], _ => rfl
  have F_law_lots := fun_mk (st := st_law_lots) l_law_lots c_law_lots k_law_lots
  have b_law_lots := F_law_lots.binds (ps := [(PySem.Str.ofString "_law_size")]) fun _ _ _ _ _ _ us hl => match us, hl with | [_], _ => rfl
  have F_law := fun_mk (st := st_law) l_law c_law k_law
  have b_law := F_law.binds (ps := [(PySem.Str.ofString "_law_script")]) fun _ _ _ _ _ _ us hl => match us, hl with | [_], _ => rfl
  have oF_TooMany := fun_mk (st := st_xTooMany) xl_TooMany xc_TooMany xk_TooMany
  have ob_TooMany := oF_TooMany.binds (ps := [(PySem.Str.ofString "self"), (PySem.Str.ofString "what")]) fun _ _ _ _ _ _ us hl => match us, hl with | [_, _], _ => rfl
  have oF_InvalidNet := fun_mk (st := st_xInvalidNet) xl_InvalidNet xc_InvalidNet xk_InvalidNet
  have ob_InvalidNet := oF_InvalidNet.binds (ps := [(PySem.Str.ofString "self"), (PySem.Str.ofString "part"), (PySem.Str.ofString "place")]) fun _ _ _ _ _ _ us hl => match us, hl with | [_, _, _], _ => rfl
  have xC2_TooMany : ExcC K X_TooMany := ⟨eg_TooMany, ek_TooMany, xe_TooMany, eh_TooMany, ea_TooMany, en_TooMany, et_TooMany, em_TooMany⟩
  have xC3_TooMany : XfC K X_TooMany := ⟨eg_TooMany, ek_TooMany, xe_TooMany, eh_TooMany⟩
  have xC2_InvalidNet : ExcC K X_InvalidNet := ⟨eg_InvalidNet, ek_InvalidNet, xe_InvalidNet, eh_InvalidNet, ea_InvalidNet, en_InvalidNet, et_InvalidNet, em_InvalidNet⟩
  have xC3_InvalidNet : XfC K X_InvalidNet := ⟨eg_InvalidNet, ek_InvalidNet, xe_InvalidNet, eh_InvalidNet⟩
  have cl_Net : Cls K C_Net := ⟨pg_Net, hd_Net, po_Net, sa_Net⟩
  have me_Net : PySem.W.kitOne K (.ref C_Net) (.ref C_Net) = some true := by unfold PySem.W.kitOne; simp
  have ic_Net : C8.InsC K C_Net := ⟨cl_Net, ha_Net, hn_Net, ht_Net, hm_Net, me_Net⟩
  refine ⟨PySem.W.fnOf "law" "law" (defArgs st_law) (defBody st_law) (defScope st_law) .none kV_law dc_law pm_law an_law cd_law ct_law, fun s v => .of_eq rfl, fun base _ _ => ?_⟩
  let S : SE := ⟨l.prog, w, K, mg, base, [], fun c => if c = 0 then C_Net else 0, fldF, fun c => if c = 0 then X_TooMany else if c = 1 then X_InvalidNet else 0, fun c => if c = 0 then [(PySem.Str.ofString "what")] else if c = 1 then [(PySem.Str.ofString "part"), (PySem.Str.ofString "place")] else []⟩
  let T : Txt S := {
      f_law_numbers := f_law_numbers, fd_law_numbers := _, F_law_numbers := F_law_numbers, b_law_numbers := b_law_numbers, m_law_numbers := PySem.W.mg_of X G a_law_numbers,
      f_law_order := f_law_order, fd_law_order := _, F_law_order := F_law_order, b_law_order := b_law_order, m_law_order := PySem.W.mg_of X G a_law_order,
      f_law_ring_of_five := f_law_ring_of_five, fd_law_ring_of_five := _, F_law_ring_of_five := F_law_ring_of_five, b_law_ring_of_five := b_law_ring_of_five, m_law_ring_of_five := PySem.W.mg_of X G a_law_ring_of_five,
      f_law_net := f_law_net, fd_law_net := _, F_law_net := F_law_net, b_law_net := b_law_net, m_law_net := PySem.W.mg_of X G a_law_net,
      f_law_knows := f_law_knows, fd_law_knows := _, F_law_knows := F_law_knows, b_law_knows := b_law_knows, m_law_knows := PySem.W.mg_of X G a_law_knows,
      f_check_size := f_check_size, fd_check_size := _, F_check_size := F_check_size, b_check_size := b_check_size, m_check_size := PySem.W.mg_of X G a_check_size,
      f_lot_of := f_lot_of, fd_lot_of := _, F_lot_of := F_lot_of, b_lot_of := b_lot_of, m_lot_of := PySem.W.mg_of X G a_lot_of,
      f_are_friends := f_are_friends, fd_are_friends := _, F_are_friends := F_are_friends, b_are_friends := b_are_friends, m_are_friends := PySem.W.mg_of X G a_are_friends,
      f_least_place := f_least_place, fd_least_place := _, F_least_place := F_least_place, b_least_place := b_least_place, m_least_place := PySem.W.mg_of X G a_least_place,
      f_friend_lots := f_friend_lots, fd_friend_lots := _, F_friend_lots := F_friend_lots, b_friend_lots := b_friend_lots, m_friend_lots := PySem.W.mg_of X G a_friend_lots,
      f_law_kinds := f_law_kinds, fd_law_kinds := _, F_law_kinds := F_law_kinds, b_law_kinds := b_law_kinds, m_law_kinds := PySem.W.mg_of X G a_law_kinds,
      f_law_told := f_law_told, fd_law_told := _, F_law_told := F_law_told, b_law_told := b_law_told, m_law_told := PySem.W.mg_of X G a_law_told,
      f_law_fewest := f_law_fewest, fd_law_fewest := _, F_law_fewest := F_law_fewest, b_law_fewest := b_law_fewest, m_law_fewest := PySem.W.mg_of X G a_law_fewest,
      f_is_below := f_is_below, fd_is_below := _, F_is_below := F_is_below, b_is_below := b_is_below, m_is_below := PySem.W.mg_of X G a_is_below,
      f_first_wrong_arc := f_first_wrong_arc, fd_first_wrong_arc := _, F_first_wrong_arc := F_first_wrong_arc, b_first_wrong_arc := b_first_wrong_arc, m_first_wrong_arc := PySem.W.mg_of X G a_first_wrong_arc,
      f_Net_init := f_Net_init, fd_Net_init := _, F_Net_init := F_Net_init, b_Net_init := b_Net_init,
      f_law_same := f_law_same, fd_law_same := _, F_law_same := F_law_same, b_law_same := b_law_same, m_law_same := PySem.W.mg_of X G a_law_same,
      f_law_are_friends := f_law_are_friends, fd_law_are_friends := _, F_law_are_friends := F_law_are_friends, b_law_are_friends := b_law_are_friends, m_law_are_friends := PySem.W.mg_of X G a_law_are_friends,
      f_law_lots := f_law_lots, fd_law_lots := _, F_law_lots := F_law_lots, b_law_lots := b_law_lots, m_law_lots := PySem.W.mg_of X G a_law_lots,
      f_law := _, fd_law := _, F_law := F_law, b_law := b_law, m_law := PySem.W.mg_of X G a_law,
      n_ValueError := PySem.W.mg_none_of X G z_ValueError,
      n_abs := PySem.W.mg_none_of X G z_abs,
      n_all := PySem.W.mg_none_of X G z_all,
      n_bool := PySem.W.mg_none_of X G z_bool,
      n_enumerate := PySem.W.mg_none_of X G z_enumerate,
      n_int := PySem.W.mg_none_of X G z_int,
      n_isinstance := PySem.W.mg_none_of X G z_isinstance,
      n_len := PySem.W.mg_none_of X G z_len,
      n_list := PySem.W.mg_none_of X G z_list,
      n_min := PySem.W.mg_none_of X G z_min,
      n_range := PySem.W.mg_none_of X G z_range,
      n_repr := PySem.W.mg_none_of X G z_repr,
      n_sorted := PySem.W.mg_none_of X G z_sorted,
      n_str := PySem.W.mg_none_of X G z_str,
      n_tuple := PySem.W.mg_none_of X G z_tuple,
      c_MOST_PLACES_netbounds := ⟨_, PySem.W.mg_of X G g_MOST_PLACES_netbounds, ⟨_, rfl⟩⟩,
      c_MOST_PLACES_nets := ⟨_, PySem.W.mg_of X G g_MOST_PLACES_nets, ⟨_, rfl⟩⟩,
      m_Net := PySem.W.mg_of X G aC_Net, cl_Net := cl_Net,
      mk_Net := ⟨mk_Net, a_Net_init, i_Net_init, kq_Net⟩,
      kc_Net := fun c b h => (by
        unfold Lk33.kc_Net at h
        split at h
        · next e => cases e; cases h; exact ⟨ic_Net, me_Net⟩
        · cases h),
      fx_size := rfl, inj_size := injF_size,
      fc_size := fun c hc => (by
        rcases List.mem_cons.mp hc with rfl | hc
        · exact ⟨cl_Net, nf_Net_size⟩
        cases hc),
      f1_Net_size := fun c hc => (by
        rcases List.mem_cons.mp hc with rfl | hc
        · exact ⟨cl_Net, nf_Net_size⟩
        cases hc),
      fx_arcs := rfl, inj_arcs := injF_arcs,
      fc_arcs := fun c hc => (by
        rcases List.mem_cons.mp hc with rfl | hc
        · exact ⟨cl_Net, nf_Net_arcs⟩
        cases hc),
      f1_Net_arcs := fun c hc => (by
        rcases List.mem_cons.mp hc with rfl | hc
        · exact ⟨cl_Net, nf_Net_arcs⟩
        cases hc),
      fx_knows := rfl, inj_knows := injF_knows,
      fc_knows := fun c hc => (by
        rcases List.mem_cons.mp hc with rfl | hc
        · exact ⟨cl_Net, nf_Net_knows⟩
        cases hc),
      f1_Net_knows := fun c hc => (by
        rcases List.mem_cons.mp hc with rfl | hc
        · exact ⟨cl_Net, nf_Net_knows⟩
        cases hc),
      of_TooMany := of_TooMany, od_TooMany := _, ox_TooMany := ⟨xo_TooMany, xs_TooMany, xe_TooMany, xy_TooMany, xp_TooMany⟩, oi_TooMany := xa_TooMany, ot_TooMany := xt_TooMany, oF_TooMany := oF_TooMany, ob_TooMany := ob_TooMany, om_TooMany := PySem.W.mg_of X G xC_TooMany, oe_TooMany := rfl,
      on_TooMany := fun n hn => (by
        rcases List.mem_cons.mp hn with rfl | hn
        · exact xf_TooMany_what
        cases hn),
      of_InvalidNet := of_InvalidNet, od_InvalidNet := _, ox_InvalidNet := ⟨xo_InvalidNet, xs_InvalidNet, xe_InvalidNet, xy_InvalidNet, xp_InvalidNet⟩, oi_InvalidNet := xa_InvalidNet, ot_InvalidNet := xt_InvalidNet, oF_InvalidNet := oF_InvalidNet, ob_InvalidNet := ob_InvalidNet, om_InvalidNet := PySem.W.mg_of X G xC_InvalidNet, oe_InvalidNet := rfl,
      on_InvalidNet := fun n hn => (by
        rcases List.mem_cons.mp hn with rfl | hn
        · exact xf_InvalidNet_part
        rcases List.mem_cons.mp hn with rfl | hn
        · exact xf_InvalidNet_place
        cases hn),
      oa_SayError := Y_SayError, oy_SayError := PySem.W.mg_of X G yC_SayError,
      oa_TooMany := X_TooMany, oy_TooMany := PySem.W.mg_of X G xC_TooMany,
      oa_InvalidAudience := Y_InvalidAudience, oy_InvalidAudience := PySem.W.mg_of X G yC_InvalidAudience,
      oa_InvalidDeed := Y_InvalidDeed, oy_InvalidDeed := PySem.W.mg_of X G yC_InvalidDeed,
      oa_InvalidLine := Y_InvalidLine, oy_InvalidLine := PySem.W.mg_of X G yC_InvalidLine,
      oa_InvalidLosses := Y_InvalidLosses, oy_InvalidLosses := PySem.W.mg_of X G yC_InvalidLosses,
      oa_InvalidLot := Y_InvalidLot, oy_InvalidLot := PySem.W.mg_of X G yC_InvalidLot,
      oa_InvalidMatrix := Y_InvalidMatrix, oy_InvalidMatrix := PySem.W.mg_of X G yC_InvalidMatrix,
      oa_InvalidNet := X_InvalidNet, oy_InvalidNet := PySem.W.mg_of X G xC_InvalidNet,
      oa_InvalidNumber := Y_InvalidNumber, oy_InvalidNumber := PySem.W.mg_of X G yC_InvalidNumber,
      oa_InvalidSignals := Y_InvalidSignals, oy_InvalidSignals := PySem.W.mg_of X G yC_InvalidSignals,
      oa_InvalidText := Y_InvalidText, oy_InvalidText := PySem.W.mg_of X G yC_InvalidText,
      oa_InvalidWord := Y_InvalidWord, oy_InvalidWord := PySem.W.mg_of X G yC_InvalidWord,
      oa_InvalidWords := Y_InvalidWords, oy_InvalidWords := PySem.W.mg_of X G yC_InvalidWords,
      oa_NothingToUndo := Y_NothingToUndo, oy_NothingToUndo := PySem.W.mg_of X G yC_NothingToUndo,
      oa_Undefined := Y_Undefined, oy_Undefined := PySem.W.mg_of X G yC_Undefined,
      oa_UnknownWord := Y_UnknownWord, oy_UnknownWord := PySem.W.mg_of X G yC_UnknownWord,
      oh_SayError := (fun c hc => match c, hc with | 0, _ => PySem.W.exm_ref ys_SayError yd_SayError yt_SayError yb_TooMany_SayError | 1, _ => PySem.W.exm_ref ys_SayError yd_SayError yt_SayError yb_InvalidNet_SayError | _ + 2, h => absurd h (by omega)),
      oi1_TooMany := (fun c hc => match c, hc with | 0, _ => ⟨xC2_TooMany, yk_TooMany_TooMany⟩ | 1, _ => ⟨xC2_InvalidNet, yk_InvalidNet_TooMany⟩ | _ + 2, h => absurd h (by omega)),
      oj_0 := (fun c hc => match c, hc with | 0, _ => ⟨xC2_TooMany, yj_TooMany_0⟩ | 1, _ => ⟨xC2_InvalidNet, yj_InvalidNet_0⟩ | _ + 2, h => absurd h (by omega)),
      oj_1 := (fun c hc => match c, hc with | 0, _ => ⟨xC2_TooMany, yj_TooMany_1⟩ | 1, _ => ⟨xC2_InvalidNet, yj_InvalidNet_1⟩ | _ + 2, h => absurd h (by omega)),
      oj_2 := (fun c hc => match c, hc with | 0, _ => ⟨xC2_TooMany, yj_TooMany_2⟩ | 1, _ => ⟨xC2_InvalidNet, yj_InvalidNet_2⟩ | _ + 2, h => absurd h (by omega)),
      ob1_ValueError := (fun c hc => match c, hc with | 0, _ => ⟨xC2_TooMany, yv_TooMany_ValueError⟩ | 1, _ => ⟨xC2_InvalidNet, yv_InvalidNet_ValueError⟩ | _ + 2, h => absurd h (by omega)),
      xg_what := (fun c j hc hj => match c, hc, hj with | 0, _, e => (by cases e; exact ⟨rfl, xC3_TooMany, xf_TooMany_what⟩) | 1, _, e => (by cases e) | _ + 2, h, _ => absurd h (by omega)) }
  exact (ok_law T).imp (sp_law (G := S) rfl)
theorem walk {l : PySem.W.OpenLaw} {q : Program} {loose : List Str} {XP : (Str → Option Value) → Heap → Prop} {YP : World → Heap → Prop} {d : DefRec} {K : Params → PySem.W.Frag} (hn : l.most = some 63) (hdf : d.params.defaults = [])
    (hY : ∀ (w : World) (h : Heap), YP w h → (K w.params).In h)
    (F : ∀ (w : World) (mg : Str → Option Value) (fa : Addr) (h : Heap), (K w.params).In h → h.Ns mainGlobals mg → mg d.name = some (.ref fa) →
      ∃ fd : FuncData, (∀ (s : Shared) (u : Value), BindsTo s fd ⟨[u], []⟩ [((PySem.Str.ofString "_law_script"), u)]) ∧ ∀ base : Heap, (K w.params).In base → base.Ns mainGlobals mg → FnG l.prog w (K w.params) mg base (L2N.CX l.prog w) 8 fa fd [(PySem.Str.ofString "_law_script")] (spLaw (K w.params))) :
    PySem.W.WalkO q loose XP YP l.row.toRowW d [] (fun f vs => PySem.call f vs) :=
  KS.walk_ofG (n := 63) (k := 8) (x := (PySem.Str.ofString "_law_script")) (CX := fun w => L2N.CX l.prog w) (sp := fun w => spLaw (K w.params)) hn (by decide) hdf ⟨rfl, by decide, by decide⟩ hY F (fun _ _ a ns hl hb _ hS => ⟨a, ns, rfl, hS, hl, hb, fun _ => rfl⟩) fun _ _ _ _ _ h => by
    obtain ⟨_, _, _, _, _, _, _, _, _, _, _, _, z⟩ := h
    exact z.elim
end Lk33
open PySem PySem.W PyProof.Rows in
set_option maxRecDepth 100000 in
set_option maxHeartbeats 0 in
theorem PySem.Challenge.cw_keptandsaid_k33_lots_of_friends_holds : PySem.Challenge.rw_keptandsaid_k33_lots_of_friends.Holds := by
  w_on; o_law; k_head; (case hw => w_witness2)
  k_fill
  refine Lk33.walk (l := PySem.Challenge.rw_keptandsaid_k33_lots_of_friends) rfl rfl (fun w h Y => PySem.W.kIn_of Y) ?F
  case F =>
    intro w mg fa h KX G hmg
    refine' Lk33.all_mk KX G hmg ?aC_Net ?xC_TooMany ?xC_InvalidNet ?yC_SayError ?yC_InvalidAudience ?yC_InvalidDeed ?yC_InvalidLine ?yC_InvalidLosses ?yC_InvalidLot ?yC_InvalidMatrix ?yC_InvalidNumber ?yC_InvalidSignals ?yC_InvalidText ?yC_InvalidWord ?yC_InvalidWords ?yC_NothingToUndo ?yC_Undefined ?yC_UnknownWord ?a_law_numbers ?l_law_numbers ?c_law_numbers ?k_law_numbers ?a_law_order ?l_law_order ?c_law_order ?k_law_order ?a_law_ring_of_five ?l_law_ring_of_five ?c_law_ring_of_five ?k_law_ring_of_five ?a_law_net ?l_law_net ?c_law_net ?k_law_net ?a_law_knows ?l_law_knows ?c_law_knows ?k_law_knows ?a_check_size ?l_check_size ?c_check_size ?k_check_size ?a_lot_of ?l_lot_of ?c_lot_of ?k_lot_of ?a_are_friends ?l_are_friends ?c_are_friends ?k_are_friends ?a_least_place ?l_least_place ?c_least_place ?k_least_place ?a_friend_lots ?l_friend_lots ?c_friend_lots ?k_friend_lots ?a_law_kinds ?l_law_kinds ?c_law_kinds ?k_law_kinds ?a_law_told ?l_law_told ?c_law_told ?k_law_told ?a_law_fewest ?l_law_fewest ?c_law_fewest ?k_law_fewest ?a_is_below ?l_is_below ?c_is_below ?k_is_below ?a_first_wrong_arc ?l_first_wrong_arc ?c_first_wrong_arc ?k_first_wrong_arc ?a_Net_init ?i_Net_init ?l_Net_init ?c_Net_init ?k_Net_init ?a_law_same ?l_law_same ?c_law_same ?k_law_same ?a_law_are_friends ?l_law_are_friends ?c_law_are_friends ?k_law_are_friends ?a_law_lots ?l_law_lots ?c_law_lots ?k_law_lots ?a_law ?l_law ?c_law ?k_law ?pg_Net ?hd_Net ?po_Net ?sa_Net ?mk_Net ?kq_Net ?ha_Net ?hn_Net ?ht_Net ?hm_Net ?nf_Net_size ?nf_Net_arcs ?nf_Net_knows ?xa_TooMany ?xt_TooMany ?xl_TooMany ?xc_TooMany ?xk_TooMany ?xs_TooMany ?xe_TooMany ?xy_TooMany ?xp_TooMany ?xo_TooMany ?xf_TooMany_what ?eg_TooMany ?ek_TooMany ?eh_TooMany ?ea_TooMany ?en_TooMany ?et_TooMany ?em_TooMany ?xa_InvalidNet ?xt_InvalidNet ?xl_InvalidNet ?xc_InvalidNet ?xk_InvalidNet ?xs_InvalidNet ?xe_InvalidNet ?xy_InvalidNet ?xp_InvalidNet ?xo_InvalidNet ?xf_InvalidNet_part ?xf_InvalidNet_place ?eg_InvalidNet ?ek_InvalidNet ?eh_InvalidNet ?ea_InvalidNet ?en_InvalidNet ?et_InvalidNet ?em_InvalidNet ?ys_SayError ?yd_SayError ?yt_SayError ?yb_TooMany_SayError ?yb_InvalidNet_SayError ?yk_TooMany_TooMany ?yk_InvalidNet_TooMany ?yj_TooMany_0 ?yj_InvalidNet_0 ?yj_TooMany_1 ?yj_InvalidNet_1 ?yj_TooMany_2 ?yj_InvalidNet_2 ?yv_TooMany_ValueError ?yv_InvalidNet_ValueError ?z_ValueError ?z_abs ?z_all ?z_bool ?z_enumerate ?z_int ?z_isinstance ?z_len ?z_list ?z_min ?z_range ?z_repr ?z_sorted ?z_str ?z_tuple ?g_MOST_PLACES_netbounds ?g_MOST_PLACES_nets
    (case aC_Net => k_is)
    (case xC_TooMany => k_is)
    (case xC_InvalidNet => k_is)
    (case yC_SayError => k_is)
    (case yC_InvalidAudience => k_is)
    (case yC_InvalidDeed => k_is)
    (case yC_InvalidLine => k_is)
    (case yC_InvalidLosses => k_is)
    (case yC_InvalidLot => k_is)
    (case yC_InvalidMatrix => k_is)
    (case yC_InvalidNumber => k_is)
    (case yC_InvalidSignals => k_is)
    (case yC_InvalidText => k_is)
    (case yC_InvalidWord => k_is)
    (case yC_InvalidWords => k_is)
    (case yC_NothingToUndo => k_is)
    (case yC_Undefined => k_is)
    (case yC_UnknownWord => k_is)
    (case a_law_numbers => k_is)
    (case l_law_numbers => k_is)
    (case c_law_numbers => k_is)
    (case k_law_numbers => k_is)
    (case a_law_order => k_is)
    (case l_law_order => k_is)
    (case c_law_order => k_is)
    (case k_law_order => k_is)
    (case a_law_ring_of_five => k_is)
    (case l_law_ring_of_five => k_is)
    (case c_law_ring_of_five => k_is)
    (case k_law_ring_of_five => k_is)
    (case a_law_net => k_is)
    (case l_law_net => k_is)
    (case c_law_net => k_is)
    (case k_law_net => k_is)
    (case a_law_knows => k_is)
    (case l_law_knows => k_is)
    (case c_law_knows => k_is)
    (case k_law_knows => k_is)
    (case a_check_size => k_is)
    (case l_check_size => k_is)
    (case c_check_size => k_is)
    (case k_check_size => k_is)
    (case a_lot_of => k_is)
    (case l_lot_of => k_is)
    (case c_lot_of => k_is)
    (case k_lot_of => k_is)
    (case a_are_friends => k_is)
    (case l_are_friends => k_is)
    (case c_are_friends => k_is)
    (case k_are_friends => k_is)
    (case a_least_place => k_is)
    (case l_least_place => k_is)
    (case c_least_place => k_is)
    (case k_least_place => k_is)
    (case a_friend_lots => k_is)
    (case l_friend_lots => k_is)
    (case c_friend_lots => k_is)
    (case k_friend_lots => k_is)
    (case a_law_kinds => k_is)
    (case l_law_kinds => k_is)
    (case c_law_kinds => k_is)
    (case k_law_kinds => k_is)
    (case a_law_told => k_is)
    (case l_law_told => k_is)
    (case c_law_told => k_is)
    (case k_law_told => k_is)
    (case a_law_fewest => k_is)
    (case l_law_fewest => k_is)
    (case c_law_fewest => k_is)
    (case k_law_fewest => k_is)
    (case a_is_below => k_is)
    (case l_is_below => k_is)
    (case c_is_below => k_is)
    (case k_is_below => k_is)
    (case a_first_wrong_arc => k_is)
    (case l_first_wrong_arc => k_is)
    (case c_first_wrong_arc => k_is)
    (case k_first_wrong_arc => k_is)
    (case a_Net_init => k_is)
    (case i_Net_init => k_is)
    (case l_Net_init => k_is)
    (case c_Net_init => k_is)
    (case k_Net_init => k_is)
    (case a_law_same => k_is)
    (case l_law_same => k_is)
    (case c_law_same => k_is)
    (case k_law_same => k_is)
    (case a_law_are_friends => k_is)
    (case l_law_are_friends => k_is)
    (case c_law_are_friends => k_is)
    (case k_law_are_friends => k_is)
    (case a_law_lots => k_is)
    (case l_law_lots => k_is)
    (case c_law_lots => k_is)
    (case k_law_lots => k_is)
    (case a_law => k_is)
    (case l_law => k_is)
    (case c_law => k_is)
    (case k_law => k_is)
    (case pg_Net => k_is)
    (case hd_Net => k_is)
    (case po_Net => k_is)
    (case sa_Net => k_is)
    (case mk_Net => k_is)
    (case kq_Net => k_is)
    (case ha_Net => k_is)
    (case hn_Net => k_is)
    (case ht_Net => k_is)
    (case hm_Net => k_is)
    (case nf_Net_size => k_is)
    (case nf_Net_arcs => k_is)
    (case nf_Net_knows => k_is)
    (case xa_TooMany => k_is)
    (case xt_TooMany => k_is)
    (case xl_TooMany => k_is)
    (case xc_TooMany => k_is)
    (case xk_TooMany => k_is)
    (case xs_TooMany => k_is)
    (case xe_TooMany => k_is)
    (case xy_TooMany => k_is)
    (case xp_TooMany => k_is)
    (case xo_TooMany => exact ⟨_, _, _, _, [.ref _, .type "ValueError", .type "Exception", .type "BaseException", .type "object"], _, _, _, _, _, _, _, _, _, _, (by k_is), (by decide +kernel)⟩)
    (case xf_TooMany_what => k_is)
    (case eg_TooMany => k_is)
    (case ek_TooMany => k_is)
    (case eh_TooMany => k_is)
    (case ea_TooMany => k_is)
    (case en_TooMany => k_is)
    (case et_TooMany => k_is)
    (case em_TooMany => k_is)
    (case xa_InvalidNet => k_is)
    (case xt_InvalidNet => k_is)
    (case xl_InvalidNet => k_is)
    (case xc_InvalidNet => k_is)
    (case xk_InvalidNet => k_is)
    (case xs_InvalidNet => k_is)
    (case xe_InvalidNet => k_is)
    (case xy_InvalidNet => k_is)
    (case xp_InvalidNet => k_is)
    (case xo_InvalidNet => exact ⟨_, _, _, _, [.ref _, .type "ValueError", .type "Exception", .type "BaseException", .type "object"], _, _, _, _, _, _, _, _, _, _, (by k_is), (by decide +kernel)⟩)
    (case xf_InvalidNet_part => k_is)
    (case xf_InvalidNet_place => k_is)
    (case eg_InvalidNet => k_is)
    (case ek_InvalidNet => k_is)
    (case eh_InvalidNet => k_is)
    (case ea_InvalidNet => k_is)
    (case en_InvalidNet => k_is)
    (case et_InvalidNet => k_is)
    (case em_InvalidNet => k_is)
    (case ys_SayError => k_is)
    (case yd_SayError => k_is)
    (case yt_SayError => k_is)
    (case yb_TooMany_SayError => k_is)
    (case yb_InvalidNet_SayError => k_is)
    (case yk_TooMany_TooMany => kit_is)
    (case yk_InvalidNet_TooMany => kit_is)
    (case yj_TooMany_0 => kit_is)
    (case yj_InvalidNet_0 => kit_is)
    (case yj_TooMany_1 => kit_is)
    (case yj_InvalidNet_1 => kit_is)
    (case yj_TooMany_2 => kit_is)
    (case yj_InvalidNet_2 => kit_is)
    (case yv_TooMany_ValueError => kit_is)
    (case yv_InvalidNet_ValueError => kit_is)
    (case z_ValueError => k_is)
    (case z_abs => k_is)
    (case z_all => k_is)
    (case z_bool => k_is)
    (case z_enumerate => k_is)
    (case z_int => k_is)
    (case z_isinstance => k_is)
    (case z_len => k_is)
    (case z_list => k_is)
    (case z_min => k_is)
    (case z_range => k_is)
    (case z_repr => k_is)
    (case z_sorted => k_is)
    (case z_str => k_is)
    (case z_tuple => k_is)
    (case g_MOST_PLACES_netbounds => k_is)
    (case g_MOST_PLACES_nets => k_is)
