import PyProof.Rows.All
import Wide.All
import OpenK.AllK
import Wide.FinOn
import HandS.ForMost
import HandS.ForExc
import HandS.Lambda
import HandS.Walk
import HandS.IsInst
import HandS.ExcField
import HandS.ExcInit
import HandS.StrMore
import HandS.Defaults
import HandS.Zip
import HandS.Flow
import HandS.TupAny
import HandS.TupLe
import KE.KExcSuper
import HandS.Head0
import HandS.Head1
import HandS.Head2
import HandS.HeadHook1
import HandS.HeadHook2
import HandS.HeadHook3
import HandS.HeadHook4
import HandS.HeadWalk
import HandS.EndTab
import PySem.Challenge.RW_ringthrough_k41_whole_companding
set_option Elab.async false
set_option linter.all false
set_option maxRecDepth 100000
set_option maxHeartbeats 1000000
/-! The data layer, 1: values with their contents, mutable objects apart; readings over them. -/
namespace DL
open PySem PySem.Spec PyProof.Rows L2
/-- a value with what is in it; ref a: the mutable object at a -/
inductive D where
  | non | bl (b : Bool) | int (i : Int) | str (s : Str) | tup (xs : List D) | lst (xs : List D) | ref (a : Addr) | ty (n : String)
  deriving Inhabited
/-- a mutable object's content -/
inductive DO where
  | lst (xs : List D) | dK (kvs : List (Key × D)) | ins (C : Addr) (fs : List (Str × D))
/-- the mutable objects -/
abbrev TD := Addr → Option DO
def tset (τ : TD) (a : Addr) (o : DO) : TD := fun b => if b = a then some o else τ b
def tdel (τ : TD) (a : Addr) : TD := fun b => if b = a then none else τ b
theorem tset_same {τ : TD} {a : Addr} {o : DO} : tset τ a o a = some o := if_pos rfl
theorem tset_ne {τ : TD} {a b : Addr} {o : DO} (h : b ≠ a) : tset τ a o b = τ b := if_neg h
theorem tdel_same {τ : TD} {a : Addr} : tdel τ a a = none := if_pos rfl
theorem tdel_ne {τ : TD} {a b : Addr} (h : b ≠ a) : tdel τ a b = τ b := if_neg h
def H0 : Hp := fun _ => none
/-- a tuple | a list that stands still at a -/
def TupAt (K : PySem.W.Frag) (τ : TD) (H : Hp) (a : Addr) (xs : List V) : Prop := (Rd H a (.tup xs) ∧ τ a = none) ∨ SqT K H0 a xs
def LstAt (K : PySem.W.Frag) (τ : TD) (H : Hp) (a : Addr) (xs : List V) : Prop := (Rd H a (.lst xs) ∧ τ a = none) ∨ SqL K H0 a xs
mutual
def DR (K : PySem.W.Frag) (τ : TD) (H : Hp) : D → V → Prop
  | .non, v => v = .non
  | .bl b, v => v = .bl b
  | .int i, v => v = .int i
  | .str s, v => v = .str s
  | .ref a, v => v = .ref a
  | .ty n, v => v = .ty n
  | .tup ds, v => ∃ a xs, v = .ref a ∧ TupAt K τ H a xs ∧ DRs K τ H ds xs
  | .lst ds, v => ∃ a xs, v = .ref a ∧ LstAt K τ H a xs ∧ DRs K τ H ds xs
def DRs (K : PySem.W.Frag) (τ : TD) (H : Hp) : List D → List V → Prop
  | [], vs => vs = []
  | d :: ds, vs => ∃ v r, vs = v :: r ∧ DR K τ H d v ∧ DRs K τ H ds r
end
/-- what was tracked and is not mutable stands -/
structure Ext (τ : TD) (H : Hp) (τ' : TD) (H' : Hp) : Prop where
  keep : ∀ a o, H a = some o → τ a = none → (∀ ps, o ≠ .tbl ps) → H' a = some o
  out : ∀ a o, H a = some o → τ a = none → (∀ ps, o ≠ .tbl ps) → τ' a = none
theorem Ext.refl (τ : TD) (H : Hp) : Ext τ H τ H := ⟨fun _ _ h _ _ => h, fun _ _ _ h _ => h⟩
theorem Ext.trans {τ τ1 τ2 : TD} {H H1 H2 : Hp} (a : Ext τ H τ1 H1) (b : Ext τ1 H1 τ2 H2) : Ext τ H τ2 H2 :=
  ⟨fun x o h t n => b.keep x o (a.keep x o h t n) (a.out x o h t n) n, fun x o h t n => b.out x o (a.keep x o h t n) (a.out x o h t n) n⟩
theorem Ext.rd {τ τ' : TD} {H H' : Hp} (e : Ext τ H τ' H') {a : Addr} {u : HO} (h : Rd H a u) (t : τ a = none) (n : ∀ ps, u ≠ .tbl ps) : Rd H' a u ∧ τ' a = none := by
  rcases h with h | ⟨o, h⟩
  · exact ⟨.inl (e.keep a _ h t n), e.out a _ h t n⟩
  · exact ⟨.inr ⟨o, e.keep a _ h t (fun ps z => by cases z)⟩, e.out a _ h t (fun ps z => by cases z)⟩
theorem TupAt.ext {K : PySem.W.Frag} {τ τ' : TD} {H H' : Hp} {a : Addr} {xs : List V} (h : TupAt K τ H a xs) (e : Ext τ H τ' H') : TupAt K τ' H' a xs := by
  rcases h with ⟨h, t⟩ | h
  · exact .inl (e.rd h t (fun ps z => by cases z))
  · exact .inr h
theorem LstAt.ext {K : PySem.W.Frag} {τ τ' : TD} {H H' : Hp} {a : Addr} {xs : List V} (h : LstAt K τ H a xs) (e : Ext τ H τ' H') : LstAt K τ' H' a xs := by
  rcases h with ⟨h, t⟩ | h
  · exact .inl (e.rd h t (fun ps z => by cases z))
  · exact .inr h
theorem sqT0 {K : PySem.W.Frag} {H : Hp} {a : Addr} {xs : List V} (h : SqT K H0 a xs) : SqT K H a xs := by
  rcases h with h | h
  · rcases h with h | ⟨o, h⟩ <;> cases h
  · exact .inr h
theorem sqL0 {K : PySem.W.Frag} {H : Hp} {a : Addr} {xs : List V} (h : SqL K H0 a xs) : SqL K H a xs := by
  rcases h with h | h
  · rcases h with h | ⟨o, h⟩ <;> cases h
  · exact .inr h
theorem TupAt.sq {K : PySem.W.Frag} {τ : TD} {H : Hp} {a : Addr} {xs : List V} (h : TupAt K τ H a xs) : SqT K H a xs := by
  rcases h with ⟨h, t⟩ | h
  · exact .inl h
  · exact sqT0 h
theorem LstAt.sq {K : PySem.W.Frag} {τ : TD} {H : Hp} {a : Addr} {xs : List V} (h : LstAt K τ H a xs) : SqL K H a xs := by
  rcases h with ⟨h, t⟩ | h
  · exact .inl h
  · exact sqL0 h
section
variable {K : PySem.W.Frag} {τ τ' : TD} {H H' : Hp}
mutual
/-- carried along any change that carries what stands still -/
theorem DR.map (hT : ∀ a xs, TupAt K τ H a xs → TupAt K τ' H' a xs) (hL : ∀ a xs, LstAt K τ H a xs → LstAt K τ' H' a xs) : ∀ (d : D) (v : V), DR K τ H d v → DR K τ' H' d v
  | .non, v, h => h
  | .bl b, v, h => h
  | .int i, v, h => h
  | .str s, v, h => h
  | .ref a, v, h => h
  | .ty n, v, h => h
  | .tup ds, v, h => by
    obtain ⟨a, xs, e, t, r⟩ := h
    exact ⟨a, xs, e, hT _ _ t, DRs.map hT hL ds xs r⟩
  | .lst ds, v, h => by
    obtain ⟨a, xs, e, t, r⟩ := h
    exact ⟨a, xs, e, hL _ _ t, DRs.map hT hL ds xs r⟩
theorem DRs.map (hT : ∀ a xs, TupAt K τ H a xs → TupAt K τ' H' a xs) (hL : ∀ a xs, LstAt K τ H a xs → LstAt K τ' H' a xs) : ∀ (ds : List D) (vs : List V), DRs K τ H ds vs → DRs K τ' H' ds vs
  | [], vs, h => h
  | d :: ds, vs, h => by
    obtain ⟨v, r, e, h1, h2⟩ := h
    exact ⟨v, r, e, DR.map hT hL d v h1, DRs.map hT hL ds r h2⟩
end
theorem DR.ext {d : D} {v : V} (h : DR K τ H d v) (e : Ext τ H τ' H') : DR K τ' H' d v := DR.map (fun _ _ h => h.ext e) (fun _ _ h => h.ext e) d v h
theorem DRs.ext {ds : List D} {vs : List V} (h : DRs K τ H ds vs) (e : Ext τ H τ' H') : DRs K τ' H' ds vs := DRs.map (fun _ _ h => h.ext e) (fun _ _ h => h.ext e) ds vs h
/-- fewer mutable objects -/
theorem DR.sub {d : D} {v : V} (h : DR K τ H d v) (s : ∀ a, τ a = none → τ' a = none) : DR K τ' H d v :=
  DR.map (fun _ _ h => h.imp (fun z => ⟨z.1, s _ z.2⟩) id) (fun _ _ h => h.imp (fun z => ⟨z.1, s _ z.2⟩) id) d v h
theorem DRs.sub {ds : List D} {vs : List V} (h : DRs K τ H ds vs) (s : ∀ a, τ a = none → τ' a = none) : DRs K τ' H ds vs :=
  DRs.map (fun _ _ h => h.imp (fun z => ⟨z.1, s _ z.2⟩) id) (fun _ _ h => h.imp (fun z => ⟨z.1, s _ z.2⟩) id) ds vs h
theorem DRs.length : ∀ {ds : List D} {vs : List V}, DRs K τ H ds vs → vs.length = ds.length
  | [], vs, h => by
    have h : vs = [] := h
    subst h; rfl
  | d :: ds, vs, h => by
    obtain ⟨v, r, e, _, h2⟩ := h
    subst e
    simp [DRs.length h2]
theorem DRs.get : ∀ {ds : List D} {vs : List V} {i : Nat} {d : D}, DRs K τ H ds vs → ds[i]? = some d → ∃ v, vs[i]? = some v ∧ DR K τ H d v
  | [], vs, i, d, h, e => by simp at e
  | x :: ds, vs, 0, d, h, e => by
    obtain ⟨v, r, e1, h1, h2⟩ := h
    simp at e
    subst e e1
    exact ⟨v, rfl, h1⟩
  | x :: ds, vs, i + 1, d, h, e => by
    obtain ⟨v, r, e1, h1, h2⟩ := h
    subst e1
    obtain ⟨u, h3, h4⟩ := DRs.get (i := i) (d := d) h2 (by simpa using e)
    exact ⟨u, by simpa using h3, h4⟩
theorem DRs.getV {ds : List D} {vs : List V} {i : Nat} {v : V} (h : DRs K τ H ds vs) (e : vs[i]? = some v) : ∃ d, ds[i]? = some d ∧ DR K τ H d v := by
  have hl := h.length
  have hi : i < ds.length := by
    have := (List.getElem?_eq_some_iff.mp e).1
    omega
  obtain ⟨u, h1, h2⟩ := h.get (i := i) (d := ds[i]) (by simp [hi])
  rw [e] at h1
  cases h1
  exact ⟨ds[i], by simp [hi], h2⟩
theorem DRs.append : ∀ {ds es : List D} {vs ws : List V}, DRs K τ H ds vs → DRs K τ H es ws → DRs K τ H (ds ++ es) (vs ++ ws)
  | [], es, vs, ws, h, h' => by
    have h : vs = [] := h
    subst h
    exact h'
  | d :: ds, es, vs, ws, h, h' => by
    obtain ⟨v, r, e, h1, h2⟩ := h
    subst e
    exact ⟨v, r ++ ws, rfl, h1, DRs.append h2 h'⟩
theorem DRs.one {d : D} {v : V} (h : DR K τ H d v) : DRs K τ H [d] [v] := ⟨v, [], rfl, h, rfl⟩
theorem DRs.take : ∀ {ds : List D} {vs : List V} (n : Nat), DRs K τ H ds vs → DRs K τ H (ds.take n) (vs.take n)
  | [], vs, n, h => by
    have h : vs = [] := h
    subst h
    simp only [List.take_nil]
    rfl
  | d :: ds, vs, 0, h => rfl
  | d :: ds, vs, n + 1, h => by
    obtain ⟨v, r, e, h1, h2⟩ := h
    subst e
    exact ⟨v, r.take n, rfl, h1, DRs.take n h2⟩
theorem DRs.drop : ∀ {ds : List D} {vs : List V} (n : Nat), DRs K τ H ds vs → DRs K τ H (ds.drop n) (vs.drop n)
  | [], vs, n, h => by
    have h : vs = [] := h
    subst h
    simp only [List.drop_nil]
    rfl
  | d :: ds, vs, 0, h => h
  | d :: ds, vs, n + 1, h => by
    obtain ⟨v, r, e, h1, h2⟩ := h
    subst e
    exact DRs.drop n h2
theorem DRs.set : ∀ {ds : List D} {vs : List V} (n : Nat) {d : D} {v : V}, DRs K τ H ds vs → DR K τ H d v → DRs K τ H (ds.set n d) (vs.set n v)
  | [], vs, n, d, v, h, _ => by
    have h : vs = [] := h
    subst h
    rfl
  | d :: ds, vs, 0, d', v', h, hd => by
    obtain ⟨v, r, e, h1, h2⟩ := h
    subst e
    exact ⟨v', r, rfl, hd, h2⟩
  | d :: ds, vs, n + 1, d', v', h, hd => by
    obtain ⟨v, r, e, h1, h2⟩ := h
    subst e
    exact ⟨v, r.set n v', rfl, h1, DRs.set n h2 hd⟩
end
/-- what a mutable object is in the heap -/
def DOk (K : PySem.W.Frag) (τ : TD) (H : Hp) (a : Addr) : DO → Prop
  | .lst ds => ∃ vs, H a = some (.lst vs) ∧ DRs K τ H ds vs
  | .dK kvs => ∃ kv, H a = some (.dK kv) ∧ Paired (fun (p : Key × D) (q : Key × V) => p.1 = q.1 ∧ DR K τ H p.2 q.2) kvs kv
  | .ins C fs => ∃ dx fv, H a = some (.ins C dx fv) ∧ Paired (fun (p : Str × D) (q : Str × V) => p.1 = q.1 ∧ DR K τ H p.2 q.2) fs fv
theorem dok_get {K : PySem.W.Frag} {τ : TD} {H : Hp} {a : Addr} {o : DO} (h : DOk K τ H a o) : ∃ u, H a = some u ∧ (∀ ps, u ≠ .tbl ps) ∧ (∀ x, u ≠ .own x) := by
  cases o with
  | lst ds => obtain ⟨vs, e, _⟩ := h; exact ⟨_, e, (fun ps z => by cases z), (fun ps z => by cases z)⟩
  | dK ds => obtain ⟨vs, e, _⟩ := h; exact ⟨_, e, (fun ps z => by cases z), (fun ps z => by cases z)⟩
  | ins C ds => obtain ⟨dx, vs, e, _⟩ := h; exact ⟨_, e, (fun ps z => by cases z), (fun ps z => by cases z)⟩
theorem paired_map {α β : Type} {F G : α → β → Prop} : ∀ {l₁ : List α} {l₂ : List β}, Paired F l₁ l₂ → (∀ a b, F a b → G a b) → Paired G l₁ l₂
  | _, _, .nil, _ => .nil
  | _, _, .cons r t, f => .cons (f _ _ r) (paired_map t f)
/-- a mutable object whose own place is as it was -/
theorem dok_map {K : PySem.W.Frag} {τ τ' : TD} {H H' : Hp} {a : Addr} {o : DO} (h : DOk K τ H a o) (e : ∀ u, H a = some u → H' a = some u) (m : ∀ d v, DR K τ H d v → DR K τ' H' d v) (ms : ∀ d v, DRs K τ H d v → DRs K τ' H' d v) : DOk K τ' H' a o := by
  cases o with
  | lst ds => obtain ⟨vs, q, r⟩ := h; exact ⟨vs, e _ q, ms _ _ r⟩
  | dK ds => obtain ⟨vs, q, r⟩ := h; exact ⟨vs, e _ q, paired_map r fun _ _ z => ⟨z.1, m _ _ z.2⟩⟩
  | ins C ds => obtain ⟨dx, vs, q, r⟩ := h; exact ⟨dx, vs, e _ q, paired_map r fun _ _ z => ⟨z.1, m _ _ z.2⟩⟩
/-- the heap is so: the mutable objects, the tables of code objects -/
structure J (K : PySem.W.Frag) (T : List (Addr × Str)) (τ : TD) (H : Hp) : Prop where
  obj : ∀ a o, τ a = some o → DOk K τ H a o
  tabs : LamX.Tabs T H
section
variable {K : PySem.W.Frag} {T : List (Addr × Str)} {τ τ' : TD} {H H' : Hp}
/-- new is not mutable yet -/
theorem J.free (j : J K T τ H) {p : Addr} (h : H p = none) : τ p = none := by
  cases e : τ p with
  | none => rfl
  | some o =>
    obtain ⟨u, q, _⟩ := dok_get (j.obj p o e)
    rw [h] at q; cases q
/-- something new beside -/
theorem Ext.new {p : Addr} {o : HO} (h : H p = none) : Ext τ H τ (upd H p o) :=
  ⟨fun a u e _ _ => by rw [upd_ne (ne_of_none e h)]; exact e, fun _ _ _ t _ => t⟩
theorem J.new (j : J K T τ H) {p : Addr} {o : HO} (h : H p = none) : J K T τ (upd H p o) :=
  ⟨fun a u e => dok_map (j.obj a u e) (fun w q => by rw [upd_ne (ne_of_none q h)]; exact q) (fun _ _ z => z.ext (.new h)) (fun _ _ z => z.ext (.new h)),
    j.tabs.ext fun b o q => by rw [upd_ne (ne_of_none q h)]; exact q⟩
/-- a new mutable object -/
theorem Ext.newM {p : Addr} {o : HO} {u : DO} (h : H p = none) : Ext τ H (tset τ p u) (upd H p o) :=
  ⟨fun a w e _ _ => by rw [upd_ne (ne_of_none e h)]; exact e, fun a w e t _ => by rw [tset_ne (ne_of_none e h)]; exact t⟩
theorem J.newM (j : J K T τ H) {p : Addr} {o : HO} {u : DO} (h : H p = none) (hu : DOk K (tset τ p u) (upd H p o) p u) : J K T (tset τ p u) (upd H p o) := by
  refine ⟨fun a w e => ?_, j.tabs.ext fun b o q => by rw [upd_ne (ne_of_none q h)]; exact q⟩
  by_cases ha : a = p
  · subst ha
    rw [tset_same] at e
    cases e
    exact hu
  · rw [tset_ne ha] at e
    exact dok_map (j.obj a w e) (fun w q => by rw [upd_ne (ne_of_none q h)]; exact q) (fun _ _ z => z.ext (.newM h)) (fun _ _ z => z.ext (.newM h))
/-- a mutable object changes -/
theorem Ext.chg {p : Addr} {o : HO} {u u0 : DO} (h : τ p = some u0) : Ext τ H (tset τ p u) (upd H p o) := by
  refine ⟨fun a w e t _ => ?_, fun a w e t _ => ?_⟩
  · have : a ≠ p := fun z => by rw [z, h] at t; cases t
    rw [upd_ne this]; exact e
  · have : a ≠ p := fun z => by rw [z, h] at t; cases t
    rw [tset_ne this]; exact t
theorem J.chg (j : J K T τ H) {p : Addr} {o : HO} {u u0 : DO} (h : τ p = some u0) (hu : DOk K (tset τ p u) (upd H p o) p u) : J K T (tset τ p u) (upd H p o) := by
  refine ⟨fun a w e => ?_, fun q hq => ?_⟩
  · by_cases ha : a = p
    · subst ha
      rw [tset_same] at e
      cases e
      exact hu
    · rw [tset_ne ha] at e
      exact dok_map (j.obj a w e) (fun w q => by rw [upd_ne ha]; exact q) (fun _ _ z => z.ext (.chg h)) (fun _ _ z => z.ext (.chg h))
  · obtain ⟨w, hw, nt, _⟩ := dok_get (j.obj p u0 h)
    obtain ⟨ps, h1, h2, h3⟩ := j.tabs q hq
    have ne : q.1 ≠ p := fun z => by rw [z, hw] at h1; exact nt ps (Option.some.inj h1)
    refine ⟨ps, by rw [upd_ne ne]; exact h1, h2, fun pos cv hcv => ?_⟩
    obtain ⟨c, e1, e2⟩ := h3 pos cv hcv
    refine ⟨c, e1, ?_⟩
    have ne2 : c ≠ p := fun z => by
      rw [z, hw] at e2
      have e3 := Option.some.inj e2
      subst e3
      have d := j.obj p u0 h
      cases u0 with
      | lst ds => obtain ⟨vs, z, _⟩ := d; rw [hw] at z; cases z
      | dK ds => obtain ⟨vs, z, _⟩ := d; rw [hw] at z; cases z
      | ins C ds => obtain ⟨dx, vs, z, _⟩ := d; rw [hw] at z; cases z
    rw [upd_ne ne2]; exact e2
/-- fewer mutable objects -/
def Sub (τ' τ : TD) : Prop := ∀ a o, τ' a = some o → τ a = some o
theorem Sub.none {τ' τ : TD} (s : Sub τ' τ) {a : Addr} (h : τ a = none) : τ' a = none := by
  cases e : τ' a with
  | none => rfl
  | some o => rw [s a o e] at h; cases h
theorem Sub.refl (τ : TD) : Sub τ τ := fun _ _ h => h
theorem J.sub (j : J K T τ H) (s : Sub τ' τ) : J K T τ' H :=
  ⟨fun a o e => dok_map (j.obj a o (s a o e)) (fun _ q => q) (fun _ _ z => z.sub fun _ => s.none) (fun _ _ z => z.sub fun _ => s.none), j.tabs⟩
theorem Ext.sub {τ0 : TD} {H0 : Hp} (e : Ext τ0 H0 τ H) (s : Sub τ' τ) : Ext τ0 H0 τ' H := ⟨e.keep, fun a o h t n => s.none (e.out a o h t n)⟩
end
/-! ### slots -/
abbrev Sl := List (Option D)
structure SR (K : PySem.W.Frag) (τ : TD) (H : Hp) (ds : Sl) (σ : L2.St) : Prop where
  len : ds.length = σ.length
  at_ : ∀ (i : Nat) (d : D), ds[i]? = some (some d) → ∃ v, σ[i]? = some (some v) ∧ DR K τ H d v
section
variable {K : PySem.W.Frag} {τ τ' : TD} {H H' : Hp} {ds : Sl} {σ : L2.St}
theorem SR.ext (h : SR K τ H ds σ) (e : Ext τ H τ' H') : SR K τ' H' ds σ := ⟨h.len, fun i d z => by
  obtain ⟨v, h1, h2⟩ := h.at_ i d z
  exact ⟨v, h1, h2.ext e⟩⟩
theorem SR.sub (h : SR K τ H ds σ) (s : Sub τ' τ) : SR K τ' H ds σ := ⟨h.len, fun i d z => by
  obtain ⟨v, h1, h2⟩ := h.at_ i d z
  exact ⟨v, h1, h2.sub fun _ => s.none⟩⟩
theorem SR.set (h : SR K τ H ds σ) (i : Nat) {d : D} {v : V} (r : DR K τ H d v) : SR K τ H (ds.set i (some d)) (σ.set i (some v)) := by
  refine ⟨by simp [h.len], fun j e z => ?_⟩
  by_cases hj : j = i
  · subst hj
    have hl : j < ds.length := by
      have := (List.getElem?_eq_some_iff.mp z).1
      simpa using this
    rw [List.getElem?_set_self hl] at z
    cases z
    exact ⟨v, List.getElem?_set_self (by rw [← h.len]; exact hl), r⟩
  · rw [List.getElem?_set_ne (Ne.symm hj)] at z
    rw [List.getElem?_set_ne (Ne.symm hj)]
    exact h.at_ j e z
theorem SR.drop (h : SR K τ H ds σ) (i : Nat) : SR K τ H (ds.set i none) (σ.set i none) := by
  refine ⟨by simp [h.len], fun j e z => ?_⟩
  by_cases hj : j = i
  · subst hj
    have hl : j < ds.length := by
      have := (List.getElem?_eq_some_iff.mp z).1
      simpa using this
    rw [List.getElem?_set_self hl] at z
    cases z
  · rw [List.getElem?_set_ne (Ne.symm hj)] at z
    rw [List.getElem?_set_ne (Ne.symm hj)]
    exact h.at_ j e z
/-- a slot forgotten on one side -/
theorem SR.forget (h : SR K τ H ds σ) (i : Nat) : SR K τ H (ds.set i none) σ := by
  refine ⟨by simp [h.len], fun j e z => ?_⟩
  by_cases hj : j = i
  · subst hj
    have hl : j < ds.length := by
      have := (List.getElem?_eq_some_iff.mp z).1
      simpa using this
    rw [List.getElem?_set_self hl] at z
    cases z
  · rw [List.getElem?_set_ne (Ne.symm hj)] at z
    exact h.at_ j e z
end
/-! ### readings over data -/
abbrev DK := TD → D → Prop
abbrev DKs := TD → List D → Prop
abbrev DE := TD → Sl → DK → Prop
abbrev DA := TD → Sl → DKs → Prop
abbrev DT := TD → Sl → (TD → Bool → Prop) → Prop
/-- an exception: its class, the field that it bears -/
abbrev XD := TD → Addr → Str → D → Prop
abbrev X0 : XD := fun _ _ _ _ => False
def XOk (K : PySem.W.Frag) (T : List (Addr × Str)) (E : XK) (KE : XD) (τ : TD) (H : Hp) : Prop :=
  ∀ τ' H' C f d a v, Ext τ H τ' H' → J K T τ' H' → H' a = some (.xd [(f, v)]) → DR K τ' H' d v → KE τ' C f d → E (.ref C) (some a) H'
theorem XOk.ext {K : PySem.W.Frag} {T : List (Addr × Str)} {E : XK} {KE : XD} {τ τ' : TD} {H H' : Hp} (h : XOk K T E KE τ H) (e : Ext τ H τ' H') : XOk K T E KE τ' H' :=
  fun τ2 H2 C f d a v e2 j ha r k => h τ2 H2 C f d a v (e.trans e2) j ha r k
def SndE (K : PySem.W.Frag) (T : List (Addr × Str)) (E : XK) (KE : XD) (t : TE) (δ : DE) : Prop :=
  ∀ σ H τ ds (k : DK) (Q : VK), J K T τ H → SR K τ H ds σ → δ τ ds k → XOk K T E KE τ H → (∀ v τ' H' d, Ext τ H τ' H' → J K T τ' H' → DR K τ' H' d v → k τ' d → Q v H') → t σ H Q
def SndA (K : PySem.W.Frag) (T : List (Addr × Str)) (E : XK) (KE : XD) (t : TA) (δ : DA) : Prop :=
  ∀ σ H τ ds (k : DKs) (Q : List V → Hp → Prop), J K T τ H → SR K τ H ds σ → δ τ ds k → XOk K T E KE τ H → (∀ vs τ' H' es, Ext τ H τ' H' → J K T τ' H' → DRs K τ' H' es vs → k τ' es → Q vs H') → t σ H Q
def SndT (K : PySem.W.Frag) (T : List (Addr × Str)) (E : XK) (KE : XD) (t : TT) (δ : DT) : Prop :=
  ∀ σ H τ ds (k : TD → Bool → Prop) (Q : Bool → Hp → Prop), J K T τ H → SR K τ H ds σ → δ τ ds k → XOk K T E KE τ H → (∀ b τ' H', Ext τ H τ' H' → J K T τ' H' → k τ' b → Q b H') → t σ H Q
structure PD (T : List (Addr × Str)) (X : Cx) (E : XK) (KE : XD) (e : Expr) (δ : DE) : Prop where
  ex : ∃ t, PE X e t ∧ SndE X.K T E KE t δ
structure PDA (T : List (Addr × Str)) (X : Cx) (E : XK) (KE : XD) (es : List Expr) (δ : DA) : Prop where
  ex : ∃ t, PA X es t ∧ SndA X.K T E KE t δ
structure PDT (T : List (Addr × Str)) (X : Cx) (E : XK) (KE : XD) (e : Expr) (δ : DT) : Prop where
  ex : ∃ t, PT X e t ∧ SndT X.K T E KE t δ
structure PDW (T : List (Addr × Str)) (X : Cx) (E : XK) (KE : XD) (e : Expr) (δ : DT) : Prop where
  ex : ∃ t, PW X e t ∧ SndT X.K T E KE t δ
section
variable {T : List (Addr × Str)} {X : Cx} {E : XK} {KE : XD} {e a b c : Expr} {es : List Expr} {pos : Pos} {δ δa δb δc : DE} {δs : DA}
/-! names, constants -/
def dVar (i : Nat) : DE := fun τ ds k => match ds[i]? with
  | some (some d) => k τ d
  | _ => False
def dC (d : D) : DE := fun τ _ k => k τ d
theorem pd_var {i : Nat} (h : PE X e (tVar i)) : PD T X E KE e (dVar i) := by
  refine ⟨_, h, fun σ H τ ds k Q j s h _ q => ?_⟩
  unfold dVar at h
  split at h
  · rename_i d hd
    obtain ⟨v, h1, h2⟩ := s.at_ i d hd
    exact ⟨v, h1, q v τ H d (Ext.refl _ _) j h2 h⟩
  · exact h.elim
theorem pd_c {d : D} {v : V} (h : PE X e (tC v)) (r : ∀ K τ H, DR K τ H d v) : PD T X E KE e (dC d) :=
  ⟨_, h, fun σ H τ ds k Q j s h _ q => q v τ H d (Ext.refl _ _) j (r _ _ _) h⟩
theorem pd_int {i : Int} {j pos} : PD T X E KE (.Constant (.int i) j pos) (dC (.int i)) := pd_c pe_int fun _ _ _ => rfl
theorem pd_bl {i : Bool} {j pos} : PD T X E KE (.Constant (.bool i) j pos) (dC (.bl i)) := pd_c pe_bl fun _ _ _ => rfl
theorem pd_non {j pos} : PD T X E KE (.Constant .none j pos) (dC .non) := pd_c pe_non fun _ _ _ => rfl
theorem pd_str {x : Str} {j pos} : PD T X E KE (.Constant (.str x) j pos) (dC (.str x)) := pd_c pe_str fun _ _ _ => rfl
/-- a constant of the module (a tuple, a list, a text, a number) -/
theorem pd_glob {x : Str} {v : V} {u : Value} {d : D} {pos : Pos} (hg : Gl X x) (hm : X.mg x = some u) (r : RelV v u) (hd : ∀ τ H, DR X.K τ H d v) (hdb : (x == ("__debug__" : Str)) = false := by decide) : PD T X E KE (.Name x pos) (dC d) :=
  ⟨_, pe_glob hg hm r hdb, fun σ H τ ds k Q j s h _ q => q v τ H d (Ext.refl _ _) j (hd _ _) h⟩
theorem pd_bltn {x : Str} {n : String} {pos : Pos} (hg : Gl X x) (hm : X.mg x = none) (hv : bootBuiltins x = some (.type n)) (hn : x ≠ "__name__" := by decide) (hd : (x == ("__debug__" : Str)) = false := by decide) : PD T X E KE (.Name x pos) (dC (.ty n)) :=
  pd_c (pe_bltn (v := .ty n) hg hm hv rfl hn hd) fun _ _ _ => rfl
/-! operators of two and of one -/
abbrev D2 := TD → D → D → DK → Prop
abbrev D1 := TD → D → DK → Prop
def R2ok (K : PySem.W.Frag) (T : List (Addr × Str)) (r : R2) (ρ : D2) : Prop := ∀ τ H x y vx vy (k : DK) (Q : VK), J K T τ H → DR K τ H x vx → DR K τ H y vy → ρ τ x y k → (∀ v τ' H' d, Ext τ H τ' H' → J K T τ' H' → DR K τ' H' d v → k τ' d → Q v H') → r vx vy H Q
def R1ok (K : PySem.W.Frag) (T : List (Addr × Str)) (r : V → Hp → VK → Prop) (ρ : D1) : Prop := ∀ τ H x vx (k : DK) (Q : VK), J K T τ H → DR K τ H x vx → ρ τ x k → (∀ v τ' H' d, Ext τ H τ' H' → J K T τ' H' → DR K τ' H' d v → k τ' d → Q v H') → r vx H Q
def dOp (ρ : D2) (δa δb : DE) : DE := fun τ ds k => δa τ ds fun τ1 x => δb τ1 ds fun τ2 y => ρ τ2 x y k
def dUn (ρ : D1) (δa : DE) : DE := fun τ ds k => δa τ ds fun τ1 x => ρ τ1 x k
theorem sndOp {K : PySem.W.Frag} {r : R2} {ρ : D2} {ta tb : TE} (hr : R2ok K T r ρ) (ha : SndE K T E KE ta δa) (hb : SndE K T E KE tb δb) : SndE K T E KE (tOp r ta tb) (dOp ρ δa δb) := by
  intro σ H τ ds k Q j s h xo q
  refine ha σ H τ ds _ _ j s h xo fun vx τ1 H1 x e1 j1 r1 h1 => ?_
  refine hb σ H1 τ1 ds _ _ j1 (s.ext e1) h1 (xo.ext e1) fun vy τ2 H2 y e2 j2 r2 h2 => ?_
  exact hr τ2 H2 x y vx vy k Q j2 (r1.ext e2) r2 h2 fun v τ' H' d e3 j3 r3 k3 => q v τ' H' d ((e1.trans e2).trans e3) j3 r3 k3
theorem sndUn {K : PySem.W.Frag} {r : V → Hp → VK → Prop} {ρ : D1} {ta : TE} (hr : R1ok K T r ρ) (ha : SndE K T E KE ta δa) : SndE K T E KE (tUn r ta) (dUn ρ δa) := by
  intro σ H τ ds k Q j s h xo q
  refine ha σ H τ ds _ _ j s h xo fun vx τ1 H1 x e1 j1 r1 h1 => ?_
  exact hr τ1 H1 x vx k Q j1 r1 h1 fun v τ' H' d e3 j3 r3 k3 => q v τ' H' d (e1.trans e3) j3 r3 k3
theorem pd_op {op : Operator} {r : R2} {ρ : D2} (ho : OpR X (binaryOp op) r) (hr : R2ok X.K T r ρ) (ha : PD T X E KE a δa) (hb : PD T X E KE b δb) : PD T X E KE (.BinOp a op b pos) (dOp ρ δa δb) := by
  obtain ⟨ta, h1, s1⟩ := ha.ex
  obtain ⟨tb, h2, s2⟩ := hb.ex
  exact ⟨_, pe_op ho h1 h2, sndOp hr s1 s2⟩
theorem pd_un {op : UnaryOp} {r : V → Hp → VK → Prop} {ρ : D1} (ho : UnR X (unaryOp op) r) (hr : R1ok X.K T r ρ) (ha : PD T X E KE a δa) : PD T X E KE (.UnaryOp op a pos) (dUn ρ δa) := by
  obtain ⟨ta, h1, s1⟩ := ha.ex
  exact ⟨_, pe_un ho h1, sndUn hr s1⟩
theorem pd_cmp {op : CmpOp} {r : R2} {ρ : D2} (ho : OpR X (compareOp op) r) (hr : R2ok X.K T r ρ) (ha : PD T X E KE a δa) (hb : PD T X E KE b δb) (hm : behindInMarks op b = false) : PD T X E KE (.Compare a [op] [b] pos) (dOp ρ δa δb) := by
  obtain ⟨ta, h1, s1⟩ := ha.ex
  obtain ⟨tb, h2, s2⟩ := hb.ex
  exact ⟨_, pe_cmpR ho h1 h2 hm, sndOp hr s1 s2⟩
theorem pd_ix {r : R2} {ρ : D2} (ho : IxR X r) (hr : R2ok X.K T r ρ) (ha : PD T X E KE a δa) (hb : PD T X E KE b δb) (hs : PlainIx b := by exact fun _ _ => rfl) : PD T X E KE (.Subscript a b pos) (dOp ρ δa δb) := by
  obtain ⟨ta, h1, s1⟩ := ha.ex
  obtain ⟨tb, h2, s2⟩ := hb.ex
  exact ⟨_, pe_ix ho h1 h2 hs, sndOp hr s1 s2⟩
/-! tests -/
def dTest (δ : DE) : DT := fun τ ds k => δ τ ds fun τ1 x => match x with
  | .bl b => k τ1 b
  | _ => False
theorem sndTest {K : PySem.W.Frag} {t : TE} (h : SndE K T E KE t δ) : SndT K T E KE (tB t) (dTest δ) := by
  intro σ H τ ds k Q j s h' xo q
  refine h σ H τ ds _ _ j s h' xo fun v τ' H' d e j' r hk => ?_
  cases d with
  | bl b => exact ⟨b, r, q b τ' H' e j' hk⟩
  | _ => exact hk.elim
theorem pdt_val (h : PD T X E KE e δ) (he : ∀ whole, isTrue e X.env whole = (do let v ← whole; standAt e.pos; holding [v] (truthy v)) := by intro _; rfl) : PDT T X E KE e (dTest δ) := by
  obtain ⟨t, h1, s1⟩ := h.ex
  exact ⟨_, pt_val h1 he, sndTest s1⟩
theorem pdt_cmp {op : CmpOp} {r : R2} {ρ : D2} (ho : OpR X (compareOp op) r) (hr : R2ok X.K T r ρ) (ha : PD T X E KE a δa) (hb : PD T X E KE b δb) (hm : behindInMarks op b = false) : PDT T X E KE (.Compare a [op] [b] pos) (dTest (dOp ρ δa δb)) := by
  obtain ⟨ta, h1, s1⟩ := ha.ex
  obtain ⟨tb, h2, s2⟩ := hb.ex
  exact ⟨_, pt_cmpR ho h1 h2 hm, sndTest (sndOp hr s1 s2)⟩
def dAnd (δ ε : DT) : DT := fun τ ds k => δ τ ds fun τ1 b => if b = true then ε τ1 ds k else k τ1 false
def dOr (δ ε : DT) : DT := fun τ ds k => δ τ ds fun τ1 b => if b = true then k τ1 true else ε τ1 ds k
def dNot (δ : DT) : DT := fun τ ds k => δ τ ds fun τ1 b => k τ1 (!b)
variable {η θ : DT} {rest : List Expr}
theorem PDW.pt (h : PDW T X E KE e η) : PDT T X E KE e η := by
  obtain ⟨t, h1, s1⟩ := h.ex
  exact ⟨t, h1.pt, s1⟩
theorem pdw_and1 (ha : PDT T X E KE a η) : PDW T X E KE (.BoolOp .And [a] pos) η := by
  obtain ⟨t, h1, s1⟩ := ha.ex
  exact ⟨t, pw_and1 h1, s1⟩
theorem pdw_or1 (ha : PDT T X E KE a η) : PDW T X E KE (.BoolOp .Or [a] pos) η := by
  obtain ⟨t, h1, s1⟩ := ha.ex
  exact ⟨t, pw_or1 h1, s1⟩
theorem sndAnd {K : PySem.W.Frag} {t u : TT} (h1 : SndT K T E KE t η) (h2 : SndT K T E KE u θ) : SndT K T E KE (tAnd t u) (dAnd η θ) := by
  intro σ H τ ds k Q j s h xo q
  refine h1 σ H τ ds _ _ j s h xo fun b τ1 H1 e1 j1 k1 => ?_
  cases b with
  | true => exact h2 σ H1 τ1 ds k Q j1 (s.ext e1) k1 (xo.ext e1) fun b τ' H' e j' hk => q b τ' H' (e1.trans e) j' hk
  | false => exact q false τ1 H1 e1 j1 k1
theorem sndOr {K : PySem.W.Frag} {t u : TT} (h1 : SndT K T E KE t η) (h2 : SndT K T E KE u θ) : SndT K T E KE (tOr t u) (dOr η θ) := by
  intro σ H τ ds k Q j s h xo q
  refine h1 σ H τ ds _ _ j s h xo fun b τ1 H1 e1 j1 k1 => ?_
  cases b with
  | false => exact h2 σ H1 τ1 ds k Q j1 (s.ext e1) k1 (xo.ext e1) fun b τ' H' e j' hk => q b τ' H' (e1.trans e) j' hk
  | true => exact q true τ1 H1 e1 j1 k1
theorem pdw_and (ha : PDT T X E KE a η) (hb : PDW T X E KE (.BoolOp .And (b :: rest) pos) θ) : PDW T X E KE (.BoolOp .And (a :: b :: rest) pos) (dAnd η θ) := by
  obtain ⟨t, h1, s1⟩ := ha.ex
  obtain ⟨u, h2, s2⟩ := hb.ex
  exact ⟨_, pw_and h1 h2, sndAnd s1 s2⟩
theorem pdw_or (ha : PDT T X E KE a η) (hb : PDW T X E KE (.BoolOp .Or (b :: rest) pos) θ) : PDW T X E KE (.BoolOp .Or (a :: b :: rest) pos) (dOr η θ) := by
  obtain ⟨t, h1, s1⟩ := ha.ex
  obtain ⟨u, h2, s2⟩ := hb.ex
  exact ⟨_, pw_or h1 h2, sndOr s1 s2⟩
theorem pdt_not (ha : PDT T X E KE a η) : PDT T X E KE (.UnaryOp .Not a pos) (dNot η) := by
  obtain ⟨t, h1, s1⟩ := ha.ex
  exact ⟨_, pt_not h1, fun σ H τ ds k Q j s h xo q => s1 σ H τ ds _ _ j s h xo fun b τ1 H1 e1 j1 k1 => q (!b) τ1 H1 e1 j1 k1⟩
/-! and, or, not as values: bools -/
def dAndV (δa δb : DE) : DE := fun τ ds k => δa τ ds fun τ1 x => match x with
  | .bl true => δb τ1 ds k
  | .bl false => k τ1 (.bl false)
  | _ => False
def dOrV (δa δb : DE) : DE := fun τ ds k => δa τ ds fun τ1 x => match x with
  | .bl false => δb τ1 ds k
  | .bl true => k τ1 (.bl true)
  | _ => False
def dNotV (δa : DE) : DE := fun τ ds k => δa τ ds fun τ1 x => match x with
  | .bl b => k τ1 (.bl (!b))
  | _ => False
theorem pd_one {op} (h : PD T X E KE a δ) : PD T X E KE (.BoolOp op [a] pos) δ := by
  obtain ⟨t, h1, s1⟩ := h.ex
  exact ⟨t, pe_one h1, s1⟩
theorem pd_and (ha : PD T X E KE a δa) (hb : PD T X E KE (.BoolOp .And (b :: rest) pos) δb) : PD T X E KE (.BoolOp .And (a :: b :: rest) pos) (dAndV δa δb) := by
  obtain ⟨t, h1, s1⟩ := ha.ex
  obtain ⟨u, h2, s2⟩ := hb.ex
  refine ⟨_, pe_and h1 h2, fun σ H τ ds k Q j s h xo q => s1 σ H τ ds _ _ j s h xo fun v τ1 H1 d e1 j1 r1 k1 => ?_⟩
  cases d with
  | bl c =>
    refine ⟨c, r1, ?_⟩
    cases c with
    | true => exact s2 σ H1 τ1 ds k Q j1 (s.ext e1) k1 (xo.ext e1) fun v τ' H' d e j' r hk => q v τ' H' d (e1.trans e) j' r hk
    | false => exact q (.bl false) τ1 H1 (.bl false) e1 j1 rfl k1
  | _ => exact k1.elim
theorem pd_or (ha : PD T X E KE a δa) (hb : PD T X E KE (.BoolOp .Or (b :: rest) pos) δb) : PD T X E KE (.BoolOp .Or (a :: b :: rest) pos) (dOrV δa δb) := by
  obtain ⟨t, h1, s1⟩ := ha.ex
  obtain ⟨u, h2, s2⟩ := hb.ex
  refine ⟨_, pe_or h1 h2, fun σ H τ ds k Q j s h xo q => s1 σ H τ ds _ _ j s h xo fun v τ1 H1 d e1 j1 r1 k1 => ?_⟩
  cases d with
  | bl c =>
    refine ⟨c, r1, ?_⟩
    cases c with
    | false => exact s2 σ H1 τ1 ds k Q j1 (s.ext e1) k1 (xo.ext e1) fun v τ' H' d e j' r hk => q v τ' H' d (e1.trans e) j' r hk
    | true => exact q (.bl true) τ1 H1 (.bl true) e1 j1 rfl k1
  | _ => exact k1.elim
theorem pd_not (ha : PD T X E KE a δa) : PD T X E KE (.UnaryOp .Not a pos) (dNotV δa) := by
  obtain ⟨t, h1, s1⟩ := ha.ex
  refine ⟨_, pe_not h1, fun σ H τ ds k Q j s h xo q => s1 σ H τ ds _ _ j s h xo fun v τ1 H1 d e1 j1 r1 k1 => ?_⟩
  cases d with
  | bl c => exact ⟨c, r1, q (.bl (!c)) τ1 H1 (.bl (!c)) e1 j1 rfl k1⟩
  | _ => exact k1.elim
/-! a if t else b -/
def dIf (η : DT) (δa δb : DE) : DE := fun τ ds k => η τ ds fun τ1 b => if b = true then δa τ1 ds k else δb τ1 ds k
theorem pd_if (hc : PDT T X E KE c η) (ha : PD T X E KE a δa) (hb : PD T X E KE b δb) : PD T X E KE (.IfExp c a b pos) (dIf η δa δb) := by
  obtain ⟨tc, h0, s0⟩ := hc.ex
  obtain ⟨ta, h1, s1⟩ := ha.ex
  obtain ⟨tb, h2, s2⟩ := hb.ex
  refine ⟨_, pe_ifExp h0 h1 h2, fun σ H τ ds k Q j s h xo q => s0 σ H τ ds _ _ j s h xo fun d τ1 H1 e1 j1 k1 => ?_⟩
  cases d with
  | true => exact s1 σ H1 τ1 ds k Q j1 (s.ext e1) k1 (xo.ext e1) fun v τ' H' d e j' r hk => q v τ' H' d (e1.trans e) j' r hk
  | false => exact s2 σ H1 τ1 ds k Q j1 (s.ext e1) k1 (xo.ext e1) fun v τ' H' d e j' r hk => q v τ' H' d (e1.trans e) j' r hk
/-! a < b < c -/
def dChain (ρ ρ' : D2) (δa δb δc : DE) : DE := fun τ ds k => δa τ ds fun τ1 x => δb τ1 ds fun τ2 y => ρ τ2 x y fun τ3 z => match z with
  | .bl true => δc τ3 ds fun τ4 w => ρ' τ4 y w k
  | .bl false => k τ3 (.bl false)
  | _ => False
/-! arguments, displays -/
def dNil : DA := fun τ _ k => k τ []
def dCons (δ : DE) (δs : DA) : DA := fun τ ds k => δ τ ds fun τ1 x => δs τ1 ds fun τ2 xs => k τ2 (x :: xs)
theorem pda_nil : PDA T X E KE [] dNil := ⟨_, pa_nil, fun σ H τ ds k Q j s h xo q => q [] τ H [] (Ext.refl _ _) j rfl h⟩
theorem pda_cons (ha : PD T X E KE e δ) (hr : PDA T X E KE es δs) (hs : starEach (e :: es) X.env = (false, eval e X.env) :: starEach es X.env := by rfl) : PDA T X E KE (e :: es) (dCons δ δs) := by
  obtain ⟨t, h1, s1⟩ := ha.ex
  obtain ⟨u, h2, s2⟩ := hr.ex
  refine ⟨_, pa_cons h1 h2 hs, fun σ H τ ds k Q j s h xo q => s1 σ H τ ds _ _ j s h xo fun v τ1 H1 d e1 j1 r1 k1 => ?_⟩
  exact s2 σ H1 τ1 ds _ _ j1 (s.ext e1) k1 (xo.ext e1) fun vs τ' H' es e j' r hk => q (v :: vs) τ' H' (d :: es) (e1.trans e) j' ⟨v, vs, rfl, r1.ext e, r⟩ hk
def dTup (δs : DA) : DE := fun τ ds k => δs τ ds fun τ1 xs => xs.length ≤ sizeLine ∧ k τ1 (.tup xs)
def dLst (δs : DA) : DE := fun τ ds k => δs τ ds fun τ1 xs => xs.length ≤ sizeLine ∧ k τ1 (.lst xs)
/-- a new list that may be changed later -/
def dLstM (δs : DA) : DE := fun τ ds k => δs τ ds fun τ1 xs => xs.length ≤ sizeLine ∧ ∀ p, τ1 p = none → k (tset τ1 p (.lst xs)) (.ref p)
theorem pd_tup {x1} (h : PDA T X E KE es δs) : PD T X E KE (.Tuple es x1 pos) (dTup δs) := by
  obtain ⟨t, h1, s1⟩ := h.ex
  refine ⟨_, pe_tup h1, fun σ H τ ds k Q j s h xo q => s1 σ H τ ds _ _ j s h xo fun vs τ1 H1 es e1 j1 r1 k1 => ⟨by rw [r1.length]; exact k1.1, fun p hp => ?_⟩⟩
  exact q (.ref p) τ1 _ (.tup es) (e1.trans (.new hp)) (j1.new hp) ⟨p, vs, rfl, .inl ⟨.of upd_same, j1.free hp⟩, r1.ext (.new hp)⟩ k1.2
theorem pd_lst (h : PDA T X E KE es δs) : PD T X E KE (.List es pos) (dLst δs) := by
  obtain ⟨t, h1, s1⟩ := h.ex
  refine ⟨_, pe_lst h1, fun σ H τ ds k Q j s h xo q => s1 σ H τ ds _ _ j s h xo fun vs τ1 H1 es e1 j1 r1 k1 => ⟨by rw [r1.length]; exact k1.1, fun p hp => ?_⟩⟩
  exact q (.ref p) τ1 _ (.lst es) (e1.trans (.new hp)) (j1.new hp) ⟨p, vs, rfl, .inl ⟨.of upd_same, j1.free hp⟩, r1.ext (.new hp)⟩ k1.2
theorem pd_lstM (h : PDA T X E KE es δs) : PD T X E KE (.List es pos) (dLstM δs) := by
  obtain ⟨t, h1, s1⟩ := h.ex
  refine ⟨_, pe_lst h1, fun σ H τ ds k Q j s h xo q => s1 σ H τ ds _ _ j s h xo fun vs τ1 H1 es e1 j1 r1 k1 => ⟨by rw [r1.length]; exact k1.1, fun p hp => ?_⟩⟩
  have e2 : Ext τ1 H1 (tset τ1 p (.lst es)) (upd H1 p (.lst vs)) := .newM hp
  exact q (.ref p) _ _ (.ref p) (e1.trans e2) (j1.newM hp ⟨vs, upd_same, r1.ext e2⟩) rfl (k1.2 p (j1.free hp))
end
end DL

set_option Elab.async false
set_option linter.all false
set_option maxRecDepth 100000
set_option maxHeartbeats 1000000
/-! The data layer, 2: calls, statements, loops, comprehensions, defs. -/
namespace DL
open PySem PySem.Spec PyProof.Rows L2
section
variable {T : List (Addr × Str)} {X : Cx} {E : XK} {KE : XD} {e a b c o : Expr} {es : List Expr} {pos : Pos} {δ δa δb δc δo : DE} {δs : DA}
/-! ### calls of built-ins -/
abbrev DC := TD → List D → DK → Prop
def RCok (K : PySem.W.Frag) (T : List (Addr × Str)) (r : List V → Hp → VK → Prop) (ρ : DC) : Prop := ∀ τ H xs vs (k : DK) (Q : VK), J K T τ H → DRs K τ H xs vs → ρ τ xs k → (∀ v τ' H' d, Ext τ H τ' H' → J K T τ' H' → DR K τ' H' d v → k τ' d → Q v H') → r vs H Q
def dCB (ρ : DC) (δs : DA) : DE := fun τ ds k => δs τ ds fun τ1 xs => ρ τ1 xs k
theorem sndCB {K : PySem.W.Frag} {r : List V → Hp → VK → Prop} {ρ : DC} {t : TA} (hr : RCok K T r ρ) (h : SndA K T E KE t δs) : SndE K T E KE (tCB r t) (dCB ρ δs) := by
  intro σ H τ ds k Q j s h' xo q
  refine h σ H τ ds _ _ j s h' xo fun vs τ1 H1 xs e1 j1 r1 k1 => ?_
  exact hr τ1 H1 xs vs k Q j1 r1 k1 fun v τ' H' d e2 j2 r2 k2 => q v τ' H' d (e1.trans e2) j2 r2 k2
theorem pd_callB {x : Str} {id : String} {r : List V → Hp → VK → Prop} {ρ : DC} {p : Pos} (hc : CallR X (.builtin id) r) (hr : RCok X.K T r ρ) (hg : Gl X x) (hm : X.mg x = none) (hv : bootBuiltins x = some (.builtin id)) (ha : PDA T X E KE (e :: es) δs) (hn : x ≠ "__name__" := by decide) (hdb : (x == ("__debug__" : Str)) = false := by decide)
    (he : starEach (e :: es) X.env = (false, eval e X.env) :: starEach es X.env := by rfl) (hpl : (backTo pos (starEach es X.env)).any (·.1) = false := by rfl) : PD T X E KE (.Call (.Name x p) (e :: es) [] pos) (dCB ρ δs) := by
  obtain ⟨t, h1, s1⟩ := ha.ex
  exact ⟨_, pe_callB hc hg hm hv h1 hn hdb he hpl, sndCB hr s1⟩
theorem pd_callTy {x : Str} {n : String} {r : List V → Hp → VK → Prop} {ρ : DC} {p : Pos} (hc : CallR X (.type n) r) (hr : RCok X.K T r ρ) (hg : Gl X x) (hm : X.mg x = none) (hv : bootBuiltins x = some (.type n)) (ha : PDA T X E KE (e :: es) δs) (hn : x ≠ "__name__" := by decide) (hdb : (x == ("__debug__" : Str)) = false := by decide)
    (he : starEach (e :: es) X.env = (false, eval e X.env) :: starEach es X.env := by rfl) (hpl : (backTo pos (starEach es X.env)).any (·.1) = false := by rfl) : PD T X E KE (.Call (.Name x p) (e :: es) [] pos) (dCB ρ δs) := by
  obtain ⟨t, h1, s1⟩ := ha.ex
  exact ⟨_, pe_callTy hc hg hm hv h1 hn hdb he hpl, sndCB hr s1⟩
/-! ### methods of built-in types -/
abbrev DM := TD → D → List D → DK → Prop
/-- the receiver is of the type, then the method -/
def TyOk (K : PySem.W.Frag) (T : List (Addr × Str)) (ty : String) (θ : TD → D → Prop) : Prop := ∀ τ H x vx, J K T τ H → DR K τ H x vx → θ τ x → tyV K ty vx H
def RMok (K : PySem.W.Frag) (T : List (Addr × Str)) (r : V → List V → Hp → VK → Prop) (ρ : DM) : Prop := ∀ τ H x vx xs vs (k : DK) (Q : VK), J K T τ H → DR K τ H x vx → DRs K τ H xs vs → ρ τ x xs k → (∀ v τ' H' d, Ext τ H τ' H' → J K T τ' H' → DR K τ' H' d v → k τ' d → Q v H') → r vx vs H Q
def dBM (θ : TD → D → Prop) (ρ : DM) (δo : DE) (δs : DA) : DE := fun τ ds k => δo τ ds fun τ1 x => θ τ1 x ∧ δs τ1 ds fun τ2 xs => ρ τ2 x xs k
theorem pd_bm {ty id : String} {name : Str} {r : V → List V → Hp → VK → Prop} {ρ : DM} {θ : TD → D → Prop} {apos cpos : Pos} (pa : PlainAttrs ty) (slot : Slot ty name id) (hty : typeOf (.builtin id) = pure (.type "method_descriptor")) (hm : MtR X id r) (hr : RMok X.K T r ρ) (ht : TyOk X.K T ty θ)
    (ho : PD T X E KE o δo) (ha : PDA T X E KE (e :: es) δs) (hbase : attributeBase o name X.env (eval o X.env) = eval o X.env := by rfl)
    (hfew : ((backTo cpos (starEach (e :: es) X.env)).all (fun x => !x.1) && (backToKw cpos (keywordEach [] X.env)).all (fun x => x.1.isSome)
      && decide ((e :: es).length + ([] : List Keyword).length + (if ([] : List Keyword).isEmpty then 0 else 1) < 30)) = true := by rfl)
    (hline : (apos.endLine == cpos.line) = true := by rfl) (hs : starEach (e :: es) X.env = (false, eval e X.env) :: starEach es X.env := by rfl) (hplain : (backTo cpos (starEach es X.env)).any (·.1) = false := by rfl) :
    PD T X E KE (.Call (.Attribute o name apos) (e :: es) [] cpos) (dBM θ ρ δo δs) := by
  obtain ⟨to, h1, s1⟩ := ho.ex
  obtain ⟨ta, h2, s2⟩ := ha.ex
  refine ⟨_, pe_bm pa slot hty hm h1 h2 hbase hfew hline hs hplain, fun σ H τ ds k Q j s h xo q => s1 σ H τ ds _ _ j s h xo fun v τ1 H1 x e1 j1 r1 k1 => ⟨ht τ1 H1 x v j1 r1 k1.1, ?_⟩⟩
  refine s2 σ H1 τ1 ds _ _ j1 (s.ext e1) k1.2 (xo.ext e1) fun vs τ2 H2 xs e2 j2 r2 k2 => ?_
  exact hr τ2 H2 x v xs vs k Q j2 (r1.ext e2) r2 k2 fun u τ' H' d e3 j3 r3 k3 => q u τ' H' d ((e1.trans e2).trans e3) j3 r3 k3
theorem pd_bm0 {ty id : String} {name : Str} {r : V → List V → Hp → VK → Prop} {ρ : DM} {θ : TD → D → Prop} {apos cpos : Pos} (pa : PlainAttrs ty) (slot : Slot ty name id) (hty : typeOf (.builtin id) = pure (.type "method_descriptor")) (hm : MtR X id r) (hr : RMok X.K T r ρ) (ht : TyOk X.K T ty θ)
    (ho : PD T X E KE o δo) (hbase : attributeBase o name X.env (eval o X.env) = eval o X.env := by rfl) (hline : (apos.endLine == cpos.line) = true := by rfl) :
    PD T X E KE (.Call (.Attribute o name apos) [] [] cpos) (dBM θ ρ δo dNil) := by
  obtain ⟨to, h1, s1⟩ := ho.ex
  refine ⟨_, pe_bm0 pa slot hty hm h1 hbase hline, fun σ H τ ds k Q j s h xo q => s1 σ H τ ds _ _ j s h xo fun v τ1 H1 x e1 j1 r1 k1 => ⟨ht τ1 H1 x v j1 r1 k1.1, ?_⟩⟩
  exact hr τ1 H1 x v [] [] k Q j1 r1 rfl k1.2 fun u τ' H' d e3 j3 r3 k3 => q u τ' H' d (e1.trans e3) j3 r3 k3
/-! ### slices -/
abbrev DO' := TD → Sl → (TD → Option Int → Prop) → Prop
def SndO (K : PySem.W.Frag) (T : List (Addr × Str)) (E : XK) (KE : XD) (t : TO) (δ : DO') : Prop :=
  ∀ σ H τ ds (k : TD → Option Int → Prop) (Q : Option Int → Hp → Prop), J K T τ H → SR K τ H ds σ → δ τ ds k → XOk K T E KE τ H → (∀ i τ' H', Ext τ H τ' H' → J K T τ' H' → k τ' i → Q i H') → t σ H Q
structure PDO (T : List (Addr × Str)) (X : Cx) (E : XK) (KE : XD) (e : Option Expr) (δ : DO') : Prop where
  ex : ∃ t, PO X e t ∧ SndO X.K T E KE t δ
def dNoPart : DO' := fun τ _ k => k τ none
def dPart (δ : DE) : DO' := fun τ ds k => δ τ ds fun τ1 x => match x with
  | .int i => k τ1 (some i)
  | _ => False
theorem pdo_none : PDO T X E KE none dNoPart := ⟨_, po_none, fun σ H τ ds k Q j s h xo q => q none τ H (Ext.refl _ _) j h⟩
theorem pdo_some (h : PD T X E KE e δ) : PDO T X E KE (some e) (dPart δ) := by
  obtain ⟨t, h1, s1⟩ := h.ex
  refine ⟨_, po_some h1, fun σ H τ ds k Q j s h xo q => s1 σ H τ ds _ _ j s h xo fun v τ1 H1 d e1 j1 r1 k1 => ?_⟩
  cases d with
  | int i => exact ⟨i, r1, q (some i) τ1 H1 e1 j1 k1⟩
  | _ => exact k1.elim
abbrev DSl := TD → D → Option Int → Option Int → DK → Prop
def RSok (K : PySem.W.Frag) (T : List (Addr × Str)) (r : V → Option Int → Option Int → Hp → VK → Prop) (ρ : DSl) : Prop := ∀ τ H x vx lo hi (k : DK) (Q : VK), J K T τ H → DR K τ H x vx → ρ τ x lo hi k → (∀ v τ' H' d, Ext τ H τ' H' → J K T τ' H' → DR K τ' H' d v → k τ' d → Q v H') → r vx lo hi H Q
def dSl (ρ : DSl) (δ : DE) (δl δh : DO') : DE := fun τ ds k => δ τ ds fun τ1 x => δl τ1 ds fun τ2 lo => δh τ2 ds fun τ3 hi => ρ τ3 x lo hi k
theorem pd_slice {lo hi : Option Expr} {p2 : Pos} {r : V → Option Int → Option Int → Hp → VK → Prop} {ρ : DSl} {δl δh : DO'} (hr : SlR X r) (hr' : RSok X.K T r ρ) (he : PD T X E KE e δ) (hl : PDO T X E KE lo δl) (hu : PDO T X E KE hi δh) : PD T X E KE (.Subscript e (.Slice lo hi none p2) pos) (dSl ρ δ δl δh) := by
  obtain ⟨t, h1, s1⟩ := he.ex
  obtain ⟨tl, h2, s2⟩ := hl.ex
  obtain ⟨th, h3, s3⟩ := hu.ex
  refine ⟨_, pe_slice hr h1 h2 h3, fun σ H τ ds k Q j s h xo q => s1 σ H τ ds _ _ j s h xo fun v τ1 H1 d e1 j1 r1 k1 => ?_⟩
  refine s2 σ H1 τ1 ds _ _ j1 (s.ext e1) k1 (xo.ext e1) fun l τ2 H2 e2 j2 k2 => ?_
  refine s3 σ H2 τ2 ds _ _ j2 (s.ext (e1.trans e2)) k2 (xo.ext (e1.trans e2)) fun u τ3 H3 e3 j3 k3 => ?_
  exact hr' τ3 H3 d v l u k Q j3 ((r1.ext e2).ext e3) k3 fun v τ' H' d e4 j4 r4 k4 => q v τ' H' d (((e1.trans e2).trans e3).trans e4) j4 r4 k4
/-! ### chained comparisons -/
theorem pd_chain {op op' : CmpOp} {r r' : R2} {ρ ρ' : D2} (ho : OpR X (compareOp op) r) (ho' : OpR X (compareOp op') r') (hr : R2ok X.K T r ρ) (hr' : R2ok X.K T r' ρ') (ha : PD T X E KE a δa) (hb : PD T X E KE b δb) (hc : PD T X E KE c δc)
    (h1 : behindInMarks op b = false) (h2 : behindInMarks op' c = false)
    (mk : ∀ ta tb tc, PE X a ta → PE X b tb → PE X c tc → PE X (.Compare a [op, op'] [b, c] pos) (tChain r r' ta tb tc)) : PD T X E KE (.Compare a [op, op'] [b, c] pos) (dChain ρ ρ' δa δb δc) := by
  obtain ⟨ta, p1, s1⟩ := ha.ex
  obtain ⟨tb, p2, s2⟩ := hb.ex
  obtain ⟨tc, p3, s3⟩ := hc.ex
  refine ⟨_, mk _ _ _ p1 p2 p3, fun σ H τ ds k Q j s h xo q => s1 σ H τ ds _ _ j s h xo fun vx τ1 H1 x e1 j1 r1 k1 => ?_⟩
  refine s2 σ H1 τ1 ds _ _ j1 (s.ext e1) k1 (xo.ext e1) fun vy τ2 H2 y e2 j2 r2 k2 => ?_
  refine hr τ2 H2 x y vx vy _ _ j2 (r1.ext e2) r2 k2 fun v τ3 H3 d e3 j3 r3 k3 => ?_
  cases d with
  | bl z =>
    refine ⟨z, r3, ?_⟩
    cases z with
    | true =>
      refine s3 σ H3 τ3 ds _ _ j3 (s.ext ((e1.trans e2).trans e3)) k3 (xo.ext ((e1.trans e2).trans e3)) fun vw τ4 H4 w e4 j4 r4 k4 => ?_
      exact hr' τ4 H4 y w vy vw k Q j4 ((r2.ext e3).ext e4) r4 k4 fun v τ' H' d e5 j5 r5 k5 => q v τ' H' d ((((e1.trans e2).trans e3).trans e4).trans e5) j5 r5 k5
    | false => exact q (.bl false) τ3 H3 (.bl false) ((e1.trans e2).trans e3) j3 rfl k3
  | _ => exact k3.elim
/-! ### calls of defs -/
/-- what a def does: the mutable objects, the arguments, what is wanted of its value, of its exception -/
abbrev SpD := TD → List D → DK → XD → Prop
def spOf (K : PySem.W.Frag) (T : List (Addr × Str)) (n : Nat) (sp : SpD) : Sp := fun vs H Q E => ∃ (τ : TD) (ds : List D) (k : DK) (KE : XD), J K T τ H ∧ DRs K τ H ds vs ∧ ds.length = n ∧ sp τ ds k KE ∧ XOk K T E KE τ H ∧
  ∀ v τ' H' d, Ext τ H τ' H' → J K T τ' H' → DR K τ' H' d v → k τ' d → Q v H'
abbrev FnD (P : Program) (w : World) (K : PySem.W.Frag) (mg : Str → Option Value) (base : Heap) (T : List (Addr × Str)) (k : Nat) (f : Addr) (fd : FuncData) (ps : List Str) (sp : SpD) : Prop := FnOk P w K mg base (L2.CX P w) k f fd ps (spOf K T ps.length sp)
def dCall (n : Nat) (sp : SpD) (dd : List D) (KE : XD) (δs : DA) : DE := fun τ ds k => δs τ ds fun τ1 xs => (xs ++ dd).length = n ∧ sp τ1 (xs ++ dd) k KE
/-- the defaults -/
def Dfl (K : PySem.W.Frag) (dd : List D) (dvs : List V) : Prop := ∀ τ H, DRs K τ H dd dvs
theorem Dfl.nil {K : PySem.W.Frag} : Dfl K [] [] := fun _ _ => rfl
theorem sndCall {K : PySem.W.Frag} {n : Nat} {sp : SpD} {dd : List D} {dvs : List V} {t : TA} (hd : Dfl K dd dvs) (h : SndA K T E KE t δs) : SndE K T E KE (tCall (spOf K T n sp) dvs E t) (dCall n sp dd KE δs) := by
  intro σ H τ ds k Q j s h' xo q
  refine h σ H τ ds _ _ j s h' xo fun vs τ1 H1 xs e1 j1 r1 k1 => ?_
  exact ⟨τ1, xs ++ dd, k, KE, j1, r1.append (hd _ _), k1.1, k1.2, xo.ext e1, fun v τ' H' d e2 j2 r2 k2 => q v τ' H' d (e1.trans e2) j2 r2 k2⟩
theorem pd_call {x : Str} {k : Nat} {f : Addr} {fd : FuncData} {ps : List Str} {sp : SpD} {dd : List D} {dvs : List V} {dfs : List Value} {p : Pos} (F : FnD X.prog X.w X.K X.mg X.base T k f fd ps sp) (hr : Room k X.A) (hg : Gl X x) (hm : X.mg x = some (.ref f)) (hk : PySem.W.keepIn X.K (.ref f) = true) (hb : Binds X.K fd ps dfs) (hd : Vals dvs dfs) (hdd : Dfl X.K dd dvs)
    (hx : Passes (L2.CX X.prog X.w) X E) (ha : PDA T X E KE (e :: es) δs) (hdb : (x == ("__debug__" : Str)) = false := by decide) (he : starEach (e :: es) X.env = (false, eval e X.env) :: starEach es X.env := by rfl) (hpl : (backTo pos (starEach es X.env)).any (·.1) = false := by rfl) :
    PD T X E KE (.Call (.Name x p) (e :: es) [] pos) (dCall ps.length sp dd KE δs) := by
  obtain ⟨t, h1, s1⟩ := ha.ex
  exact ⟨_, pe_call F hr hg hm hk hb hd hx h1 hdb he hpl, sndCall hdd s1⟩
theorem pd_call0 {x : Str} {k : Nat} {f : Addr} {fd : FuncData} {ps : List Str} {sp : SpD} {dd : List D} {dvs : List V} {dfs : List Value} {p : Pos} (F : FnD X.prog X.w X.K X.mg X.base T k f fd ps sp) (hr : Room k X.A) (hg : Gl X x) (hm : X.mg x = some (.ref f)) (hk : PySem.W.keepIn X.K (.ref f) = true) (hb : Binds X.K fd ps dfs) (hd : Vals dvs dfs) (hdd : Dfl X.K dd dvs)
    (hx : Passes (L2.CX X.prog X.w) X E) (hdb : (x == ("__debug__" : Str)) = false := by decide) : PD T X E KE (.Call (.Name x p) [] [] pos) (dCall ps.length sp dd KE dNil) := by
  obtain ⟨t, h1, s1⟩ := (pda_nil (T := T) (X := X) (E := E) (KE := KE)).ex
  refine ⟨_, pe_call0 F hr hg hm hk hb hd hx hdb, ?_⟩
  exact sndCall hdd (fun σ H τ ds k Q j s h xo q => q [] τ H [] (Ext.refl _ _) j rfl h)
/-- f(a, k=b): how positional and named arguments stand in the parameters' order -/
structure PDK (T : List (Addr × Str)) (X : Cx) (E : XK) (KE : XD) (kws : List Keyword) (δ : DA) : Prop where
  ex : ∃ t, PK X kws t ∧ SndA X.K T E KE t δ
theorem pdk_nil : PDK T X E KE [] dNil := ⟨_, pk_nil, fun σ H τ ds k Q j s h xo q => q [] τ H [] (Ext.refl _ _) j rfl h⟩
theorem pdk_cons {nm : Option Str} {kpos : Pos} {kws : List Keyword} {δs : DA} (ha : PD T X E KE e δ) (hr : PDK T X E KE kws δs) (mk : ∀ te t, PE X e te → PK X kws t → PK X (⟨nm, e, kpos⟩ :: kws) (tCons te t)) : PDK T X E KE (⟨nm, e, kpos⟩ :: kws) (dCons δ δs) := by
  obtain ⟨t, h1, s1⟩ := ha.ex
  obtain ⟨u, h2, s2⟩ := hr.ex
  refine ⟨_, mk _ _ h1 h2, fun σ H τ ds k Q j s h xo q => s1 σ H τ ds _ _ j s h xo fun v τ1 H1 d e1 j1 r1 k1 => ?_⟩
  exact s2 σ H1 τ1 ds _ _ j1 (s.ext e1) k1 (xo.ext e1) fun vs τ' H' es e j' r hk => q (v :: vs) τ' H' (d :: es) (e1.trans e) j' ⟨v, vs, rfl, r1.ext e, r⟩ hk
def dCallK (n : Nat) (sp : SpD) (gD : List D → List D → List D) (KE : XD) (δs δk : DA) : DE := fun τ ds k => δs τ ds fun τ1 xs => δk τ1 ds fun τ2 zs => (gD xs zs).length = n ∧ sp τ2 (gD xs zs) k KE
/-! ### statements -/
structure EndsD where
  nx : TD → Sl → Prop
  rt : DK
  bk : TD → Sl → Prop := fun _ _ => False
  ct : TD → Sl → Prop := fun _ _ => False
abbrev DS := EndsD → TD → Sl → Prop
structure EOk (K : PySem.W.Frag) (T : List (Addr × Str)) (F : EndsD) (D' : Ends) (τ : TD) (H : Hp) : Prop where
  nx : ∀ τ' H' ds' σ', Ext τ H τ' H' → J K T τ' H' → SR K τ' H' ds' σ' → F.nx τ' ds' → D'.nx σ' H'
  bk : ∀ τ' H' ds' σ', Ext τ H τ' H' → J K T τ' H' → SR K τ' H' ds' σ' → F.bk τ' ds' → D'.bk σ' H'
  ct : ∀ τ' H' ds' σ', Ext τ H τ' H' → J K T τ' H' → SR K τ' H' ds' σ' → F.ct τ' ds' → D'.ct σ' H'
  rt : ∀ τ' H' d v, Ext τ H τ' H' → J K T τ' H' → DR K τ' H' d v → F.rt τ' d → D'.rt v H'
theorem EOk.ext {K : PySem.W.Frag} {F : EndsD} {D' : Ends} {τ τ' : TD} {H H' : Hp} (h : EOk K T F D' τ H) (e : Ext τ H τ' H') : EOk K T F D' τ' H' :=
  ⟨fun τ2 H2 ds σ e2 => h.nx τ2 H2 ds σ (e.trans e2), fun τ2 H2 ds σ e2 => h.bk τ2 H2 ds σ (e.trans e2), fun τ2 H2 ds σ e2 => h.ct τ2 H2 ds σ (e.trans e2), fun τ2 H2 d v e2 => h.rt τ2 H2 d v (e.trans e2)⟩
def SndS (K : PySem.W.Frag) (T : List (Addr × Str)) (E : XK) (KE : XD) (t : TS) (δ : DS) : Prop :=
  ∀ σ H τ ds (F : EndsD) (D' : Ends), J K T τ H → SR K τ H ds σ → δ F τ ds → XOk K T E KE τ H → EOk K T F D' τ H → t D' σ H
structure PDS (T : List (Addr × Str)) (X : Cx) (E : XK) (KE : XD) (st : Stmt) (δ : DS) : Prop where
  ex : ∃ t, PS X st t ∧ SndS X.K T E KE t δ
structure PDSs (T : List (Addr × Str)) (X : Cx) (E : XK) (KE : XD) (st : List Stmt) (δ : DS) : Prop where
  ex : ∃ t, PSs X st t ∧ SndS X.K T E KE t δ
variable {st : Stmt} {rest : List Stmt} {ε ζ : DS}
def dNext : DS := fun F τ ds => F.nx τ ds
def dBrk : DS := fun F τ ds => F.bk τ ds
def dCnt : DS := fun F τ ds => F.ct τ ds
def dNever : DS := fun _ _ _ => False
def dSeq (ε ζ : DS) : DS := fun F τ ds => ε { F with nx := ζ F } τ ds
theorem pdss_nil : PDSs T X E KE [] dNext := ⟨_, pss_nil, fun σ H τ ds F D' j s h xo eo => eo.nx τ H ds σ (Ext.refl _ _) j s h⟩
theorem pdss_cons (h1 : PDS T X E KE st ε) (h2 : PDSs T X E KE rest ζ) : PDSs T X E KE (st :: rest) (dSeq ε ζ) := by
  obtain ⟨t, p1, s1⟩ := h1.ex
  obtain ⟨u, p2, s2⟩ := h2.ex
  refine ⟨_, pss_cons p1 p2, fun σ H τ ds F D' j s h xo eo => ?_⟩
  refine s1 σ H τ ds { F with nx := ζ F } { D' with nx := u D' } j s h xo ⟨fun τ' H' ds' σ' e j' s' h' => ?_, eo.bk, eo.ct, eo.rt⟩
  exact s2 σ' H' τ' ds' F D' j' s' h' (xo.ext e) (eo.ext e)
theorem pdss_one (h1 : PDS T X E KE st ε) : PDSs T X E KE [st] ε := by
  obtain ⟨t, p1, s1⟩ := h1.ex
  exact ⟨_, pss_one p1, s1⟩
theorem pdss_never {sts : List Stmt} : PDSs T X E KE sts dNever := ⟨_, pss_never, fun σ H τ ds F D' j s h xo eo => h.elim⟩
theorem pds_never : PDS T X E KE st dNever := ⟨_, ps_never, fun σ H τ ds F D' j s h xo eo => h.elim⟩
theorem pds_pass : PDS T X E KE (.Pass pos) dNext := ⟨_, ps_pass, fun σ H τ ds F D' j s h xo eo => eo.nx τ H ds σ (Ext.refl _ _) j s h⟩
theorem pds_brk : PDS T X E KE (.Break pos) dBrk := ⟨_, ps_break, fun σ H τ ds F D' j s h xo eo => eo.bk τ H ds σ (Ext.refl _ _) j s h⟩
theorem pds_cont : PDS T X E KE (.Continue pos) dCnt := ⟨_, ps_continue, fun σ H τ ds F D' j s h xo eo => eo.ct τ H ds σ (Ext.refl _ _) j s h⟩
def dDrop (δ : DE) : DS := fun F τ ds => δ τ ds fun τ1 _ => F.nx τ1 ds
theorem pds_expr (he : PD T X E KE e δ) (hs : swapsWith e none pos.line X.env = pure false := by rfl) : PDS T X E KE (.Expr e pos) (dDrop δ) := by
  obtain ⟨t, h1, s1⟩ := he.ex
  exact ⟨_, ps_expr h1 hs, fun σ H τ ds F D' j s h xo eo => s1 σ H τ ds _ _ j s h xo fun v τ' H' d e' j' r k => eo.nx τ' H' ds σ e' j' (s.ext e') k⟩
def dRet (δ : DE) : DS := fun F τ ds => δ τ ds F.rt
theorem pds_ret (he : PD T X E KE e δ) : PDS T X E KE (.Return (some e) pos) (dRet δ) := by
  obtain ⟨t, h1, s1⟩ := he.ex
  exact ⟨_, ps_ret h1, fun σ H τ ds F D' j s h xo eo => s1 σ H τ ds _ _ j s h xo fun v τ' H' d e' j' r k => eo.rt τ' H' d v e' j' r k⟩
def dRetN : DS := fun F τ _ => F.rt τ .non
theorem pds_retN : PDS T X E KE (.Return none pos) dRetN := ⟨_, ps_retN, fun σ H τ ds F D' j s h xo eo => eo.rt τ H .non .non (Ext.refl _ _) j rfl h⟩
def dIfS (η : DT) (ε ζ : DS) : DS := fun F τ ds => η τ ds fun τ1 b => if b = true then ε F τ1 ds else ζ F τ1 ds
theorem pds_if {a' b' : List Stmt} {η : DT} (hc : PDT T X E KE c η) (ha : PDSs T X E KE a' ε) (hb : PDSs T X E KE b' ζ) : PDS T X E KE (.If c a' b' pos) (dIfS η ε ζ) := by
  obtain ⟨tc, h0, s0⟩ := hc.ex
  obtain ⟨ta, h1, s1⟩ := ha.ex
  obtain ⟨tb, h2, s2⟩ := hb.ex
  refine ⟨_, ps_if h0 h1 h2, fun σ H τ ds F D' j s h xo eo => s0 σ H τ ds _ _ j s h xo fun d τ1 H1 e1 j1 k1 => ?_⟩
  cases d with
  | true => exact s1 σ H1 τ1 ds F D' j1 (s.ext e1) k1 (xo.ext e1) (eo.ext e1)
  | false => exact s2 σ H1 τ1 ds F D' j1 (s.ext e1) k1 (xo.ext e1) (eo.ext e1)
/-! targets -/
abbrev DG := D → TD → Sl → (TD → Sl → Prop) → Prop
abbrev DGs := List D → TD → Sl → (TD → Sl → Prop) → Prop
def SndG (K : PySem.W.Frag) (T : List (Addr × Str)) (E : XK) (KE : XD) (g : TG) (γ : DG) : Prop :=
  ∀ v σ H τ ds d (k : TD → Sl → Prop) (Q : L2.St → Hp → Prop), J K T τ H → SR K τ H ds σ → DR K τ H d v → γ d τ ds k → XOk K T E KE τ H → (∀ σ' H' τ' ds', Ext τ H τ' H' → J K T τ' H' → SR K τ' H' ds' σ' → k τ' ds' → Q σ' H') → g v σ H Q
def SndGs (K : PySem.W.Frag) (T : List (Addr × Str)) (E : XK) (KE : XD) (g : TGs) (γ : DGs) : Prop :=
  ∀ vs σ H τ ds es (k : TD → Sl → Prop) (Q : L2.St → Hp → Prop), J K T τ H → SR K τ H ds σ → DRs K τ H es vs → γ es τ ds k → XOk K T E KE τ H → (∀ σ' H' τ' ds', Ext τ H τ' H' → J K T τ' H' → SR K τ' H' ds' σ' → k τ' ds' → Q σ' H') → g vs σ H Q
/-- it stores in the slots vs alone -/
def WipG (ws : List Nat) (g : TG) : Prop := ∀ v σ σ0 H Q, wipe σ ws = σ0 → g v σ H Q → g v σ H fun σ2 H2 => wipe σ2 ws = σ0 ∧ Q σ2 H2
def WipGs (ws : List Nat) (g : TGs) : Prop := ∀ vs σ σ0 H Q, wipe σ ws = σ0 → g vs σ H Q → g vs σ H fun σ2 H2 => wipe σ2 ws = σ0 ∧ Q σ2 H2
structure PDG (T : List (Addr × Str)) (X : Cx) (E : XK) (KE : XD) (tg : Expr) (γ : DG) : Prop where
  ex : ∃ g, PG X tg g ∧ SndG X.K T E KE g γ
structure PDGs (T : List (Addr × Str)) (X : Cx) (E : XK) (KE : XD) (tg : List Expr) (γ : DGs) : Prop where
  ex : ∃ g, PGs X tg g ∧ SndGs X.K T E KE g γ
structure PDN (T : List (Addr × Str)) (X : Cx) (ws : List Nat) (tg : Expr) (γ : DG) : Prop where
  ex : ∃ g, PG X tg g ∧ (∀ E KE, SndG X.K T E KE g γ) ∧ WipG ws g
structure PDNs (T : List (Addr × Str)) (X : Cx) (ws : List Nat) (tg : List Expr) (γ : DGs) : Prop where
  ex : ∃ g, PGs X tg g ∧ (∀ E KE, SndGs X.K T E KE g γ) ∧ WipGs ws g
def γName (i : Nat) : DG := fun d τ ds k => k τ (ds.set i (some d))
def γNil : DGs := fun es τ ds k => match es with
  | [] => k τ ds
  | _ => False
def γCons (γ : DG) (γs : DGs) : DGs := fun es τ ds k => match es with
  | [] => False
  | d :: es => γ d τ ds fun τ1 ds1 => γs es τ1 ds1 k
def γTup (n : Nat) (γs : DGs) : DG := fun d τ ds k => match d with
  | .tup es => es.length = n ∧ γs es τ ds k
  | _ => False
theorem wipe_get {σ : L2.St} {i : Nat} : ∀ {ws : List Nat}, (wipe σ ws)[i]? = if i ∈ ws ∧ i < σ.length then some none else σ[i]?
  | [] => by simp [wipe]
  | w :: ws => by
    unfold wipe
    by_cases h : i = w
    · subst h
      by_cases hl : i < σ.length
      · rw [List.getElem?_set_self (by rw [wipe_length]; exact hl)]
        simp [hl]
      · rw [List.getElem?_eq_none (by simp [wipe_length]; omega)]
        have : σ[i]? = none := List.getElem?_eq_none (by omega)
        simp [hl, this]
    · rw [List.getElem?_set_ne (Ne.symm h), wipe_get]
      simp [h]
theorem wipe_set {σ : L2.St} {i : Nat} {x : Option V} {ws : List Nat} (h : i ∈ ws) : wipe (σ.set i x) ws = wipe σ ws := by
  refine List.ext_getElem? fun j => ?_
  rw [wipe_get, wipe_get]
  by_cases hj : j ∈ ws ∧ j < σ.length
  · rw [if_pos hj, if_pos (by simpa using hj)]
  · rw [if_neg hj, if_neg (by simpa using hj)]
    by_cases hi : j = i
    · subst hi
      have hl : ¬ j < σ.length := fun z => hj ⟨h, z⟩
      rw [List.getElem?_eq_none (by simp; omega), List.getElem?_eq_none (by omega)]
    · rw [List.getElem?_set_ne (Ne.symm hi)]
theorem sndName {K : PySem.W.Frag} {i : Nat} {E : XK} {KE : XD} : SndG K T E KE (gName i) (γName i) := fun v σ H τ ds d k Q j s r h xo q => q _ H τ _ (Ext.refl _ _) j (s.set i r) h
theorem wipName {i : Nat} {ws : List Nat} (h : i ∈ ws) : WipG ws (gName i) := fun v σ σ0 H Q e q => ⟨by rw [← e]; exact wipe_set h, q⟩
theorem sndGNil {K : PySem.W.Frag} {E : XK} {KE : XD} : SndGs K T E KE gNil γNil := fun vs σ H τ ds es k Q j s r h xo q => by
  cases es with
  | nil =>
    have e : vs = [] := r
    exact ⟨e, q σ H τ ds (Ext.refl _ _) j s h⟩
  | cons d es => exact h.elim
theorem sndGCons {K : PySem.W.Frag} {E : XK} {KE : XD} {g : TG} {u : TGs} {γ : DG} {γs : DGs} (h1 : SndG K T E KE g γ) (h2 : SndGs K T E KE u γs) : SndGs K T E KE (gCons g u) (γCons γ γs) := fun vs σ H τ ds es k Q j s r h xo q => by
  cases es with
  | nil => exact h.elim
  | cons d es =>
    obtain ⟨v, vr, e, r1, r2⟩ := r
    refine ⟨v, vr, e, h1 v σ H τ ds d _ _ j s r1 h xo fun σ' H' τ' ds' e' j' s' k' => ?_⟩
    exact h2 vr σ' H' τ' ds' es k Q j' s' (r2.ext e') k' (xo.ext e') fun σ2 H2 τ2 ds2 e2 j2 s2 k2 => q σ2 H2 τ2 ds2 (e'.trans e2) j2 s2 k2
theorem sndGTup {K : PySem.W.Frag} {E : XK} {KE : XD} {n : Nat} {u : TGs} {γs : DGs} (h : SndGs K T E KE u γs) : SndG K T E KE (gTup K n u) (γTup n γs) := fun v σ H τ ds d k Q j s r h' xo q => by
  cases d with
  | tup es =>
    obtain ⟨a, xs, e, t, r2⟩ := r
    exact ⟨a, xs, e, t.sq, r2.length.trans h'.1, h xs σ H τ ds es k Q j s r2 h'.2 xo q⟩
  | _ => exact h'.elim
theorem wipGNil {ws : List Nat} : WipGs ws gNil := fun vs σ σ0 H Q e q => ⟨q.1, e, q.2⟩
theorem wipGCons {ws : List Nat} {g : TG} {u : TGs} (h1 : WipG ws g) (h2 : WipGs ws u) (mono : ∀ v σ H Q Q', (∀ a b, Q a b → Q' a b) → g v σ H Q → g v σ H Q') : WipGs ws (gCons g u) := fun vs σ σ0 H Q e q => by
  obtain ⟨v, r, ev, q⟩ := q
  exact ⟨v, r, ev, mono _ _ _ _ _ (fun σ2 H2 z => h2 r σ2 σ0 H2 Q z.1 z.2) (h1 v σ σ0 H _ e q)⟩
theorem wipGTup {ws : List Nat} {K : PySem.W.Frag} {n : Nat} {u : TGs} (h : WipGs ws u) : WipG ws (gTup K n u) := fun v σ σ0 H Q e q => by
  obtain ⟨a, xs, e1, e2, e3, q⟩ := q
  exact ⟨a, xs, e1, e2, e3, h xs σ σ0 H Q e q⟩
theorem pdg_name {i : Nat} {x : Str} (hN : X.N.Nodup) (hi : X.N[i]? = some x) (hx : Loc X.env.scope x) (hf : X.fn x = true ∨ X.env.scope.names.lookup x = some .local := by first | exact .inl rfl | exact .inr rfl | assumption) : PDG T X E KE (.Name x pos) (γName i) := ⟨_, pg_name hN hi hx hf, sndName⟩
theorem pdgs_nil : PDGs T X E KE [] γNil := ⟨_, pgs_nil, sndGNil⟩
theorem pdgs_cons {γ : DG} {γs : DGs} (h1 : PDG T X E KE e γ) (h2 : PDGs T X E KE es γs) (hs : (assignEach (e :: es) X.env).map (·.2) = assign e X.env :: (assignEach es X.env).map (·.2) := by rfl) : PDGs T X E KE (e :: es) (γCons γ γs) := by
  obtain ⟨g, p1, s1⟩ := h1.ex
  obtain ⟨u, p2, s2⟩ := h2.ex
  exact ⟨_, pgs_cons p1 p2 hs, sndGCons s1 s2⟩
theorem pdg_tup {k n : Nat} {γs : DGs} (hc : X.calm = true) (h : PDGs T X E KE es γs) (hn : (assignEach es X.env).length = n := by rfl) (hst : (assignEach es X.env).findIdx? (·.1) = none := by rfl) : PDG T X E KE (.Tuple es k pos) (γTup n γs) := by
  obtain ⟨u, p2, s2⟩ := h.ex
  exact ⟨_, pg_tup hc p2 hn hst, sndGTup s2⟩
theorem pdn_name {i : Nat} {x : Str} {ws : List Nat} (hN : X.N.Nodup) (hi : X.N[i]? = some x) (hx : Loc X.env.scope x) (hw : i ∈ ws) (hf : X.fn x = true ∨ X.env.scope.names.lookup x = some .local := by first | exact .inl rfl | exact .inr rfl | assumption) : PDN T X ws (.Name x pos) (γName i) := ⟨_, pg_name hN hi hx hf, fun _ _ => sndName, wipName hw⟩
/-- two names -/
theorem pdn_two {i j k : Nat} {x y : Str} {ws : List Nat} {p1 p2 : Pos} (hc : X.calm = true) (hN : X.N.Nodup) (hi : X.N[i]? = some x) (hj : X.N[j]? = some y) (hx : Loc X.env.scope x) (hy : Loc X.env.scope y) (hw : i ∈ ws) (hw2 : j ∈ ws)
    (hf : X.fn x = true ∨ X.env.scope.names.lookup x = some .local := by first | exact .inl rfl | exact .inr rfl | assumption) (hf2 : X.fn y = true ∨ X.env.scope.names.lookup y = some .local := by first | exact .inl rfl | exact .inr rfl | assumption)
    (hs1 : (assignEach [.Name x p1, .Name y p2] X.env).map (·.2) = assign (.Name x p1) X.env :: (assignEach [.Name y p2] X.env).map (·.2) := by rfl) (hs2 : (assignEach [.Name y p2] X.env).map (·.2) = assign (.Name y p2) X.env :: (assignEach [] X.env).map (·.2) := by rfl)
    (hn : (assignEach [.Name x p1, .Name y p2] X.env).length = 2 := by rfl) (hst : (assignEach [.Name x p1, .Name y p2] X.env).findIdx? (·.1) = none := by rfl) : PDN T X ws (.Tuple [.Name x p1, .Name y p2] k pos) (γTup 2 (γCons (γName i) (γCons (γName j) γNil))) :=
  ⟨_, pg_tup hc (pgs_cons (pg_name hN hi hx hf) (pgs_cons (pg_name hN hj hy hf2) pgs_nil hs2) hs1) hn hst, fun _ _ => sndGTup (sndGCons sndName (sndGCons sndName sndGNil)), wipGTup (wipGCons (wipName hw) (wipGCons (wipName hw2) wipGNil fun _ _ _ _ _ h q => h _ _ q) fun _ _ _ _ _ h q => h _ _ q)⟩
/-! o[i] = v -/
abbrev DSet := TD → D → D → D → (TD → Prop) → Prop
def RSet (K : PySem.W.Frag) (T : List (Addr × Str)) (t : TSet) (ς : DSet) : Prop := ∀ τ H x i y vx vi vy (k : TD → Prop) (Q : Hp → Prop), J K T τ H → DR K τ H x vx → DR K τ H i vi → DR K τ H y vy → ς τ x i y k → (∀ τ' H', Ext τ H τ' H' → J K T τ' H' → k τ' → Q H') → t vx vi vy H Q
def γSub (δo δi : DE) (ς : DSet) : DG := fun d τ ds k => δo τ ds fun τ1 x => δi τ1 ds fun τ2 i => ς τ2 x i d fun τ3 => k τ3 ds
theorem pdg_sub {i : Expr} {δi : DE} {t : TSet} {ς : DSet} (ho : PD T X E KE o δo) (hi : PD T X E KE i δi) (hs : PSet X t) (hr : RSet X.K T t ς)
    (ha : ∀ v, assign (.Subscript o i pos) X.env v = (do
      let ov ← holding [v] (eval o X.env)
      let iv ← holding [v, ov] (eval i X.env)
      standAt pos
      holding [v, ov, iv] (setItem ov iv v)
      release [v, ov, iv] []) := by intro _; rfl) : PDG T X E KE (.Subscript o i pos) (γSub δo δi ς) := by
  obtain ⟨to, p1, s1⟩ := ho.ex
  obtain ⟨ti, p2, s2⟩ := hi.ex
  refine ⟨_, pg_sub p1 p2 hs ha, fun v σ H τ ds d k Q j s r h xo q => s1 σ H τ ds _ _ j s h xo fun vx τ1 H1 x e1 j1 r1 k1 => ?_⟩
  refine s2 σ H1 τ1 ds _ _ j1 (s.ext e1) k1 (xo.ext e1) fun vi τ2 H2 y e2 j2 r2 k2 => ?_
  exact hr τ2 H2 x y d vx vi v _ _ j2 (r1.ext e2) r2 (r.ext (e1.trans e2)) k2 fun τ3 H3 e3 j3 k3 => q σ H3 τ3 ds ((e1.trans e2).trans e3) j3 (s.ext ((e1.trans e2).trans e3)) k3
/-! assignments -/
def dAsg (δ : DE) (γ : DG) : DS := fun F τ ds => δ τ ds fun τ1 d => γ d τ1 ds F.nx
theorem sndAsg {K : PySem.W.Frag} {te : TE} {g : TG} {γ : DG} (h1 : SndE K T E KE te δ) (h2 : SndG K T E KE g γ) : SndS K T E KE (tAsg te g) (dAsg δ γ) := fun σ H τ ds F D' j s h xo eo =>
  h1 σ H τ ds _ _ j s h xo fun v τ1 H1 d e1 j1 r1 k1 => h2 v σ H1 τ1 ds d F.nx _ j1 (s.ext e1) r1 k1 (xo.ext e1) fun σ' H' τ' ds' e' j' s' k' => eo.nx τ' H' ds' σ' (e1.trans e') j' s' k'
theorem pds_asg {tg : Expr} {γ : DG} (he : PD T X E KE e δ) (hg : PDG T X E KE tg γ) (hs : swapsWithSole [tg] e pos.line X.env = pure false := by rfl) (hw : swappedStores [tg] e X.env = pure none := by rfl)
    (h1 : (assignEach [tg] X.env).map (·.2) = [assign tg X.env] := by rfl) : PDS T X E KE (.Assign [tg] e pos) (dAsg δ γ) := by
  obtain ⟨t, p1, s1⟩ := he.ex
  obtain ⟨g, p2, s2⟩ := hg.ex
  exact ⟨_, ps_asg p1 p2 hs hw h1, sndAsg s1 s2⟩
theorem pds_set {i : Nat} {x : Str} {pos' : Pos} (hN : X.N.Nodup) (hi : X.N[i]? = some x) (hx : Loc X.env.scope x) (he : PD T X E KE e δ) (hs : swapsWith e (some (.Name x pos')) pos.line X.env = pure false := by rfl) (hf : X.fn x = true ∨ X.env.scope.names.lookup x = some .local := by first | exact .inl rfl | exact .inr rfl | assumption) :
    PDS T X E KE (.Assign [.Name x pos'] e pos) (dAsg δ (γName i)) := by
  obtain ⟨t, p1, s1⟩ := he.ex
  exact ⟨_, ps_set hN hi hx p1 hs hf, sndAsg s1 sndName⟩
def dPar (i j : Nat) (δs : DA) : DS := fun F τ ds => δs τ ds fun τ1 es => match es with
  | [x, y] => F.nx τ1 ((ds.set i (some x)).set j (some y))
  | _ => False
theorem pds_par {i j : Nat} {x y : Str} {px py pt : Pos} {kt k2 pt2} {δs : DA} (hc : X.calm = true) (hN : X.N.Nodup) (hi : X.N[i]? = some x) (hj : X.N[j]? = some y) (hij : i ≠ j)
    (hx : X.env.scope.names.lookup x = some .local) (hy : X.env.scope.names.lookup y = some .local) (ha : PDA T X E KE [a, b] δs)
    (hw : swappedStores [.Tuple [.Name x px, .Name y py] kt pt] (.Tuple [a, b] k2 pt2) X.env = pure (some [x, y]) := by rfl)
    (hs : swapsWithSole [.Tuple [.Name x px, .Name y py] kt pt] (.Tuple [a, b] k2 pt2) pos.line X.env = pure false := by rfl) :
    PDS T X E KE (.Assign [.Tuple [.Name x px, .Name y py] kt pt] (.Tuple [a, b] k2 pt2) pos) (dPar i j δs) := by
  obtain ⟨t, p1, s1⟩ := ha.ex
  refine ⟨_, ps_par hc hN hi hj hij hx hy p1 hw hs, fun σ H τ ds F D' j s h xo eo => s1 σ H τ ds _ _ j s h xo fun vs τ1 H1 es e1 j1 r1 k1 => ?_⟩
  match es, k1, r1 with
  | [x, y], k1, r1 =>
    obtain ⟨v, r, ev, h1, w, r', ew, h2, er⟩ := r1
    have er : r' = [] := er
    subst er ew ev
    exact ⟨v, w, rfl, eo.nx τ1 H1 _ _ e1 j1 (((s.ext e1).set _ h1).set _ h2) k1⟩
def RIok (K : PySem.W.Frag) (T : List (Addr × Str)) (r : TIp) (ρ : D2) : Prop := R2ok K T r ρ
def dAug (i : Nat) (δ : DE) (ρ : D2) : DS := fun F τ ds => match ds[i]? with
  | some (some x) => δ τ ds fun τ1 y => ρ τ1 x y fun τ2 z => F.nx τ2 (ds.set i (some z))
  | _ => False
theorem pds_aug {i : Nat} {x : Str} {op : Operator} {ti : TIp} {ρ : D2} {pos' : Pos} (hN : X.N.Nodup) (hi : X.N[i]? = some x) (hx : Loc X.env.scope x) (he : PD T X E KE e δ) (ho : PIp X op ti) (hr : R2ok X.K T ti ρ) (hf : X.fn x = true ∨ X.env.scope.names.lookup x = some .local := by first | exact .inl rfl | exact .inr rfl | assumption) :
    PDS T X E KE (.AugAssign (.Name x pos') op e pos) (dAug i δ ρ) := by
  obtain ⟨t, p1, s1⟩ := he.ex
  refine ⟨_, ps_aug hN hi hx p1 ho hf, fun σ H τ ds F D' j s h xo eo => ?_⟩
  unfold dAug at h
  split at h
  · rename_i d hd
    obtain ⟨v, h1, r0⟩ := s.at_ i d hd
    refine ⟨v, h1, s1 σ H τ ds _ _ j s h xo fun vy τ1 H1 y e1 j1 r1 k1 => ?_⟩
    exact hr τ1 H1 d y v vy _ _ j1 (r0.ext e1) r1 k1 fun z τ2 H2 dz e2 j2 r2 k2 => eo.nx τ2 H2 _ _ (e1.trans e2) j2 ((s.ext (e1.trans e2)).set i r2) k2
  · exact h.elim
end
end DL

set_option Elab.async false
set_option linter.all false
set_option maxRecDepth 100000
set_option maxHeartbeats 1000000
/-! The data layer, 3: what is walked, for, while, comprehensions, defs. -/
namespace DL
open PySem PySem.Spec PyProof.Rows L2
/-! ### what is walked -/
abbrev DI := TD → Sl → (TD → List D → Prop) → Prop
/-- an iterator that gives the items of xs, one by one, whatever happens to mutable objects -/
structure ItOk (K : PySem.W.Frag) (T : List (Addr × Str)) (I : It) (xs : List D) (τ : TD) (H : Hp) : Prop where
  ex : ∃ (G : Hp → Prop) (Y : Nat → Hp → V → Hp → Prop), Walk I xs.length G Y ∧ (∀ τ2 H2, Ext τ H τ2 H2 → G H2) ∧
    ∀ i τ2 H2 x H3, Ext τ H τ2 H2 → J K T τ2 H2 → Y i H2 x H3 → ∃ d, xs[i]? = some d ∧ Ext τ2 H2 τ2 H3 ∧ J K T τ2 H3 ∧ DR K τ2 H3 d x
def SndI (K : PySem.W.Frag) (T : List (Addr × Str)) (E : XK) (KE : XD) (wi : TI) (ι : DI) : Prop :=
  ∀ σ H τ ds (k : TD → List D → Prop) (R : It → Hp → Prop), J K T τ H → SR K τ H ds σ → ι τ ds k → XOk K T E KE τ H →
    (∀ I xs τ' H', Ext τ H τ' H' → J K T τ' H' → ItOk K T I xs τ' H' → k τ' xs → R I H') → wi σ H R
structure PDI (T : List (Addr × Str)) (X : Cx) (E : XK) (KE : XD) (tg iter : Expr) (ι : DI) : Prop where
  ex : ∃ wi, PI X tg iter wi ∧ SndI X.K T E KE wi ι
section
variable {T : List (Addr × Str)} {X : Cx} {E : XK} {KE : XD} {e a b c o tg iter : Expr} {es : List Expr} {pos : Pos} {δ δa δb δc δo : DE} {δs : DA}
/-- a list, a tuple, a text -/
def iSeq (K : PySem.W.Frag) (tl : TE) : TI := fun σ H R => tl σ H fun x H1 => (∃ a xs, x = .ref a ∧ SqL K H1 a xs ∧ R (Itl K a) H1) ∨ (∃ a xs, x = .ref a ∧ SqT K H1 a xs ∧ R (Itt K a) H1) ∨ ∃ z, x = .str z ∧ R (Its z) H1
theorem pi_seq {l : Expr} {tl : TE} (hl : PE X l tl) : PI X tg l (iSeq X.K tl) := by
  refine ⟨fun pins s σ H R I h => ?_⟩
  refine thn (hl.run pins s σ H _ I h) fun v s1 ⟨x, H1, I1, r1, q1⟩ => ?_
  rcases q1 with ⟨a, xs, e, hq, q⟩ | ⟨a, xs, e, hq, q⟩ | ⟨x, e, q⟩
  · subst e
    cases r1
    obtain ⟨its, rv, p, hz⟩ := I1.list hq
    refine wpAny_pyIter_list p.isList ?_
    refine ⟨s1.heap.objs.size, [s1.heap.objs.size], _, _, H1, rfl, I1.kept (t' := s1.toks) fun b o e => Heap.get?_push_of_some _ e, turn_list a _, ⟨_, Heap.get?_push_size _ rfl, rfl, rfl⟩, fun b hb => ?_, q⟩
    have e : b = s1.heap.objs.size := by simpa using hb
    subst e
    exact I1.fpOk (Nat.le_refl _) (I1.hok.fresh (Nat.le_refl _))
  · subst e
    cases r1
    obtain ⟨its, rv, p, hz⟩ := I1.tuple hq
    refine wpAny_pyIter_tuple (show s1.heap.IsTuple a its.toArray from p) ?_
    refine ⟨s1.heap.objs.size, [s1.heap.objs.size], _, _, H1, rfl, I1.kept (t' := s1.toks) fun b o e => Heap.get?_push_of_some _ e, turn_tuple a _, ⟨_, Heap.get?_push_size _ rfl, rfl, rfl⟩, fun b hb => ?_, q⟩
    have e : b = s1.heap.objs.size := by simpa using hb
    subst e
    exact I1.fpOk (Nat.le_refl _) (I1.hok.fresh (Nat.le_refl _))
  · subst e
    obtain ⟨t, rfl⟩ := r1
    cases ha : x.cps.all (· < 128)
    · exact wpAny_pyIter_wide ha (pi_one (tk := s1.toks) I1 _ (turn_str _ x t "str_iterator" (.inr rfl)) ⟨_, Heap.get?_push_size _ rfl, rfl, rfl⟩ q)
    · exact wpAny_pyIter_ascii ha (pi_one (tk := s1.toks) I1 _ (turn_str _ x t "str_ascii_iterator" (.inl rfl)) ⟨_, Heap.get?_push_size _ rfl, rfl, rfl⟩ q)
/-- the signs of a text -/
def signs (z : Str) : List D := z.cps.toList.map fun c => .str ⟨#[c]⟩
def ιSeq (δ : DE) : DI := fun τ ds k => δ τ ds fun τ1 x => match x with
  | .lst xs => k τ1 xs
  | .tup xs => k τ1 xs
  | .str z => k τ1 (signs z)
  | _ => False
theorem itl_ok {K : PySem.W.Frag} {a : Addr} {xs : List D} {vs : List V} {τ : TD} {H : Hp} (l : LstAt K τ H a vs) (r : DRs K τ H xs vs) : ItOk K T (Itl K a) xs τ H := by
  refine ⟨fun H => SqL K H a vs, YAt vs, by rw [← r.length]; exact walk_list, fun τ2 H2 e => (l.ext e).sq, fun i τ2 H2 x H3 e j y => ?_⟩
  obtain ⟨rfl, hy⟩ := y
  obtain ⟨d, h1, h2⟩ := (r.ext e).getV hy
  exact ⟨d, h1, .refl _ _, j, h2⟩
theorem itt_ok {K : PySem.W.Frag} {a : Addr} {xs : List D} {vs : List V} {τ : TD} {H : Hp} (l : TupAt K τ H a vs) (r : DRs K τ H xs vs) : ItOk K T (Itt K a) xs τ H := by
  refine ⟨fun H => SqT K H a vs, YAt vs, by rw [← r.length]; exact walk_tup, fun τ2 H2 e => (l.ext e).sq, fun i τ2 H2 x H3 e j y => ?_⟩
  obtain ⟨rfl, hy⟩ := y
  obtain ⟨d, h1, h2⟩ := (r.ext e).getV hy
  exact ⟨d, h1, .refl _ _, j, h2⟩
theorem its_ok {K : PySem.W.Frag} {z : Str} {τ : TD} {H : Hp} : ItOk K T (Its z) (signs z) τ H := by
  refine ⟨fun _ => True, fun i H v H' => H' = H ∧ ∃ c, z.cps[i]? = some c ∧ v = .str ⟨#[c]⟩, by unfold signs; rw [List.length_map, Array.length_toList]; exact walk_str, fun τ2 H2 e => trivial, fun i τ2 H2 x H3 e j y => ?_⟩
  obtain ⟨rfl, c, hc, rfl⟩ := y
  exact ⟨.str ⟨#[c]⟩, by simp [signs, hc], .refl _ _, j, rfl⟩
theorem pdi_seq (h : PD T X E KE e δ) : PDI T X E KE tg e (ιSeq δ) := by
  obtain ⟨t, p, s1⟩ := h.ex
  refine ⟨_, pi_seq p, fun σ H τ ds k R j s h xo q => s1 σ H τ ds _ _ j s h xo fun v τ1 H1 d e1 j1 r1 k1 => ?_⟩
  cases d with
  | lst xs =>
    obtain ⟨a, vs, ev, l, r⟩ := r1
    exact .inl ⟨a, vs, ev, l.sq, q _ xs τ1 H1 e1 j1 (itl_ok l r) k1⟩
  | tup xs =>
    obtain ⟨a, vs, ev, l, r⟩ := r1
    exact .inr (.inl ⟨a, vs, ev, l.sq, q _ xs τ1 H1 e1 j1 (itt_ok l r) k1⟩)
  | str z => exact .inr (.inr ⟨z, r1, q _ _ τ1 H1 e1 j1 its_ok k1⟩)
  | _ => exact k1.elim
def upto (lo : Int) (n : Nat) : List D := (List.range n).map fun (i : Nat) => .int (lo + (i : Int))
theorem itr_ok {K : PySem.W.Frag} {lo : Int} {n : Nat} {τ : TD} {H : Hp} : ItOk K T (Itr lo n) (upto lo n) τ H := by
  refine ⟨fun _ => True, fun i H x H' => i < n ∧ H' = H ∧ x = .int (lo + i), ?_, fun τ2 H2 e => trivial, fun i τ2 H2 x H3 e j y => ?_⟩
  · have w := (walk_range (lo := lo) (n := n)).mono (Y' := fun i H x H' => i < n ∧ H' = H ∧ x = .int (lo + i)) (fun _ h => h) fun i H x H' hi _ y => ⟨hi, y⟩
    have e : (upto lo n).length = n := by simp [upto]
    rw [e]; exact w
  · obtain ⟨hi, rfl, rfl⟩ := y
    exact ⟨.int (lo + i), by simp [upto, hi], .refl _ _, j, rfl⟩
def ιRng1 (δs : DA) : DI := fun τ ds k => δs τ ds fun τ1 xs => match xs with
  | [.int j] => (-(2 ^ 62) ≤ j ∧ j < 2 ^ 62) ∧ k τ1 (upto 0 j.toNat)
  | _ => False
def ιRng2 (δs : DA) : DI := fun τ ds k => δs τ ds fun τ1 xs => match xs with
  | [.int i, .int j] => (-(2 ^ 62) ≤ i ∧ i < 2 ^ 62 ∧ -(2 ^ 62) ≤ j ∧ j < 2 ^ 62) ∧ k τ1 (upto i (j - i).toNat)
  | _ => False
theorem pdi_range1 {p : Pos} (hg : Gl X "range") (hm : X.mg "range" = none) (ha : PDA T X E KE [a] δs) (hs : starEach [a] X.env = [(false, eval a X.env)] := by rfl) : PDI T X E KE tg (.Call (.Name "range" p) [a] [] pos) (ιRng1 δs) := by
  obtain ⟨t, p1, s1⟩ := ha.ex
  refine ⟨_, pi_range1 hg hm p1 hs, fun σ H τ ds k R j s h xo q => s1 σ H τ ds _ _ j s h xo fun vs τ1 H1 es e1 j1 r1 k1 => ?_⟩
  match es, k1, r1 with
  | [.int j], k1, r1 =>
    obtain ⟨v, r, e, h1, h2⟩ := r1
    have h1 : v = .int j := h1
    have h2 : r = [] := h2
    subst h1 h2 e
    exact ⟨j, rfl, k1.1.1, k1.1.2, q _ _ τ1 H1 e1 j1 itr_ok k1.2⟩
theorem pdi_range2 {p : Pos} (hg : Gl X "range") (hm : X.mg "range" = none) (ha : PDA T X E KE [a, b] δs) (hs : starEach [a, b] X.env = [(false, eval a X.env), (false, eval b X.env)] := by rfl) (hs2 : starEach [b] X.env = [(false, eval b X.env)] := by rfl) : PDI T X E KE tg (.Call (.Name "range" p) [a, b] [] pos) (ιRng2 δs) := by
  obtain ⟨t, p1, s1⟩ := ha.ex
  refine ⟨_, pi_range2 hg hm p1 hs hs2, fun σ H τ ds k R j s h xo q => s1 σ H τ ds _ _ j s h xo fun vs τ1 H1 es e1 j1 r1 k1 => ?_⟩
  match es, k1, r1 with
  | [.int i, .int j], k1, r1 =>
    obtain ⟨v, r, e, h1, w, r', e', h2, h3⟩ := r1
    have h1 : v = .int i := h1
    have h2 : w = .int j := h2
    have h3 : r' = [] := h3
    subst h1 h2 h3 e' e
    exact ⟨i, j, rfl, k1.1, q _ _ τ1 H1 e1 j1 itr_ok k1.2⟩
/-! ### for -/
def dLoop (γ : DG) (β : DS) (F : EndsD) : List D → TD → Sl → Prop
  | [] => F.nx
  | x :: xs => fun τ ds => γ x τ ds (β { F with nx := dLoop γ β F xs, ct := dLoop γ β F xs, bk := F.nx })
def dFor (ι : DI) (γ : DG) (β : DS) : DS := fun F τ ds => ι τ ds fun τ1 xs => dLoop γ β F xs τ1 ds
theorem pds_for {body : List Stmt} {ι : DI} {γ : DG} {β : DS} (hp : PassesOwn (model X.prog X.w) X.A X.env X.xe) (hc : X.calm = true) (hi : PDI T X E KE tg iter ι) (hg : PDG T X E KE tg γ) (hb : PDSs T X E KE body β)
    (hs : ∀ x, foldedSetIterable iter X.env x = pure x := by intro _; rfl) : PDS T X E KE (.For tg iter body [] pos) (dFor ι γ β) := by
  obtain ⟨wi, p1, s1⟩ := hi.ex
  obtain ⟨g, p2, s2⟩ := hg.ex
  obtain ⟨tb, p3, s3⟩ := hb.ex
  refine ⟨_, ps_for hp hc p1 p2 p3 hs, fun σ H τ ds F D' j s h xo eo => s1 σ H τ ds _ _ j s h xo fun I xs τ1 H1 e1 j1 io k1 => ?_⟩
  obtain ⟨G, Y, w, hG, hY⟩ := io.ex
  refine for_it w (fun i σ' H' => ∃ τ' ds', Ext τ1 H1 τ' H' ∧ J X.K T τ' H' ∧ SR X.K τ' H' ds' σ' ∧ dLoop γ β F (xs.drop i) τ' ds')
    ⟨τ1, ds, .refl _ _, j1, s.ext e1, k1⟩ (fun i σ' H' _ ⟨τ', ds', e', _⟩ => hG τ' H' e') ?_ ?_
  · rintro i x σ' H' H'' hi ⟨τ', ds', e', j', s', k'⟩ y
    obtain ⟨d, hd, e2, j2, r2⟩ := hY i τ' H' x H'' e' j' y
    have ed : xs.drop i = d :: xs.drop (i + 1) := by
      obtain ⟨hl, hx⟩ := List.getElem?_eq_some_iff.mp hd
      rw [← hx]; exact List.drop_eq_getElem_cons hl
    rw [ed] at k'
    refine s2 x σ' H'' τ' ds' d _ _ j2 (s'.ext e2) r2 k' (xo.ext ((e1.trans e').trans e2)) fun σ3 H3 τ3 ds3 e3 j3 s3' k3 => ?_
    have ee : Ext τ1 H1 τ3 H3 := (e'.trans e2).trans e3
    refine s3 σ3 H3 τ3 ds3 _ _ j3 s3' k3 (xo.ext (e1.trans ee)) ⟨fun τ4 H4 ds4 σ4 e4 j4 s4 k4 => ⟨τ4, ds4, ee.trans e4, j4, s4, k4⟩, fun τ4 H4 ds4 σ4 e4 j4 s4 k4 => ?_, fun τ4 H4 ds4 σ4 e4 j4 s4 k4 => ⟨τ4, ds4, ee.trans e4, j4, s4, k4⟩, fun τ4 H4 d4 v4 e4 j4 r4 k4 => ?_⟩
    · exact eo.nx τ4 H4 ds4 σ4 ((e1.trans ee).trans e4) j4 s4 k4
    · exact eo.rt τ4 H4 d4 v4 ((e1.trans ee).trans e4) j4 r4 k4
  · rintro σ' H' ⟨τ', ds', e', j', s', k'⟩
    rw [List.drop_length] at k'
    exact eo.nx τ' H' ds' σ' (e1.trans e') j' s' k'
/-! ### while -/
def dWhile (η : DT) (β : DS) : DS := fun F τ ds => ∃ W : Nat → TD → Sl → Prop, (∃ m, W m τ ds) ∧ ∀ m τ ds, W m τ ds →
  η τ ds fun τ1 b => if b = true then β { F with nx := fun τ' ds' => ∃ m', m' < m ∧ W m' τ' ds', ct := fun τ' ds' => ∃ m', m' < m ∧ W m' τ' ds', bk := F.nx } τ1 ds else F.nx τ1 ds
theorem pds_while {body : List Stmt} {η : DT} {β : DS} (hp : PassesOwn (model X.prog X.w) X.A X.env X.xe) (hc : PDT T X E KE c η) (hb : PDSs T X E KE body β) : PDS T X E KE (.While c body [] pos) (dWhile η β) := by
  obtain ⟨tc, p1, s1⟩ := hc.ex
  obtain ⟨tb, p2, s2⟩ := hb.ex
  refine ⟨_, ps_while hp p1 p2, fun σ H τ ds F D' j s h xo eo => ?_⟩
  obtain ⟨W, ⟨m0, w0⟩, step⟩ := h
  refine ⟨fun m σ' H' => ∃ τ' ds', Ext τ H τ' H' ∧ J X.K T τ' H' ∧ SR X.K τ' H' ds' σ' ∧ W m τ' ds', ⟨m0, τ, ds, .refl _ _, j, s, w0⟩, ?_⟩
  rintro m σ' H' ⟨τ', ds', e', j', s', w'⟩
  refine s1 σ' H' τ' ds' _ _ j' s' (step m τ' ds' w') (xo.ext e') fun b τ1 H1 e1 j1 k1 => ?_
  cases b with
  | false =>
    rw [if_neg Bool.false_ne_true] at k1 ⊢
    exact eo.nx τ1 H1 ds' σ' (e'.trans e1) j1 (s'.ext e1) k1
  | true =>
    rw [if_pos rfl] at k1 ⊢
    refine ⟨fun σ2 H2 => ∃ m', m' < m ∧ ∃ τ' ds', Ext τ H τ' H2 ∧ J X.K T τ' H2 ∧ SR X.K τ' H2 ds' σ2 ∧ W m' τ' ds', fun σ2 H2 n => n, ?_⟩
    have ee := e'.trans e1
    refine s2 σ' H1 τ1 ds' _ _ j1 (s'.ext e1) k1 (xo.ext ee) ⟨fun τ4 H4 ds4 σ4 e4 j4 s4 ⟨m', l, k4⟩ => ⟨m', l, τ4, ds4, ee.trans e4, j4, s4, k4⟩, fun τ4 H4 ds4 σ4 e4 j4 s4 k4 => ?_, fun τ4 H4 ds4 σ4 e4 j4 s4 ⟨m', l, k4⟩ => ⟨m', l, τ4, ds4, ee.trans e4, j4, s4, k4⟩, fun τ4 H4 d4 v4 e4 j4 r4 k4 => ?_⟩
    · exact eo.nx τ4 H4 ds4 σ4 (ee.trans e4) j4 s4 k4
    · exact eo.rt τ4 H4 d4 v4 (ee.trans e4) j4 r4 k4
/-! ### comprehensions -/
/-- one reading for a whole family of contexts -/
theorem uni {α : Type} {XX : α → Cx} {K : PySem.W.Frag} (hK : ∀ p, (XX p).K = K) (h : ∀ p, PD T (XX p) E KE e δ) : ∃ te, (∀ p, PE (XX p) e te) ∧ SndE K T E KE te δ := by
  have h' : ∀ p, ∃ t, PE (XX p) e t ∧ SndE K T E KE t δ := fun p => by
    have z := (h p).ex
    rw [hK p] at z
    exact z
  refine ⟨fun σ H Q => ∀ p, (h' p).choose σ H Q, fun p => ⟨fun pins s σ H Q I q => (h' p).choose_spec.1.run pins s σ H Q I (q p)⟩, fun σ H τ ds k Q j s hd xo q p => ?_⟩
  exact (h' p).choose_spec.2 σ H τ ds k Q j s hd xo q
theorem uniT {α : Type} {XX : α → Cx} {K : PySem.W.Frag} {ifs : List Expr} {η : DT} (hK : ∀ p, (XX p).K = K) (h : ∀ p, ∃ t, PTs (XX p) ifs t ∧ SndT (XX p).K T E KE t η) : ∃ te, (∀ p, PTs (XX p) ifs te) ∧ SndT K T E KE te η := by
  have h' : ∀ p, ∃ t, PTs (XX p) ifs t ∧ SndT K T E KE t η := fun p => by
    have z := h p
    rw [hK p] at z
    exact z
  refine ⟨fun σ H Q => ∀ p, (h' p).choose σ H Q, fun p => ⟨fun pins s σ H Q I q => (h' p).choose_spec.1.run pins s σ H Q I (q p)⟩, fun σ H τ ds k Q j s hd xo q p => ?_⟩
  exact (h' p).choose_spec.2 σ H τ ds k Q j s hd xo q
theorem uniN {α : Type} {XX : α → Cx} {K : PySem.W.Frag} {ws : List Nat} {γ : DG} (hK : ∀ p, (XX p).K = K) (h : ∀ p, PDN T (XX p) ws tg γ) : ∃ g, (∀ p, PG (XX p) tg g) ∧ (∀ E KE, SndG K T E KE g γ) ∧ WipG ws g := by
  have h' : ∀ p, ∃ g, PG (XX p) tg g ∧ (∀ E KE, SndG K T E KE g γ) ∧ WipG ws g := fun p => by
    have z := (h p).ex
    rw [hK p] at z
    exact z
  refine ⟨fun v σ H Q => ∀ p, (h' p).choose v σ H Q, fun p => ⟨fun pins s σ H v u Q I r q => (h' p).choose_spec.1.run pins s σ H v u Q I r (q p)⟩, fun E KE v σ H τ ds d k Q j s r hd xo q p => ?_, fun v σ σ0 H Q e q p => ?_⟩
  · exact (h' p).choose_spec.2.1 E KE v σ H τ ds d k Q j s r hd xo q
  · exact (h' p).choose_spec.2.2 v σ σ0 H Q e (q p)
structure PDTs (T : List (Addr × Str)) (X : Cx) (ifs : List Expr) (η : DT) : Prop where
  ex : ∃ t, PTs X ifs t ∧ SndT X.K T E0 X0 t η
def dYes : DT := fun τ _ k => k τ true
theorem pdts_nil : PDTs T X [] dYes := ⟨_, pts_nil, fun σ H τ ds k Q j s h xo q => q true τ H (Ext.refl _ _) j h⟩
theorem pdts_one {η : DT} (h : PDT T X E0 X0 c η) : PDTs T X [c] η := by
  obtain ⟨t, h1, s1⟩ := h.ex
  exact ⟨_, pts_one h1, s1⟩
def wipeD (ds : Sl) : List Nat → Sl
  | [] => ds
  | v :: vs => (wipeD ds vs).set v none
theorem SR.wipe {K : PySem.W.Frag} {τ : TD} {H : Hp} {ds : Sl} {σ : L2.St} (s : SR K τ H ds σ) : ∀ ws : List Nat, SR K τ H (wipeD ds ws) (L2.wipe σ ws)
  | [] => s
  | w :: ws => (s.wipe ws).drop w
/-- the list so far, at L, is acc; the rest is gone through -/
def dLcL (γ : DG) (η : DT) (δ : DE) (ws : List Nat) (ds : Sl) (L : Addr) (k : TD → List D → Prop) : List D → List D → TD → Prop
  | [], acc, τ => τ L = some (.lst acc) ∧ k τ acc
  | x :: xs, acc, τ => γ x τ (wipeD ds ws) fun τ1 ds1 => η τ1 ds1 fun τ2 b => if b = true then δ τ2 ds1 fun τ3 d => τ3 L = some (.lst acc) ∧ acc.length < sizeLine ∧ dLcL γ η δ ws ds L k xs (acc ++ [d]) (tset τ3 L (.lst (acc ++ [d]))) else dLcL γ η δ ws ds L k xs acc τ2
def dLc (ι : DI) (γ : DG) (η : DT) (δ : DE) (ws : List Nat) : DE := fun τ ds k => ι τ ds fun τ1 xs => ∀ L, τ1 L = none → dLcL γ η δ ws ds L (fun τ2 acc => k (tdel τ2 L) (.lst acc)) xs [] (tset τ1 L (.lst []))
/-- .. and it may be changed later -/
def dLcM (ι : DI) (γ : DG) (η : DT) (δ : DE) (ws : List Nat) : DE := fun τ ds k => ι τ ds fun τ1 xs => ∀ L, τ1 L = none → dLcL γ η δ ws ds L (fun τ2 acc => k τ2 (.ref L)) xs [] (tset τ1 L (.lst []))
theorem wipe_wipe {σ : L2.St} {ws : List Nat} : wipe (wipe σ ws) ws = wipe σ ws := by
  refine List.ext_getElem? fun j => ?_
  rw [wipe_get, wipe_get, wipe_length]
  split <;> rfl
theorem sub_del {τ : TD} {a : Addr} : Sub (tdel τ a) τ := fun b u e => by
  have : b ≠ a := fun z => by rw [z, tdel_same] at e; cases e
  rw [tdel_ne this] at e; exact e
theorem tset_tset {τ : TD} {a : Addr} {o u : DO} : tset (tset τ a o) a u = tset τ a u := by
  funext b; unfold tset; split <;> rfl
theorem tset_del {τ : TD} {a : Addr} {o : DO} (h : τ a = none) : tdel (tset τ a o) a = τ := by
  funext b; unfold tdel
  split
  · rename_i z; rw [z, h]
  · rename_i z; exact tset_ne z
theorem sub_tset {τ : TD} {a : Addr} {o : DO} (h : τ a = none) : Sub τ (tset τ a o) := fun b u e => by
  have : b ≠ a := fun z => by rw [z, h] at e; cases e
  rw [tset_ne this]; exact e
section
variable {ifs : List Expr} {scope : Scope} {own : List (Str × Nat)} {ι : DI} {γ : DG} {η : DT}
/-- the loop of a comprehension -/
theorem snd_lc {K : PySem.W.Frag} {wi : TI} {g : TG} {tt : TT} {te : TE} {ws : List Nat} (kk : Addr → DK → TD → List D → Prop)
    (hk : ∀ L (k : DK) τ H acc (Q : VK), J K T τ H → τ L = some (.lst acc) → kk L k τ acc → (∀ v τ' d, Ext τ H τ' H → J K T τ' H → DR K τ' H d v → k τ' d → Q v H) → Q (.ref L) H)
    (s1 : SndI K T E KE wi ι) (s2 : ∀ E KE, SndG K T E KE g γ) (hw : WipG ws g) (s3 : SndT K T E0 X0 tt η) (s4 : SndE K T E0 X0 te δ) :
    SndE K T E KE (tLc wi g tt te ws) (fun τ ds k => ι τ ds fun τ1 xs => ∀ L, τ1 L = none → dLcL γ η δ ws ds L (kk L k) xs [] (tset τ1 L (.lst []))) := by
  intro σ H τ ds k Q j s h xo q
  refine s1 σ H τ ds _ _ j s h xo fun I xs τ1 H1 e1 j1 io k1 L hL => ?_
  obtain ⟨G, Y, w, hG, hY⟩ := io.ex
  have nL := j1.free hL
  have x0 : ∀ τ H, XOk K T E0 X0 τ H := fun _ _ _ _ _ _ _ _ _ _ _ _ _ z => z.elim
  have eN : Ext τ1 H1 (tset τ1 L (.lst [])) (upd H1 L (.lst [])) := .newM hL
  refine lc_it w (fun i H' => ∃ τ' acc, Ext τ1 H1 τ' H' ∧ J K T τ' H' ∧ dLcL γ η δ ws ds L (kk L k) (xs.drop i) acc τ') ⟨_, [], eN, j1.newM hL ⟨[], upd_same, rfl⟩, k1 L nL⟩ (fun i H' _ ⟨τ', acc, e', _⟩ => hG τ' H' e') ?_ ?_
  · rintro i x H' H'' hi ⟨τ', acc, e', j', k'⟩ y
    obtain ⟨d, hd, e2, j2, r2⟩ := hY i τ' H' x H'' e' j' y
    have ed : xs.drop i = d :: xs.drop (i + 1) := by
      obtain ⟨hl, hx⟩ := List.getElem?_eq_some_iff.mp hd
      rw [← hx]; exact List.drop_eq_getElem_cons hl
    rw [ed] at k'
    have ee := (e1.trans e').trans e2
    refine hw x (wipe σ ws) (wipe σ ws) H'' _ wipe_wipe ?_
    refine s2 E0 X0 x (wipe σ ws) H'' τ' (wipeD ds ws) d _ _ j2 ((s.ext ee).wipe ws) r2 k' (x0 _ _) fun σ3 H3 τ3 ds3 e3 j3 s3' k3 => ?_
    refine s3 σ3 H3 τ3 ds3 _ _ j3 s3' k3 (x0 _ _) fun b τ4 H4 e4 j4 k4 => ?_
    have e34 := ((e'.trans e2).trans e3).trans e4
    cases b with
    | false =>
      rw [if_neg Bool.false_ne_true] at k4 ⊢
      exact ⟨τ4, acc, e34, j4, k4⟩
    | true =>
      rw [if_pos rfl] at k4 ⊢
      refine s4 σ3 H4 τ4 ds3 _ _ j4 (s3'.ext e4) k4 (x0 _ _) fun v τ5 H5 d5 e5 j5 r5 k5 => ?_
      obtain ⟨hT, hz, k5⟩ := k5
      obtain ⟨vs, hv, rv⟩ := j5.obj L _ hT
      have ec : Ext τ5 H5 (tset τ5 L (.lst (acc ++ [d5]))) (upd H5 L (.lst (vs ++ [v]))) := .chg hT
      exact ⟨vs, hv, by rw [rv.length]; exact hz, _, acc ++ [d5], (e34.trans e5).trans ec, j5.chg hT ⟨_, upd_same, (rv.ext ec).append (.one (r5.ext ec))⟩, k5⟩
  · rintro H' ⟨τ', acc, e', j', k'⟩
    rw [List.drop_length] at k'
    exact hk L k τ' H' acc Q j' k'.1 k'.2 fun v τ2 d e2 j2 r2 k2 => q v τ2 H' d ((e1.trans e').trans e2) j2 r2 k2
theorem del_ext {τ : TD} {H : Hp} {L : Addr} : Ext τ H (tdel τ L) H := ⟨fun _ _ h _ _ => h, fun a o h t _ => sub_del.none t⟩
theorem frz_one {K : PySem.W.Frag} {τ : TD} {H : Hp} {L : Addr} {acc : List D} (j : J K T τ H) (h : τ L = some (.lst acc)) : DR K (tdel τ L) H (.lst acc) (.ref L) := by
  obtain ⟨vs, hv, rv⟩ := j.obj L _ h
  exact ⟨L, vs, rfl, .inl ⟨.of hv, tdel_same⟩, rv.sub fun _ => sub_del.none⟩
theorem pd_lc (hc : X.calm = true) (hN : X.N.Nodup) (hi : PDI T X E KE tg iter ι) (ok : BlkOk X.N X.env.scope scope own)
    (hg : ∀ (s : Shared) (H : Hp) (C : Addr) (cl : List (Str × Addr)) (fp : List Addr), PDN T (X.blk s H scope (compEnvC scope cl C X.env) fp) (own.map (·.2)) tg γ) (ht : ∀ (s : Shared) (H : Hp) (C : Addr) (cl : List (Str × Addr)) (fp : List Addr), PDTs T (X.blk s H scope (compEnvC scope cl C X.env) fp) ifs η)
    (he : ∀ (s : Shared) (H : Hp) (C : Addr) (cl : List (Str × Addr)) (fp : List Addr), PD T (X.blk s H scope (compEnvC scope cl C X.env) fp) E0 X0 e δ) (hs : ∀ x, foldedSetIterable iter X.env x = pure x := by intro _; rfl) :
    PD T X E KE (.ListComp e [⟨tg, iter, ifs, 0⟩] scope pos) (dLc ι γ η δ (own.map (·.2))) := by
  obtain ⟨wi, p1, s1⟩ := hi.ex
  obtain ⟨g, p2, s2, hw⟩ := uniN (α := Shared × Hp × Addr × List (Str × Addr) × List Addr) (XX := fun p => X.blk p.1 p.2.1 scope (compEnvC scope p.2.2.2.1 p.2.2.1 X.env) p.2.2.2.2) (K := X.K) (fun _ => rfl) fun p => hg _ _ _ _ _
  obtain ⟨tt, p3, s3⟩ := uniT (α := Shared × Hp × Addr × List (Str × Addr) × List Addr) (XX := fun p => X.blk p.1 p.2.1 scope (compEnvC scope p.2.2.2.1 p.2.2.1 X.env) p.2.2.2.2) (K := X.K) (fun _ => rfl) fun p => (ht _ _ _ _ _).ex
  obtain ⟨te, p4, s4⟩ := uni (α := Shared × Hp × Addr × List (Str × Addr) × List Addr) (XX := fun p => X.blk p.1 p.2.1 scope (compEnvC scope p.2.2.2.1 p.2.2.1 X.env) p.2.2.2.2) (K := X.K) (fun _ => rfl) fun p => he _ _ _ _ _
  refine ⟨_, pe_lc hc hN p1 ok (fun s H C cl fp => p2 (s, H, C, cl, fp)) (fun s H C cl fp => p3 (s, H, C, cl, fp)) (fun s H C cl fp => p4 (s, H, C, cl, fp)) hs, ?_⟩
  refine snd_lc (fun L k τ acc => k (tdel τ L) (.lst acc)) (fun L k τ H acc Q j hT k' q => ?_) s1 s2 hw s3 s4
  exact q (.ref L) (tdel τ L) (.lst acc) del_ext (j.sub sub_del) (frz_one j hT) k'
theorem pd_lcM (hc : X.calm = true) (hN : X.N.Nodup) (hi : PDI T X E KE tg iter ι) (ok : BlkOk X.N X.env.scope scope own)
    (hg : ∀ (s : Shared) (H : Hp) (C : Addr) (cl : List (Str × Addr)) (fp : List Addr), PDN T (X.blk s H scope (compEnvC scope cl C X.env) fp) (own.map (·.2)) tg γ) (ht : ∀ (s : Shared) (H : Hp) (C : Addr) (cl : List (Str × Addr)) (fp : List Addr), PDTs T (X.blk s H scope (compEnvC scope cl C X.env) fp) ifs η)
    (he : ∀ (s : Shared) (H : Hp) (C : Addr) (cl : List (Str × Addr)) (fp : List Addr), PD T (X.blk s H scope (compEnvC scope cl C X.env) fp) E0 X0 e δ) (hs : ∀ x, foldedSetIterable iter X.env x = pure x := by intro _; rfl) :
    PD T X E KE (.ListComp e [⟨tg, iter, ifs, 0⟩] scope pos) (dLcM ι γ η δ (own.map (·.2))) := by
  obtain ⟨wi, p1, s1⟩ := hi.ex
  obtain ⟨g, p2, s2, hw⟩ := uniN (α := Shared × Hp × Addr × List (Str × Addr) × List Addr) (XX := fun p => X.blk p.1 p.2.1 scope (compEnvC scope p.2.2.2.1 p.2.2.1 X.env) p.2.2.2.2) (K := X.K) (fun _ => rfl) fun p => hg _ _ _ _ _
  obtain ⟨tt, p3, s3⟩ := uniT (α := Shared × Hp × Addr × List (Str × Addr) × List Addr) (XX := fun p => X.blk p.1 p.2.1 scope (compEnvC scope p.2.2.2.1 p.2.2.1 X.env) p.2.2.2.2) (K := X.K) (fun _ => rfl) fun p => (ht _ _ _ _ _).ex
  obtain ⟨te, p4, s4⟩ := uni (α := Shared × Hp × Addr × List (Str × Addr) × List Addr) (XX := fun p => X.blk p.1 p.2.1 scope (compEnvC scope p.2.2.2.1 p.2.2.1 X.env) p.2.2.2.2) (K := X.K) (fun _ => rfl) fun p => he _ _ _ _ _
  refine ⟨_, pe_lc hc hN p1 ok (fun s H C cl fp => p2 (s, H, C, cl, fp)) (fun s H C cl fp => p3 (s, H, C, cl, fp)) (fun s H C cl fp => p4 (s, H, C, cl, fp)) hs, ?_⟩
  refine snd_lc (fun L k τ acc => k τ (.ref L)) (fun L k τ H acc Q j hT k' q => ?_) s1 s2 hw s3 s4
  exact q (.ref L) τ (.ref L) (.refl _ _) j rfl k'
/-- y = [..] on one line -/
theorem pds_setLc {i : Nat} {y : Str} {py spos : Pos} (hc : X.calm = true) (hN : X.N.Nodup) (hy : X.N[i]? = some y) (hyl : X.env.scope.names.lookup y = some .local)
    (hsw : swapsWith (.ListComp e [⟨tg, iter, ifs, 0⟩] scope pos) (some (.Name y py)) spos.line X.env = pure true) (hi : PDI T X E KE tg iter ι) (ok : BlkOk X.N X.env.scope scope own)
    (hg : ∀ (s : Shared) (H : Hp) (C : Addr) (cl : List (Str × Addr)) (fp : List Addr), PDN T (X.blk s H scope (compEnvC scope cl C X.env) fp) (own.map (·.2)) tg γ) (ht : ∀ (s : Shared) (H : Hp) (C : Addr) (cl : List (Str × Addr)) (fp : List Addr), PDTs T (X.blk s H scope (compEnvC scope cl C X.env) fp) ifs η)
    (he : ∀ (s : Shared) (H : Hp) (C : Addr) (cl : List (Str × Addr)) (fp : List Addr), PD T (X.blk s H scope (compEnvC scope cl C X.env) fp) E0 X0 e δ) (hs : ∀ x, foldedSetIterable iter X.env x = pure x := by intro _; rfl) :
    PDS T X E KE (.Assign [.Name y py] (.ListComp e [⟨tg, iter, ifs, 0⟩] scope pos) spos) (dAsg (dLc ι γ η δ (own.map (·.2))) (γName i)) := by
  obtain ⟨wi, p1, s1⟩ := hi.ex
  obtain ⟨g, p2, s2, hw⟩ := uniN (α := Shared × Hp × Addr × List (Str × Addr) × List Addr) (XX := fun p => X.blk p.1 p.2.1 scope (compEnvC scope p.2.2.2.1 p.2.2.1 X.env) p.2.2.2.2) (K := X.K) (fun _ => rfl) fun p => hg _ _ _ _ _
  obtain ⟨tt, p3, s3⟩ := uniT (α := Shared × Hp × Addr × List (Str × Addr) × List Addr) (XX := fun p => X.blk p.1 p.2.1 scope (compEnvC scope p.2.2.2.1 p.2.2.1 X.env) p.2.2.2.2) (K := X.K) (fun _ => rfl) fun p => (ht _ _ _ _ _).ex
  obtain ⟨te, p4, s4⟩ := uni (α := Shared × Hp × Addr × List (Str × Addr) × List Addr) (XX := fun p => X.blk p.1 p.2.1 scope (compEnvC scope p.2.2.2.1 p.2.2.1 X.env) p.2.2.2.2) (K := X.K) (fun _ => rfl) fun p => he _ _ _ _ _
  refine ⟨_, ps_setLc hc hN hy hyl hsw p1 ok (fun s H C cl fp => p2 (s, H, C, cl, fp)) (fun s H C cl fp => p3 (s, H, C, cl, fp)) (fun s H C cl fp => p4 (s, H, C, cl, fp)) hs, ?_⟩
  refine sndAsg (snd_lc (fun L k τ acc => k (tdel τ L) (.lst acc)) (fun L k τ H acc Q j hT k' q => ?_) s1 s2 hw s3 s4) sndName
  exact q (.ref L) (tdel τ L) (.lst acc) del_ext (j.sub sub_del) (frz_one j hT) k'
theorem pds_setLcM {i : Nat} {y : Str} {py spos : Pos} (hc : X.calm = true) (hN : X.N.Nodup) (hy : X.N[i]? = some y) (hyl : X.env.scope.names.lookup y = some .local)
    (hsw : swapsWith (.ListComp e [⟨tg, iter, ifs, 0⟩] scope pos) (some (.Name y py)) spos.line X.env = pure true) (hi : PDI T X E KE tg iter ι) (ok : BlkOk X.N X.env.scope scope own)
    (hg : ∀ (s : Shared) (H : Hp) (C : Addr) (cl : List (Str × Addr)) (fp : List Addr), PDN T (X.blk s H scope (compEnvC scope cl C X.env) fp) (own.map (·.2)) tg γ) (ht : ∀ (s : Shared) (H : Hp) (C : Addr) (cl : List (Str × Addr)) (fp : List Addr), PDTs T (X.blk s H scope (compEnvC scope cl C X.env) fp) ifs η)
    (he : ∀ (s : Shared) (H : Hp) (C : Addr) (cl : List (Str × Addr)) (fp : List Addr), PD T (X.blk s H scope (compEnvC scope cl C X.env) fp) E0 X0 e δ) (hs : ∀ x, foldedSetIterable iter X.env x = pure x := by intro _; rfl) :
    PDS T X E KE (.Assign [.Name y py] (.ListComp e [⟨tg, iter, ifs, 0⟩] scope pos) spos) (dAsg (dLcM ι γ η δ (own.map (·.2))) (γName i)) := by
  obtain ⟨wi, p1, s1⟩ := hi.ex
  obtain ⟨g, p2, s2, hw⟩ := uniN (α := Shared × Hp × Addr × List (Str × Addr) × List Addr) (XX := fun p => X.blk p.1 p.2.1 scope (compEnvC scope p.2.2.2.1 p.2.2.1 X.env) p.2.2.2.2) (K := X.K) (fun _ => rfl) fun p => hg _ _ _ _ _
  obtain ⟨tt, p3, s3⟩ := uniT (α := Shared × Hp × Addr × List (Str × Addr) × List Addr) (XX := fun p => X.blk p.1 p.2.1 scope (compEnvC scope p.2.2.2.1 p.2.2.1 X.env) p.2.2.2.2) (K := X.K) (fun _ => rfl) fun p => (ht _ _ _ _ _).ex
  obtain ⟨te, p4, s4⟩ := uni (α := Shared × Hp × Addr × List (Str × Addr) × List Addr) (XX := fun p => X.blk p.1 p.2.1 scope (compEnvC scope p.2.2.2.1 p.2.2.1 X.env) p.2.2.2.2) (K := X.K) (fun _ => rfl) fun p => he _ _ _ _ _
  refine ⟨_, ps_setLc hc hN hy hyl hsw p1 ok (fun s H C cl fp => p2 (s, H, C, cl, fp)) (fun s H C cl fp => p3 (s, H, C, cl, fp)) (fun s H C cl fp => p4 (s, H, C, cl, fp)) hs, ?_⟩
  refine sndAsg (snd_lc (fun L k τ acc => k τ (.ref L)) (fun L k τ H acc Q j hT k' q => ?_) s1 s2 hw s3 s4) sndName
  exact q (.ref L) τ (.ref L) (.refl _ _) j rfl k'
end
end
/-! ### defs -/
/-! a value with mutable lists in it that become still -/
mutual
inductive Frz (τ' τ'' : TD) : D → D → Prop
  | same (d : D) : Frz τ' τ'' d d
  | lst {a : Addr} {xs ys : List D} : τ' a = some (.lst xs) → τ'' a = none → Frzs τ' τ'' xs ys → Frz τ' τ'' (.ref a) (.lst ys)
  | tup {xs ys : List D} : Frzs τ' τ'' xs ys → Frz τ' τ'' (.tup xs) (.tup ys)
  | lstL {xs ys : List D} : Frzs τ' τ'' xs ys → Frz τ' τ'' (.lst xs) (.lst ys)
inductive Frzs (τ' τ'' : TD) : List D → List D → Prop
  | nil : Frzs τ' τ'' [] []
  | cons {x y : D} {xs ys : List D} : Frz τ' τ'' x y → Frzs τ' τ'' xs ys → Frzs τ' τ'' (x :: xs) (y :: ys)
end
section
variable {K : PySem.W.Frag} {T : List (Addr × Str)} {τ' τ'' : TD} {H : Hp}
mutual
theorem Frz.ok (j : J K T τ' H) (s : Sub τ'' τ') : ∀ {d d' : D} {v : V}, Frz τ' τ'' d d' → DR K τ' H d v → DR K τ'' H d' v
  | _, _, _, .same d, r => r.sub fun _ => s.none
  | _, _, v, .lst (a := a) h1 h2 hs, r => by
    obtain ⟨vs, hv, rv⟩ := j.obj a _ h1
    exact ⟨a, vs, r, .inl ⟨.of hv, h2⟩, Frzs.ok j s hs rv⟩
  | _, _, v, .tup hs, r => by
    obtain ⟨a, xs, e, t, r⟩ := r
    exact ⟨a, xs, e, t.imp (fun z => ⟨z.1, s.none z.2⟩) id, Frzs.ok j s hs r⟩
  | _, _, v, .lstL hs, r => by
    obtain ⟨a, xs, e, t, r⟩ := r
    exact ⟨a, xs, e, t.imp (fun z => ⟨z.1, s.none z.2⟩) id, Frzs.ok j s hs r⟩
theorem Frzs.ok (j : J K T τ' H) (s : Sub τ'' τ') : ∀ {ds es : List D} {vs : List V}, Frzs τ' τ'' ds es → DRs K τ' H ds vs → DRs K τ'' H es vs
  | _, _, _, .nil, r => r
  | _, _, _, .cons h1 h2, r => by
    obtain ⟨v, w, e, r1, r2⟩ := r
    exact ⟨v, w, e, Frz.ok j s h1 r1, Frzs.ok j s h2 r2⟩
end
end
/-- what is wanted, behind what is thrown away and made still -/
def Fin (k : DK) : DK := fun τ' d => ∃ τ'' d', Sub τ'' τ' ∧ Frz τ' τ'' d d' ∧ k τ'' d'
theorem Fin.same {k : DK} {τ : TD} {d : D} (h : k τ d) : Fin k τ d := ⟨τ, d, .refl _, .same _, h⟩
def FinX (k : XD) : XD := fun τ' C f d => ∃ τ'' d', Sub τ'' τ' ∧ Frz τ' τ'' d d' ∧ k τ'' C f d'
theorem FinX.same {k : XD} {τ : TD} {C : Addr} {f : Str} {d : D} (h : k τ C f d) : FinX k τ C f d := ⟨τ, d, .refl _, .same _, h⟩
theorem XOk.fin {K : PySem.W.Frag} {T : List (Addr × Str)} {E : XK} {KE : XD} {τ : TD} {H : Hp} (h : XOk K T E KE τ H) : XOk K T E (FinX KE) τ H :=
  fun τ' H' C f d a v e j ha r ⟨τ'', d', s, z, q⟩ => h τ'' H' C f d' a v (e.sub s) (j.sub s) ha (z.ok j s r) q
def startD (n : Nat) (ds : List D) : Sl := ds.map some ++ List.replicate (n - ds.length) none
theorem sr_start {K : PySem.W.Frag} {τ : TD} {H : Hp} {N : List Str} {ds : List D} {vs : List V} (r : DRs K τ H ds vs) : SR K τ H (startD N.length ds) (L2.start N vs) := by
  have hl := r.length
  refine ⟨by simp [startD, L2.start, hl], fun i d z => ?_⟩
  unfold startD at z
  unfold L2.start
  by_cases hi : i < ds.length
  · rw [List.getElem?_append_left (by simpa using hi)] at z
    rw [List.getElem?_append_left (by simpa [hl] using hi)]
    rw [List.getElem?_map] at z
    cases e : ds[i]? with
    | none => rw [e] at z; cases z
    | some d' =>
      rw [e] at z
      have z : some d' = some d := Option.some.inj z
      cases z
      obtain ⟨v, h1, h2⟩ := r.get e
      exact ⟨v, by rw [List.getElem?_map, h1]; rfl, h2⟩
  · rw [List.getElem?_append_right (by simpa using hi)] at z
    rw [List.getElem?_replicate] at z
    split at z <;> cases z
section
variable {P : Program} {w : World} {K : PySem.W.Frag} {mg : Str → Option Value} {base : Heap} {T : List (Addr × Str)}
/-- THE RULE for a def: its body's reading, and that the promise gives it -/
theorem fnD_of {x qual : Str} {st : Stmt} {f : Addr} {fd : FuncData} {N ps : List Str} {k : Nat} {sp : SpD} (F : Fun K x qual st f fd) (S : FnScope N ps (defScope st))
    (h : ∀ KE : XD, ∃ δ : DS, (∀ (cdv : Value) (A : Around) (outer : List Env) (s : Shared) (H : Hp) (E : XK), Room k (A.deeper (envOfC qual (defScope st) s.heap.objs.size f cdv)) →
      PDSs T (cxOf (L2.CX P w) P w K mg base N qual (defScope st) f cdv A outer s H E) E (FinX KE) (defBody st) δ) ∧
      ∀ τ ds (q : DK), ds.length = ps.length → sp τ ds q KE → δ { nx := fun τ' _ => Fin q τ' .non, rt := Fin q } τ (startD N.length ds)) : FnD P w K mg base T (k + 1) f fd ps sp := by
  refine F.okX S (fun vs H Q E ⟨τ, ds, q, KE, j, r, hl, _⟩ => by rw [r.length, hl]) (fun cdv A outer s H vs Q E hr ⟨τ, ds, q, KE, j, r, hl, hsp, xo, hq⟩ => ?_)
  obtain ⟨δ, h1, h2⟩ := h KE
  obtain ⟨t, p, sd⟩ := (h1 cdv A outer s H E hr).ex
  refine ⟨t, p, sd _ H τ _ _ _ j (sr_start r) (h2 τ ds q hl hsp) xo.fin ⟨fun τ' H' ds' σ' e j' s' ⟨τ'', d', sb, z, k'⟩ => ?_, fun _ _ _ _ _ _ _ z => z.elim, fun _ _ _ _ _ _ _ z => z.elim, fun τ' H' d v e j' r' ⟨τ'', d', sb, z, k'⟩ => ?_⟩⟩
  · exact hq .non τ'' H' d' (e.sub sb) (j'.sub sb) (z.ok (v := .non) j' sb rfl) k'
  · exact hq v τ'' H' d' (e.sub sb) (j'.sub sb) (z.ok j' sb r') k'
end
end DL

set_option Elab.async false
set_option linter.all false
set_option maxRecDepth 100000
set_option maxHeartbeats 1000000
/-! The data layer, 4: operators, built-ins, methods. -/
namespace DL
open PySem PySem.Spec PyProof.Rows L2
/-- the list | list or tuple that a value is -/
def lstOf (τ : TD) : D → Option (List D)
  | .lst xs => some xs
  | .ref a => match τ a with
    | some (.lst xs) => some xs
    | _ => none
  | _ => none
def tupOf : D → Option (List D)
  | .tup xs => some xs
  | _ => none
section
variable {K : PySem.W.Frag} {T : List (Addr × Str)} {τ : TD} {H : Hp}
theorem lstOf_ok (j : J K T τ H) {x : D} {v : V} {xs : List D} (r : DR K τ H x v) (h : lstOf τ x = some xs) : ∃ a vs, v = .ref a ∧ SqL K H a vs ∧ DRs K τ H xs vs := by
  cases x with
  | lst ys =>
    cases h
    obtain ⟨a, vs, e, l, q⟩ := r
    exact ⟨a, vs, e, l.sq, q⟩
  | ref a =>
    unfold lstOf at h
    simp only at h
    split at h
    · rename_i ys e
      cases h
      obtain ⟨vs, q, q2⟩ := j.obj a _ e
      exact ⟨a, vs, r, .of q, q2⟩
    · cases h
  | _ => cases h
theorem tupOf_ok {x : D} {v : V} {xs : List D} (r : DR K τ H x v) (h : tupOf x = some xs) : ∃ a vs, v = .ref a ∧ TupAt K τ H a vs ∧ SqT K H a vs ∧ DRs K τ H xs vs := by
  cases x with
  | tup ys =>
    cases h
    obtain ⟨a, vs, e, l, q⟩ := r
    exact ⟨a, vs, e, l, l.sq, q⟩
  | _ => cases h
/-! ints, bools, texts in lists -/
def intsOf : List D → Option (List Int)
  | [] => some []
  | .int i :: ds => (intsOf ds).map (i :: ·)
  | _ => none
def blsOf : List D → Option (List Bool)
  | [] => some []
  | .bl i :: ds => (blsOf ds).map (i :: ·)
  | _ => none
def strsOf : List D → Option (List Str)
  | [] => some []
  | .str i :: ds => (strsOf ds).map (i :: ·)
  | _ => none
theorem intsOf_ok : ∀ {xs : List D} {vs : List V} {ns : List Int}, DRs K τ H xs vs → intsOf xs = some ns → vs = ns.map V.int
  | [], vs, ns, r, h => by
    have r : vs = [] := r
    cases h
    exact r
  | .int i :: ds, vs, ns, r, h => by
    obtain ⟨v, w, e, r1, r2⟩ := r
    unfold intsOf at h
    cases q : intsOf ds with
    | none => rw [q] at h; cases h
    | some ms =>
      rw [q] at h
      cases h
      have r1 : v = .int i := r1
      rw [e, r1, intsOf_ok r2 q]; rfl
  | .non :: _, _, _, _, h => by cases h
  | .bl _ :: _, _, _, _, h => by cases h
  | .str _ :: _, _, _, _, h => by cases h
  | .tup _ :: _, _, _, _, h => by cases h
  | .lst _ :: _, _, _, _, h => by cases h
  | .ref _ :: _, _, _, _, h => by cases h
  | .ty _ :: _, _, _, _, h => by cases h
theorem blsOf_ok : ∀ {xs : List D} {vs : List V} {ns : List Bool}, DRs K τ H xs vs → blsOf xs = some ns → vs = ns.map V.bl
  | [], vs, ns, r, h => by
    have r : vs = [] := r
    cases h
    exact r
  | .bl i :: ds, vs, ns, r, h => by
    obtain ⟨v, w, e, r1, r2⟩ := r
    unfold blsOf at h
    cases q : blsOf ds with
    | none => rw [q] at h; cases h
    | some ms =>
      rw [q] at h
      cases h
      have r1 : v = .bl i := r1
      rw [e, r1, blsOf_ok r2 q]; rfl
  | .non :: _, _, _, _, h => by cases h
  | .int _ :: _, _, _, _, h => by cases h
  | .str _ :: _, _, _, _, h => by cases h
  | .tup _ :: _, _, _, _, h => by cases h
  | .lst _ :: _, _, _, _, h => by cases h
  | .ref _ :: _, _, _, _, h => by cases h
  | .ty _ :: _, _, _, _, h => by cases h
theorem strsOf_ok : ∀ {xs : List D} {vs : List V} {ns : List Str}, DRs K τ H xs vs → strsOf xs = some ns → vs = ns.map V.str
  | [], vs, ns, r, h => by
    have r : vs = [] := r
    cases h
    exact r
  | .str i :: ds, vs, ns, r, h => by
    obtain ⟨v, w, e, r1, r2⟩ := r
    unfold strsOf at h
    cases q : strsOf ds with
    | none => rw [q] at h; cases h
    | some ms =>
      rw [q] at h
      cases h
      have r1 : v = .str i := r1
      rw [e, r1, strsOf_ok r2 q]; rfl
  | .non :: _, _, _, _, h => by cases h
  | .int _ :: _, _, _, _, h => by cases h
  | .bl _ :: _, _, _, _, h => by cases h
  | .tup _ :: _, _, _, _, h => by cases h
  | .lst _ :: _, _, _, _, h => by cases h
  | .ref _ :: _, _, _, _, h => by cases h
  | .ty _ :: _, _, _, _, h => by cases h
/-! data without mutable objects, for == -/
mutual
def pyOf : D → Option PyData
  | .non => some .none
  | .bl b => some (.bool b)
  | .int i => some (.int i)
  | .str s => some (.str s)
  | .tup xs => (pyAll xs).map .tuple
  | .lst xs => (pyAll xs).map .list
  | .ref _ => none
  | .ty _ => none
def pyAll : List D → Option (List PyData)
  | [] => some []
  | x :: xs => match pyOf x, pyAll xs with
    | some p, some ps => some (p :: ps)
    | _, _ => none
end
mutual
theorem pyOf_ok : ∀ (x : D) (v : V) (p : PyData), DR K τ H x v → pyOf x = some p → Dp K H v p
  | .non, v, p, r, h => by
    cases h
    have r : v = .non := r
    subst r; exact .non
  | .bl b, v, p, r, h => by
    cases h
    have r : v = .bl b := r
    subst r; exact .bl b
  | .int b, v, p, r, h => by
    cases h
    have r : v = .int b := r
    subst r; exact .int b
  | .str b, v, p, r, h => by
    cases h
    have r : v = .str b := r
    subst r; exact .str b
  | .tup xs, v, p, r, h => by
    obtain ⟨a, vs, e, l, q⟩ := r
    unfold pyOf at h
    cases z : pyAll xs with
    | none => rw [z] at h; cases h
    | some ps =>
      rw [z] at h
      cases h
      subst e
      exact .tup l.sq (pyAll_ok xs vs ps q z)
  | .lst xs, v, p, r, h => by
    obtain ⟨a, vs, e, l, q⟩ := r
    unfold pyOf at h
    cases z : pyAll xs with
    | none => rw [z] at h; cases h
    | some ps =>
      rw [z] at h
      cases h
      subst e
      exact .lst l.sq (pyAll_ok xs vs ps q z)
  | .ref _, _, _, _, h => by cases h
  | .ty _, _, _, _, h => by cases h
theorem pyAll_ok : ∀ (xs : List D) (vs : List V) (ps : List PyData), DRs K τ H xs vs → pyAll xs = some ps → DpAll K H vs ps
  | [], vs, ps, r, h => by
    cases h
    have r : vs = [] := r
    subst r; exact .nil
  | x :: xs, vs, ps, r, h => by
    obtain ⟨v, w, e, r1, r2⟩ := r
    unfold pyAll at h
    split at h
    · rename_i p ps' h1 h2
      cases h
      subst e
      exact .cons (pyOf_ok x v p r1 h1) (pyAll_ok xs w ps' r2 h2)
    · cases h
end
/-- two values that == tells without looking into them -/
def scD : D → D → Option Bool
  | .non, .non => some true
  | .non, .int _ => some false
  | .int _, .non => some false
  | .non, .bl _ => some false
  | .bl _, .non => some false
  | .non, .str _ => some false
  | .str _, .non => some false
  | .int i, .int j => some (decide (i = j))
  | .bl i, .bl j => some (decide (i = j))
  | .str i, .str j => some (decide (i = j))
  | .int _, .str _ => some false
  | .str _, .int _ => some false
  | .bl _, .str _ => some false
  | .str _, .bl _ => some false
  | _, _ => none
theorem scD_ok {x y : D} {vx vy : V} {b : Bool} (hx : DR K τ H x vx) (hy : DR K τ H y vy) (h : scD x y = some b) : scal vx vy = true ∧ decide (vx = vy) = b := by
  cases x <;> cases y <;> first
    | (cases h; done)
    | (cases hx; cases hy; cases h; exact ⟨rfl, by simp⟩)
end
section
variable {T : List (Addr × Str)} {X : Cx}
/-! ### +, -, * .. -/
def rCatS (K : PySem.W.Frag) : R2 := fun x y H Q => ∃ l b xs zs, x = .ref l ∧ y = .ref b ∧ SqL K H l xs ∧ SqL K H b zs ∧ xs.length + zs.length ≤ sizeLine ∧ ∀ p, H p = none → Q (.ref p) (upd H p (.lst (xs ++ zs)))
theorem op_catS : OpR X (binaryOp .Add) (rCatS X.K) := by
  intro pins s σ H x y v u Q I rx ry h
  obtain ⟨l, b, xs, zs, rfl, rfl, hH, hB, hz, q⟩ := h
  cases rx
  cases ry
  obtain ⟨its, r, p1, _⟩ := I.list hH
  obtain ⟨its2, r2, p2, _⟩ := I.list hB
  obtain ⟨⟨cls, dd, data, sl⟩, n, ho, hc, hdd, hd⟩ := id p1
  obtain ⟨⟨cls2, dd2, data2, sl2⟩, n2, ho2, hc2, hdd2, hd2⟩ := id p2
  simp only at hc hd hc2 hd2
  subst hc hd hc2 hd2
  have l1 := r.length
  have l2 := r2.length
  have e : its.toArray ++ its2.toArray = (its ++ its2).toArray := by simp
  refine concat_meets ⟨_, ho, rfl⟩ ⟨_, ho2, rfl⟩ noFill_list_add seq_list_add PySem.F.slot_list_add PySem.F.entry_list_add (PySem.F.args_list_add_2 _ _) (PyProof.Rows.list_addW l b its.toArray its2.toArray n n2 dd dd2 sl sl2 (by simp; omega)) ⟨ho, ho2, ?_⟩
  rw [e]
  exact ⟨.ref _, _, I.lnew (t' := s.toks) (r.append r2) (by rw [List.length_append]; omega), rfl, q _ I.fresh⟩
def rAddU (K : PySem.W.Frag) : R2 := fun x y H Q => rI0 (fun i j => .int (i + j)) x y H Q ∨ (∃ i j, x = .str i ∧ y = .str j ∧ i.length + j.length ≤ sizeLine ∧ Q (.str (i ++ j)) H) ∨ rCatS K x y H Q ∨ rCatA K x y H Q
theorem op_addU : OpR X (binaryOp .Add) (rAddU X.K) := op_add.or (op_add_str.or (op_catS.or op_catA))
def ρAdd : D2 := fun τ x y k => match x, y with
  | .int i, .int j => k τ (.int (i + j))
  | .str i, .str j => i.length + j.length ≤ sizeLine ∧ k τ (.str (i ++ j))
  | .tup xs, .tup ys => xs.length + ys.length ≤ sizeLine ∧ k τ (.tup (xs ++ ys))
  | .lst xs, .lst ys => xs.length + ys.length ≤ sizeLine ∧ k τ (.lst (xs ++ ys))
  | .ref a, .lst ys => ∃ xs, τ a = some (.lst xs) ∧ xs.length + ys.length ≤ sizeLine ∧ k τ (.lst (xs ++ ys))
  | .lst xs, .ref b => ∃ ys, τ b = some (.lst ys) ∧ xs.length + ys.length ≤ sizeLine ∧ k τ (.lst (xs ++ ys))
  | .ref a, .ref b => ∃ xs ys, τ a = some (.lst xs) ∧ τ b = some (.lst ys) ∧ xs.length + ys.length ≤ sizeLine ∧ k τ (.lst (xs ++ ys))
  | _, _ => False
theorem cat_ok {K : PySem.W.Frag} {τ : TD} {H : Hp} {x y : D} {vx vy : V} {xs ys : List D} {k : DK} {Q : VK} (j : J K T τ H) (hx : DR K τ H x vx) (hy : DR K τ H y vy) (h1 : lstOf τ x = some xs) (h2 : lstOf τ y = some ys) (hl : xs.length + ys.length ≤ sizeLine) (hk : k τ (.lst (xs ++ ys)))
    (q : ∀ v τ' H' d, Ext τ H τ' H' → J K T τ' H' → DR K τ' H' d v → k τ' d → Q v H') : rCatS K vx vy H Q := by
  obtain ⟨a, vs, e1, s1, r1⟩ := lstOf_ok j hx h1
  obtain ⟨b, ws, e2, s2, r2⟩ := lstOf_ok j hy h2
  refine ⟨a, b, vs, ws, e1, e2, s1, s2, by rw [r1.length, r2.length]; exact hl, fun p hp => ?_⟩
  exact q (.ref p) τ _ (.lst (xs ++ ys)) (.new hp) (j.new hp) ⟨p, vs ++ ws, rfl, .inl ⟨.of upd_same, j.free hp⟩, (r1.append r2).ext (.new hp)⟩ hk
theorem ok_add {K : PySem.W.Frag} : R2ok K T (rAddU K) ρAdd := by
  intro τ H x y vx vy k Q j hx hy h q
  cases x with
  | int i =>
    cases y with
    | int i' => exact .inl ⟨i, i', hx, hy, q _ τ H (.int (i + i')) (.refl _ _) j rfl h⟩
    | _ => exact h.elim
  | str i =>
    cases y with
    | str i' => exact .inr (.inl ⟨i, i', hx, hy, h.1, q _ τ H (.str (i ++ i')) (.refl _ _) j rfl h.2⟩)
    | _ => exact h.elim
  | tup xs =>
    cases y with
    | tup ys =>
      obtain ⟨a, vs, e1, t1, r1⟩ := hx
      obtain ⟨b, ws, e2, t2, r2⟩ := hy
      refine .inr (.inr (.inr ⟨a, b, vs, ws, e1, e2, t1.sq, t2.sq, by rw [r1.length, r2.length]; exact h.1, fun z => ?_, fun z1 z2 => ?_, fun z1 z2 p hp => ?_⟩))
      · refine q (.ref b) τ H (.tup (xs ++ ys)) (.refl _ _) j ⟨b, ws, rfl, t2, ?_⟩ h.2
        have : xs = [] := List.eq_nil_of_length_eq_zero (by rw [← r1.length, z]; rfl)
        rw [this]; exact r2
      · refine q (.ref a) τ H (.tup (xs ++ ys)) (.refl _ _) j ⟨a, vs, rfl, t1, ?_⟩ h.2
        have : ys = [] := List.eq_nil_of_length_eq_zero (by rw [← r2.length, z2]; rfl)
        rw [this, List.append_nil]; exact r1
      · exact q (.ref p) τ _ (.tup (xs ++ ys)) (.new hp) (j.new hp) ⟨p, vs ++ ws, rfl, .inl ⟨.of upd_same, j.free hp⟩, (r1.append r2).ext (.new hp)⟩ h.2
    | _ => exact h.elim
  | lst xs =>
    cases y with
    | lst ys => exact .inr (.inr (.inl (cat_ok j hx hy rfl rfl h.1 h.2 q)))
    | ref b =>
      obtain ⟨ys, e, h1, h2⟩ := h
      exact .inr (.inr (.inl (cat_ok j hx hy rfl (by simp [lstOf, e]) h1 h2 q)))
    | _ => exact h.elim
  | ref a =>
    cases y with
    | lst ys =>
      obtain ⟨xs, e, h1, h2⟩ := h
      exact .inr (.inr (.inl (cat_ok j hx hy (by simp [lstOf, e]) rfl h1 h2 q)))
    | ref b =>
      obtain ⟨xs, ys, e, e', h1, h2⟩ := h
      exact .inr (.inr (.inl (cat_ok j hx hy (by simp [lstOf, e]) (by simp [lstOf, e']) h1 h2 q)))
    | _ => exact h.elim
  | _ => exact h.elim
/-- two ints, with a condition -/
def ρI (C : Int → Int → Prop) (g : Int → Int → D) : D2 := fun τ x y k => match x, y with
  | .int i, .int j => C i j ∧ k τ (g i j)
  | _, _ => False
def ρI0 (g : Int → Int → D) : D2 := fun τ x y k => match x, y with
  | .int i, .int j => k τ (g i j)
  | _, _ => False
theorem ok_I {K : PySem.W.Frag} {C : Int → Int → Prop} {g : Int → Int → V} {gd : Int → Int → D} (hg : ∀ τ H i j, DR K τ H (gd i j) (g i j)) : R2ok K T (rI C g) (ρI C gd) := by
  intro τ H x y vx vy k Q j hx hy h q
  cases x with
  | int i =>
    cases y with
    | int i' => exact ⟨i, i', hx, hy, h.1, q _ τ H _ (.refl _ _) j (hg _ _ _ _) h.2⟩
    | _ => exact h.elim
  | _ => exact h.elim
theorem ok_I0 {K : PySem.W.Frag} {g : Int → Int → V} {gd : Int → Int → D} (hg : ∀ τ H i j, DR K τ H (gd i j) (g i j)) : R2ok K T (rI0 g) (ρI0 gd) := by
  intro τ H x y vx vy k Q j hx hy h q
  cases x with
  | int i =>
    cases y with
    | int i' => exact ⟨i, i', hx, hy, q _ τ H _ (.refl _ _) j (hg _ _ _ _) h⟩
    | _ => exact h.elim
  | _ => exact h.elim
abbrev ρSub : D2 := ρI0 fun i j => .int (i - j)
theorem ok_sub {K : PySem.W.Frag} : R2ok K T (rI0 fun i j => .int (i - j)) ρSub := ok_I0 fun _ _ _ _ => rfl
abbrev ρMod : D2 := ρI (fun _ j => 0 < j) fun i j => .int (i % j)
theorem ok_mod {K : PySem.W.Frag} : R2ok K T (rI (fun _ j => 0 < j) fun i j => .int (i % j)) ρMod := ok_I fun _ _ _ _ => rfl
abbrev ρDiv : D2 := ρI CDiv fun i j => .int (i / j)
theorem ok_div {K : PySem.W.Frag} : R2ok K T (rI CDiv fun i j => .int (i / j)) ρDiv := ok_I fun _ _ _ _ => rfl
abbrev ρPow : D2 := ρI CPow fun i j => .int (i ^ j.toNat)
theorem ok_pow {K : PySem.W.Frag} : R2ok K T (rI CPow fun i j => .int (i ^ j.toNat)) ρPow := ok_I fun _ _ _ _ => rfl
abbrev ρShr : D2 := ρI (fun _ j => 0 ≤ j) fun i j => .int (i / 2 ^ j.toNat)
theorem ok_shr {K : PySem.W.Frag} : R2ok K T (rI (fun _ j => 0 ≤ j) fun i j => .int (i / 2 ^ j.toNat)) ρShr := ok_I fun _ _ _ _ => rfl
abbrev ρShl : D2 := ρI CPow fun i j => .int (i * 2 ^ j.toNat)
theorem ok_shl {K : PySem.W.Frag} : R2ok K T (rI CPow fun i j => .int (i * 2 ^ j.toNat)) ρShl := ok_I fun _ _ _ _ => rfl
/-! * : two ints; a text, a list so many times -/
def repS (z : Str) (n : Nat) : Str := ⟨(List.replicate n z.cps.toList).flatten.toArray⟩
def rMulS : R2 := fun x y H Q => ∃ z n, x = .str z ∧ y = .int n ∧ -(2 ^ 62) ≤ n ∧ n ≤ 1000 ∧ z.length ≤ 1000 ∧ Q (.str (repS z n.toNat)) H
theorem repS_length (z : Str) : ∀ n : Nat, (repS z n).length = n * z.length
  | 0 => by simp [repS, Str.length]
  | n + 1 => by
    have ih := repS_length z n
    have e : (repS z (n + 1)).length = z.length + (repS z n).length := by
      simp [repS, Str.length, List.replicate_succ]
    rw [e, ih, Nat.succ_mul, Nat.add_comm]
theorem foldl_cps (x : Array Nat) : ∀ (n : Nat) (acc : Array Nat), (List.replicate n x).foldl (· ++ ·) acc = acc ++ (List.replicate n x.toList).flatten.toArray
  | 0, acc => by simp
  | n + 1, acc => by
    rw [List.replicate_succ, List.foldl_cons, foldl_cps x n, List.replicate_succ, List.flatten_cons]
    apply Array.ext'
    simp
theorem op_mulS : OpR X (binaryOp .Mult) rMulS := by
  intro pins s σ H x y v u Q I rx ry h
  obtain ⟨z, n, rfl, rfl, h1, h2, h3, q⟩ := h
  obtain ⟨t, rfl⟩ := rx
  obtain ⟨t', rfl⟩ := ry
  have key : z.length * n.toNat ≤ 1000000 := by
    have : n.toNat ≤ 1000 := by omega
    exact Nat.le_trans (Nat.mul_le_mul h3 this) (by decide)
  refine PySem.P.mul_str (by rw [decide_eq_false (by omega), decide_eq_false (by omega)]; rfl) (fun hn _ => ?_) (fun hn _ => ?_) ?_
  · have hp : 0 < n := by omega
    have h4 : (9223372036854775807 : Int) / n ≥ 1000 := by
      rw [ge_iff_le, Int.le_ediv_iff_mul_le hp]
      have : (1000 : Int) * n ≤ 1000 * 1000 := Int.mul_le_mul_of_nonneg_left h2 (by decide)
      omega
    have h5 : (2 ^ 63 - 1 : Int) = 9223372036854775807 := by decide
    rw [h5]
    omega
  · exact decide_eq_false (show ¬ z.length * n.toNat > sizeLine by rw [sizeLine_eq]; omega)
  · by_cases hn : n < 1
    · rw [if_pos hn]
      refine ⟨by decide, .str _, H, I.tok _, ⟨_, rfl⟩, ?_⟩
      have e : repS z n.toNat = Str.empty := by
        have : n.toNat = 0 := by omega
        unfold repS
        rw [this]; rfl
      rw [← e]; exact q
    · rw [if_neg hn]
      split
      · rename_i hc
        refine ⟨.str z, H, I.tok _, ⟨_, rfl⟩, ?_⟩
        have e : repS z n.toNat = z := by
          rcases Bool.or_eq_true_iff.mp hc with hc | hc
          · have : n = 1 := by simpa using hc
            subst this
            unfold repS
            simp
          · have : z.cps.toList = [] := by
              have hz : z.length = 0 := by simpa using hc
              rw [Array.toList_eq_nil_iff]
              exact Array.eq_empty_of_size_eq_zero hz
            unfold repS
            rw [this]
            have e2 : (List.replicate n.toNat ([] : List Nat)).flatten = [] := by simp
            rw [e2]
            exact Str.ext' (Array.ext' (by simpa using this.symm))
        rw [e] at q
        exact q
      · have e : (⟨(List.replicate n.toNat z.cps).foldl (· ++ ·) #[]⟩ : Str) = repS z n.toNat := by
          unfold repS
          rw [foldl_cps]
          simp
        rw [e]
        refine ⟨?_, .str _, H, I.tok _, ⟨_, rfl⟩, q⟩
        have hl : (repS z n.toNat).length = n.toNat * z.length := repS_length _ _
        have key2 : (repS z n.toNat).length ≤ 1000000 := by rw [hl, Nat.mul_comm]; exact key
        first
          | exact decide_eq_false (show ¬ (repS z n.toNat).length > sizeLine by rw [sizeLine_eq]; omega)
          | (show (repS z n.toNat).length ≤ sizeLine; rw [sizeLine_eq]; omega)
end
end DL

set_option Elab.async false
set_option linter.all false
set_option maxRecDepth 100000
set_option maxHeartbeats 1000000
/-! The data layer, 5: *, comparisons, subscripts, slices, built-ins, methods. -/
namespace DL
open PySem PySem.Spec PyProof.Rows L2
section
variable {T : List (Addr × Str)} {X : Cx}
def rMulU : R2 := fun x y H Q => rI CMul (fun i j => .int (i * j)) x y H Q ∨ rMulS x y H Q
theorem op_mulU : OpR X (binaryOp .Mult) rMulU := op_mul.or op_mulS
def ρMul : D2 := fun τ x y k => match x, y with
  | .int i, .int j => CMul i j ∧ k τ (.int (i * j))
  | .str z, .int n => (-(2 ^ 62) ≤ n ∧ n ≤ 1000 ∧ z.length ≤ 1000) ∧ k τ (.str (repS z n.toNat))
  | _, _ => False
theorem ok_mul {K : PySem.W.Frag} : R2ok K T rMulU ρMul := by
  intro τ H x y vx vy k Q j hx hy h q
  cases x with
  | int i =>
    cases y with
    | int i' => exact .inl ⟨i, i', hx, hy, h.1, q _ τ H (.int (i * i')) (.refl _ _) j rfl h.2⟩
    | _ => exact h.elim
  | str z =>
    cases y with
    | int n => exact .inr ⟨z, n, hx, hy, h.1.1, h.1.2.1, h.1.2.2, q _ τ H (.str (repS z n.toNat)) (.refl _ _) j rfl h.2⟩
    | _ => exact h.elim
  | _ => exact h.elim
/-! one int -/
def ρNeg : D1 := fun τ x k => match x with
  | .int i => k τ (.int (-i))
  | _ => False
theorem ok_neg {K : PySem.W.Frag} : R1ok K T (rU fun i => .int (-i)) ρNeg := by
  intro τ H x vx k Q j hx h q
  cases x with
  | int i => exact ⟨i, hx, q _ τ H (.int (-i)) (.refl _ _) j rfl h⟩
  | _ => exact h.elim
/-! ### == and != -/
def rEqU (K : PySem.W.Frag) : R2 := fun x y H Q => rEq x y H Q ∨ rEqD K x y H Q
def rNeU (K : PySem.W.Frag) : R2 := fun x y H Q => rNe x y H Q ∨ rNeD K x y H Q
theorem op_eqU (hu : X.A.units + 64 < cLine) : OpR X (compareOp .Eq) (rEqU X.K) := op_eq.or (op_eqD hu)
theorem op_neU (hu : X.A.units + 64 < cLine) : OpR X (compareOp .NotEq) (rNeU X.K) := op_ne.or (op_neD hu)
/-- how == answers -/
def eqA (x y : D) (k : Bool → Prop) : Prop := match scD x y with
  | some b => k b
  | none => match pyOf x, pyOf y with
    | some p, some p' => SeqAt.shaped p = true ∧ SeqAt.shaped p' = true ∧ k (PyData.eqv p p')
    | _, _ => False
def ρEq : D2 := fun τ x y k => eqA x y fun b => k τ (.bl b)
def ρNe : D2 := fun τ x y k => eqA x y fun b => k τ (.bl (!b))
theorem ok_eq {K : PySem.W.Frag} : R2ok K T (rEqU K) ρEq := by
  intro τ H x y vx vy k Q j hx hy h q
  unfold ρEq eqA at h
  split at h
  · rename_i b hb
    obtain ⟨h1, h2⟩ := scD_ok hx hy hb
    exact .inl ⟨h1, by rw [h2]; exact q _ τ H (.bl b) (.refl _ _) j rfl h⟩
  · split at h
    · rename_i p p' h1 h2
      exact .inr ⟨p, p', pyOf_ok _ _ _ hx h1, pyOf_ok _ _ _ hy h2, h.1, h.2.1, q _ τ H (.bl _) (.refl _ _) j rfl h.2.2⟩
    · exact h.elim
theorem ok_ne {K : PySem.W.Frag} : R2ok K T (rNeU K) ρNe := by
  intro τ H x y vx vy k Q j hx hy h q
  unfold ρNe eqA at h
  split at h
  · rename_i b hb
    obtain ⟨h1, h2⟩ := scD_ok hx hy hb
    exact .inl ⟨h1, by rw [h2]; exact q _ τ H (.bl (!b)) (.refl _ _) j rfl h⟩
  · split at h
    · rename_i p p' h1 h2
      exact .inr ⟨p, p', pyOf_ok _ _ _ hx h1, pyOf_ok _ _ _ hy h2, h.1, h.2.1, q _ τ H (.bl _) (.refl _ _) j rfl h.2.2⟩
    · exact h.elim
/-! ### < <= > >= of ints, of texts -/
def rCmpU (f : Int → Int → Bool) (g : Str → Str → Bool) : R2 := fun x y H Q => rI0 (fun i j => .bl (f i j)) x y H Q ∨ (∃ i j, x = .str i ∧ y = .str j ∧ Q (.bl (g i j)) H)
def ρCmp (f : Int → Int → Bool) (g : Str → Str → Bool) : D2 := fun τ x y k => match x, y with
  | .int i, .int j => k τ (.bl (f i j))
  | .str i, .str j => k τ (.bl (g i j))
  | _, _ => False
theorem ok_cmp {K : PySem.W.Frag} {f : Int → Int → Bool} {g : Str → Str → Bool} : R2ok K T (rCmpU f g) (ρCmp f g) := by
  intro τ H x y vx vy k Q j hx hy h q
  cases x with
  | int i =>
    cases y with
    | int i' => exact .inl ⟨i, i', hx, hy, q _ τ H (.bl (f i i')) (.refl _ _) j rfl h⟩
    | _ => exact h.elim
  | str i =>
    cases y with
    | str i' => exact .inr ⟨i, i', hx, hy, q _ τ H (.bl (g i i')) (.refl _ _) j rfl h⟩
    | _ => exact h.elim
  | _ => exact h.elim
abbrev rLtU : R2 := rCmpU (fun i j => decide (i < j)) fun i j => decide (i.cps.toList < j.cps.toList)
abbrev rLeU : R2 := rCmpU (fun i j => decide (i ≤ j)) fun i j => !decide (j.cps.toList < i.cps.toList)
abbrev rGtU : R2 := rCmpU (fun i j => decide (j < i)) fun i j => decide (j.cps.toList < i.cps.toList)
abbrev rGeU : R2 := rCmpU (fun i j => decide (j ≤ i)) fun i j => !decide (i.cps.toList < j.cps.toList)
abbrev ρLt : D2 := ρCmp (fun i j => decide (i < j)) fun i j => decide (i.cps.toList < j.cps.toList)
abbrev ρLe : D2 := ρCmp (fun i j => decide (i ≤ j)) fun i j => !decide (j.cps.toList < i.cps.toList)
abbrev ρGt : D2 := ρCmp (fun i j => decide (j < i)) fun i j => decide (j.cps.toList < i.cps.toList)
abbrev ρGe : D2 := ρCmp (fun i j => decide (j ≤ i)) fun i j => !decide (i.cps.toList < j.cps.toList)
theorem op_ltU : OpR X (compareOp .Lt) rLtU := op_lt.or op_lt_str
theorem op_leU : OpR X (compareOp .LtE) rLeU := op_le.or op_le_str
theorem op_gtU : OpR X (compareOp .Gt) rGtU := op_gt.or op_gt_str
theorem op_geU : OpR X (compareOp .GtE) rGeU := op_ge.or op_ge_str
/-! is None, is not None -/
def rIsNU : R2 := fun x y H Q => y = .non ∧ Q (.bl (decide (x = .non))) H
def rNotNU : R2 := fun x y H Q => y = .non ∧ Q (.bl (!decide (x = .non))) H
def isNonD : D → Bool
  | .non => true
  | _ => false
theorem isNon_ok {K : PySem.W.Frag} {τ : TD} {H : Hp} {x : D} {v : V} (r : DR K τ H x v) : decide (v = .non) = isNonD x := by
  cases x with
  | non => cases r; rfl
  | tup xs => obtain ⟨a, vs, e, _⟩ := r; subst e; rfl
  | lst xs => obtain ⟨a, vs, e, _⟩ := r; subst e; rfl
  | _ => cases r; rfl
def ρIsN : D2 := fun τ x y k => match y with
  | .non => k τ (.bl (isNonD x))
  | _ => False
def ρNotN : D2 := fun τ x y k => match y with
  | .non => k τ (.bl (!isNonD x))
  | _ => False
theorem op_isNU : OpR X (compareOp .Is) rIsNU := op_isN
theorem op_notNU : OpR X (compareOp .IsNot) rNotNU := op_notN
theorem ok_isN {K : PySem.W.Frag} : R2ok K T rIsNU ρIsN := by
  intro τ H x y vx vy k Q j hx hy h q
  cases y with
  | non => exact ⟨hy, by rw [isNon_ok hx]; exact q _ τ H (.bl _) (.refl _ _) j rfl h⟩
  | _ => exact h.elim
theorem ok_notN {K : PySem.W.Frag} : R2ok K T rNotNU ρNotN := by
  intro τ H x y vx vy k Q j hx hy h q
  cases y with
  | non => exact ⟨hy, by rw [isNon_ok hx]; exact q _ τ H (.bl _) (.refl _ _) j rfl h⟩
  | _ => exact h.elim
/-! one sign in a text -/
def rSgn (neg : Bool) : R2 := fun x y H Q => ∃ (c : Nat) (z : Str), x = .str ⟨#[c]⟩ ∧ y = .str z ∧ Q (.bl (neg ^^ decide (c ∈ z.cps.toList))) H
theorem op_sgn : OpR X (compareOp .In) (rSgn false) := fun pins s σ H x y v u Q I rx ry ⟨c, z, e1, e2, q⟩ => op_in_sign pins s σ H x y v u Q I rx ry ⟨c, z, e1, e2, by simpa using q⟩
theorem op_nsgn : OpR X (compareOp .NotIn) (rSgn true) := fun pins s σ H x y v u Q I rx ry ⟨c, z, e1, e2, q⟩ => op_notIn_sign pins s σ H x y v u Q I rx ry ⟨c, z, e1, e2, by simpa using q⟩
/-- the text's one sign is among z's -/
def ρSgn (neg : Bool) : D2 := fun τ x y k => match x, y with
  | .str w, .str z => ∃ c, w = ⟨#[c]⟩ ∧ k τ (.bl (neg ^^ decide (c ∈ z.cps.toList)))
  | _, _ => False
theorem ok_sgn {K : PySem.W.Frag} {neg : Bool} : R2ok K T (rSgn neg) (ρSgn neg) := by
  intro τ H x y vx vy k Q j hx hy h q
  cases x with
  | str i =>
    cases y with
    | str i' =>
      obtain ⟨c, e, h⟩ := h
      subst e
      exact ⟨c, i', hx, hy, q _ τ H (.bl _) (.refl _ _) j rfl h⟩
    | _ => exact h.elim
  | _ => exact h.elim
/-! ### subscripts -/
def ρIx : D2 := fun τ x y k => match y with
  | .int i => (match x with
    | .str z => z.length ≤ sizeLine ∧ (match atI z.cps.toList i with
      | some c => k τ (.str ⟨#[c]⟩)
      | none => False)
    | .tup xs => (match atI xs i with
      | some d => k τ d
      | none => False)
    | .lst xs => (match atI xs i with
      | some d => k τ d
      | none => False)
    | .ref a => (match τ a with
      | some (.lst xs) => (match atI xs i with
        | some d => k τ d
        | none => False)
      | _ => False)
    | _ => False)
  | _ => False
theorem drs_at {K : PySem.W.Frag} {τ : TD} {H : Hp} {xs : List D} {vs : List V} {i : Int} {d : D} (r : DRs K τ H xs vs) (h : atI xs i = some d) : ∃ v, atI vs i = some v ∧ DR K τ H d v := by
  unfold atI at h ⊢
  rw [r.length]
  cases e : ixN xs.length i with
  | none => rw [e] at h; cases h
  | some j =>
    rw [e] at h
    exact r.get h
theorem ok_ix {K : PySem.W.Frag} : R2ok K T (rIx K) ρIx := by
  intro τ H x y vx vy k Q j hx hy h q
  cases y with
  | int i =>
    cases x with
    | str z =>
      obtain ⟨hz, h⟩ := h
      split at h
      · rename_i c hc
        exact .inr (.inr ⟨z, i, c, hx, hy, hz, hc, q _ τ H (.str ⟨#[c]⟩) (.refl _ _) j rfl h⟩)
      · exact h.elim
    | tup xs =>
      simp only [ρIx] at h
      split at h
      · rename_i d hd
        obtain ⟨a, vs, e, l, r⟩ := hx
        obtain ⟨v, h1, h2⟩ := drs_at r hd
        exact .inr (.inl ⟨a, vs, i, v, e, hy, l.sq, h1, q v τ H d (.refl _ _) j h2 h⟩)
      · exact h.elim
    | lst xs =>
      simp only [ρIx] at h
      split at h
      · rename_i d hd
        obtain ⟨a, vs, e, l, r⟩ := hx
        obtain ⟨v, h1, h2⟩ := drs_at r hd
        exact .inl ⟨a, vs, i, v, e, hy, l.sq, h1, q v τ H d (.refl _ _) j h2 h⟩
      · exact h.elim
    | ref a =>
      simp only [ρIx] at h
      split at h
      · rename_i xs e
        split at h
        · rename_i d hd
          obtain ⟨vs, hv, r⟩ := j.obj a _ e
          obtain ⟨v, h1, h2⟩ := drs_at r hd
          exact .inl ⟨a, vs, i, v, hx, hy, .of hv, h1, q v τ H d (.refl _ _) j h2 h⟩
        · exact h.elim
      · exact h.elim
    | _ => exact h.elim
  | _ => exact h.elim
/-! ### slices -/
def cutD (xs : List D) (lo hi : Option Int) : List D := (xs.drop (HT.sIx xs.length 0 lo)).take (HT.sIx xs.length xs.length hi - HT.sIx xs.length 0 lo)
theorem drs_cut {K : PySem.W.Frag} {τ : TD} {H : Hp} {xs : List D} {vs : List V} {lo hi : Option Int} (r : DRs K τ H xs vs) : DRs K τ H (cutD xs lo hi) (cutV vs lo hi) := by
  unfold cutD cutV
  rw [r.length]
  exact (r.drop _).take _
def rSlU (K : PySem.W.Frag) : V → Option Int → Option Int → Hp → VK → Prop := fun x lo hi H Q => rSlS x lo hi H Q ∨ rSlL K x lo hi H Q ∨ rSlA K x lo hi H Q
theorem sl_U : SlR X (rSlU X.K) := sl_str.or (sl_list.or sl_tupA)
def ρSl : DSl := fun τ x lo hi k => match x with
  | .str z => z.length ≤ sizeLine ∧ k τ (.str (cutS z lo hi))
  | .lst xs => k τ (.lst (cutD xs lo hi))
  | .tup xs => k τ (.tup (cutD xs lo hi))
  | .ref a => (match τ a with
    | some (.lst xs) => k τ (.lst (cutD xs lo hi))
    | _ => False)
  | _ => False
theorem ok_sl {K : PySem.W.Frag} : RSok K T (rSlU K) ρSl := by
  intro τ H x vx lo hi k Q j hx h q
  cases x with
  | str z => exact .inl ⟨z, hx, h.1, q _ τ H (.str (cutS z lo hi)) (.refl _ _) j rfl h.2⟩
  | lst xs =>
    obtain ⟨a, vs, e, l, r⟩ := hx
    exact .inr (.inl ⟨a, vs, e, l.sq, fun p hp => q (.ref p) τ _ (.lst (cutD xs lo hi)) (.new hp) (j.new hp) ⟨p, _, rfl, .inl ⟨.of upd_same, j.free hp⟩, (drs_cut r).ext (.new hp)⟩ h⟩)
  | tup xs =>
    obtain ⟨a, vs, e, l, r⟩ := hx
    refine .inr (.inr ⟨a, vs, e, l.sq, fun z => ?_, fun _ p hp => ?_⟩)
    · refine q (.ref a) τ H (.tup (cutD xs lo hi)) (.refl _ _) j ⟨a, vs, rfl, l, ?_⟩ h
      have e2 : cutD xs lo hi = xs := by
        unfold cutD
        rw [← r.length, z.1, z.2, List.drop_zero, Nat.sub_zero, r.length, List.take_length]
      rw [e2]; exact r
    · exact q (.ref p) τ _ (.tup (cutD xs lo hi)) (.new hp) (j.new hp) ⟨p, _, rfl, .inl ⟨.of upd_same, j.free hp⟩, (drs_cut r).ext (.new hp)⟩ h
  | ref a =>
    simp only [ρSl] at h
    split at h
    · rename_i xs e
      obtain ⟨vs, hv, r⟩ := j.obj a _ e
      exact .inr (.inl ⟨a, vs, hx, .of hv, fun p hp => q (.ref p) τ _ (.lst (cutD xs lo hi)) (.new hp) (j.new hp) ⟨p, _, rfl, .inl ⟨.of upd_same, j.free hp⟩, (drs_cut r).ext (.new hp)⟩ h⟩)
    · exact h.elim
  | _ => exact h.elim
/-! ### built-in functions -/
theorem one_of {K : PySem.W.Frag} {τ : TD} {H : Hp} {d : D} {vs : List V} (r : DRs K τ H [d] vs) : ∃ v, vs = [v] ∧ DR K τ H d v := by
  obtain ⟨v, w, e, r1, r2⟩ := r
  have r2 : w = [] := r2
  subst r2
  exact ⟨v, e, r1⟩
theorem two_of {K : PySem.W.Frag} {τ : TD} {H : Hp} {d e : D} {vs : List V} (r : DRs K τ H [d, e] vs) : ∃ v u, vs = [v, u] ∧ DR K τ H d v ∧ DR K τ H e u := by
  obtain ⟨v, w, e1, r1, r2⟩ := r
  obtain ⟨u, e2, r3⟩ := one_of r2
  subst e2
  exact ⟨v, u, e1, r1, r3⟩
def rAbs : List V → Hp → VK → Prop := fun xs H Q => ∃ i, xs = [.int i] ∧ Q (.int (if i < 0 then -i else i)) H
theorem cr_abs : CallR X (.builtin "abs") rAbs := call_abs
def ρAbs : DC := fun τ xs k => match xs with
  | [.int i] => k τ (.int (if i < 0 then -i else i))
  | _ => False
theorem ok_abs {K : PySem.W.Frag} : RCok K T rAbs ρAbs := by
  intro τ H xs vs k Q j r h q
  match xs, h, r with
  | [.int i], h, r =>
    obtain ⟨v, e, r1⟩ := one_of r
    have r1 : v = .int i := r1
    subst e r1
    exact ⟨i, rfl, q _ τ H (.int _) (.refl _ _) j rfl h⟩
def rMx2 : List V → Hp → VK → Prop := fun xs H Q => ∃ i j, xs = [.int i, .int j] ∧ Q (.int (if j > i then j else i)) H
def rMn2 : List V → Hp → VK → Prop := fun xs H Q => ∃ i j, xs = [.int i, .int j] ∧ Q (.int (if j < i then j else i)) H
def rMxU (K : PySem.W.Frag) : List V → Hp → VK → Prop := fun xs H Q => rMx2 xs H Q ∨ rMax K xs H Q
def rMnU (K : PySem.W.Frag) : List V → Hp → VK → Prop := fun xs H Q => rMn2 xs H Q ∨ rMin K xs H Q
theorem cr_maxU (hc : X.calm = true) : CallR X (.builtin "max") (rMxU X.K) := (call_max2 hc : CallR X (.builtin "max") rMx2).or (cr_max hc)
theorem cr_minU (hc : X.calm = true) : CallR X (.builtin "min") (rMnU X.K) := (call_min2 hc : CallR X (.builtin "min") rMn2).or (cr_min hc)
/-- the greatest | least of a list of ints -/
def maxL : List Int → Option Int
  | [] => none
  | n :: ns => some (ns.foldl max n)
def minL : List Int → Option Int
  | [] => none
  | n :: ns => some (ns.foldl min n)
theorem foldl_max (ns : List Int) : ∀ a : Int, a ≤ ns.foldl max a ∧ (∀ y ∈ ns, y ≤ ns.foldl max a) ∧ (ns.foldl max a = a ∨ ns.foldl max a ∈ ns) := by
  induction ns with
  | nil => intro a; exact ⟨Int.le_refl _, by simp, .inl rfl⟩
  | cons n ns ih =>
    intro a
    obtain ⟨h1, h2, h3⟩ := ih (max a n)
    rw [List.foldl_cons]
    refine ⟨by omega, fun y hy => ?_, ?_⟩
    · rcases List.mem_cons.mp hy with rfl | hy
      · omega
      · exact h2 y hy
    · rcases h3 with h3 | h3
      · rw [h3]
        by_cases z : a ≤ n
        · exact .inr (by rw [show max a n = n by omega]; exact List.mem_cons_self)
        · exact .inl (by omega)
      · exact .inr (List.mem_cons_of_mem _ h3)
theorem foldl_min (ns : List Int) : ∀ a : Int, ns.foldl min a ≤ a ∧ (∀ y ∈ ns, ns.foldl min a ≤ y) ∧ (ns.foldl min a = a ∨ ns.foldl min a ∈ ns) := by
  induction ns with
  | nil => intro a; exact ⟨Int.le_refl _, by simp, .inl rfl⟩
  | cons n ns ih =>
    intro a
    obtain ⟨h1, h2, h3⟩ := ih (min a n)
    rw [List.foldl_cons]
    refine ⟨by omega, fun y hy => ?_, ?_⟩
    · rcases List.mem_cons.mp hy with rfl | hy
      · omega
      · exact h2 y hy
    · rcases h3 with h3 | h3
      · rw [h3]
        by_cases z : n ≤ a
        · exact .inr (by rw [show min a n = n by omega]; exact List.mem_cons_self)
        · exact .inl (by omega)
      · exact .inr (List.mem_cons_of_mem _ h3)
theorem maxL_uniq {ns : List Int} {m z : Int} (hm : m ∈ ns) (hle : ∀ y, y ∈ ns → y ≤ m) (h : maxL ns = some z) : m = z := by
  cases ns with
  | nil => cases h
  | cons n ns =>
    cases h
    obtain ⟨h1, h2, h3⟩ := foldl_max ns n
    have a1 : m ≤ ns.foldl max n := by
      rcases List.mem_cons.mp hm with e | e
      · rw [e]; exact h1
      · exact h2 _ e
    have a2 : ns.foldl max n ≤ m := by
      rcases h3 with e | e
      · rw [e]; exact hle _ List.mem_cons_self
      · exact hle _ (List.mem_cons_of_mem _ e)
    omega
theorem minL_uniq {ns : List Int} {m z : Int} (hm : m ∈ ns) (hle : ∀ y, y ∈ ns → m ≤ y) (h : minL ns = some z) : m = z := by
  cases ns with
  | nil => cases h
  | cons n ns =>
    cases h
    obtain ⟨h1, h2, h3⟩ := foldl_min ns n
    have a1 : ns.foldl min n ≤ m := by
      rcases List.mem_cons.mp hm with e | e
      · rw [e]; exact h1
      · exact h2 _ e
    have a2 : m ≤ ns.foldl min n := by
      rcases h3 with e | e
      · rw [e]; exact hle _ List.mem_cons_self
      · exact hle _ (List.mem_cons_of_mem _ e)
    omega
def ρMax : DC := fun τ xs k => match xs with
  | [.int i, .int j] => k τ (.int (if j > i then j else i))
  | [x] => ∃ l ns z, lstOf τ x = some l ∧ intsOf l = some ns ∧ maxL ns = some z ∧ k τ (.int z)
  | _ => False
def ρMin : DC := fun τ xs k => match xs with
  | [.int i, .int j] => k τ (.int (if j < i then j else i))
  | [x] => ∃ l ns z, lstOf τ x = some l ∧ intsOf l = some ns ∧ minL ns = some z ∧ k τ (.int z)
  | _ => False
theorem ok_max {K : PySem.W.Frag} : RCok K T (rMxU K) ρMax := by
  intro τ H xs vs k Q j r h q
  unfold ρMax at h
  split at h
  · rename_i i i'
    obtain ⟨v, u, e, r1, r2⟩ := two_of r
    have r1 : v = .int i := r1
    have r2 : u = .int i' := r2
    subst e r1 r2
    exact .inl ⟨i, i', rfl, q _ τ H (.int _) (.refl _ _) j rfl h⟩
  · rename_i x _
    obtain ⟨l, ns, z, h1, h2, h3, hk⟩ := h
    obtain ⟨v, e, r1⟩ := one_of r
    obtain ⟨a, ws, ev, sq, rr⟩ := lstOf_ok j r1 h1
    have ew := intsOf_ok rr h2
    subst e ev ew
    refine .inr ⟨a, ns, rfl, sq, ?_, fun m hm hle => ?_⟩
    · cases ns with
      | nil => cases h3
      | cons _ _ => exact Nat.succ_pos _
    · rw [maxL_uniq hm hle h3]
      exact q _ τ H (.int z) (.refl _ _) j rfl hk
  · exact h.elim
theorem ok_min {K : PySem.W.Frag} : RCok K T (rMnU K) ρMin := by
  intro τ H xs vs k Q j r h q
  unfold ρMin at h
  split at h
  · rename_i i i'
    obtain ⟨v, u, e, r1, r2⟩ := two_of r
    have r1 : v = .int i := r1
    have r2 : u = .int i' := r2
    subst e r1 r2
    exact .inl ⟨i, i', rfl, q _ τ H (.int _) (.refl _ _) j rfl h⟩
  · rename_i x _
    obtain ⟨l, ns, z, h1, h2, h3, hk⟩ := h
    obtain ⟨v, e, r1⟩ := one_of r
    obtain ⟨a, ws, ev, sq, rr⟩ := lstOf_ok j r1 h1
    have ew := intsOf_ok rr h2
    subst e ev ew
    refine .inr ⟨a, ns, rfl, sq, ?_, fun m hm hle => ?_⟩
    · cases ns with
      | nil => cases h3
      | cons _ _ => exact Nat.succ_pos _
    · rw [minL_uniq hm hle h3]
      exact q _ τ H (.int z) (.refl _ _) j rfl hk
  · exact h.elim
/-! int, str, bool -/
def rInt : List V → Hp → VK → Prop := fun xs H Q => ((∃ i, xs = [.int i] ∧ Q (.int i) H) ∨ ∃ k, xs = [.bl k] ∧ Q (.int (if k then 1 else 0)) H) ∨ (∃ a n, xs = [.str a] ∧ PySem.intText? a = some n ∧ a.length ≤ 640 ∧ Q (.int n) H)
theorem cr_int : CallR X (.type "int") rInt := call_int1.or call_int_str
def ρInt : DC := fun τ xs k => match xs with
  | [.int i] => k τ (.int i)
  | [.bl b] => k τ (.int (if b then 1 else 0))
  | [.str a] => ∃ n, PySem.intText? a = some n ∧ a.length ≤ 640 ∧ k τ (.int n)
  | _ => False
theorem ok_int {K : PySem.W.Frag} : RCok K T rInt ρInt := by
  intro τ H xs vs k Q j r h q
  match xs, h, r with
  | [.int i], h, r =>
    obtain ⟨v, e, r1⟩ := one_of r
    have r1 : v = .int i := r1
    subst e r1
    exact .inl (.inl ⟨i, rfl, q _ τ H (.int i) (.refl _ _) j rfl h⟩)
  | [.bl b], h, r =>
    obtain ⟨v, e, r1⟩ := one_of r
    have r1 : v = .bl b := r1
    subst e r1
    exact .inl (.inr ⟨b, rfl, q _ τ H (.int _) (.refl _ _) j rfl h⟩)
  | [.str a], h, r =>
    obtain ⟨v, e, r1⟩ := one_of r
    have r1 : v = .str a := r1
    subst e r1
    obtain ⟨n, h1, h2, h3⟩ := h
    exact .inr ⟨a, n, rfl, h1, h2, q _ τ H (.int n) (.refl _ _) j rfl h3⟩
def rStrI : List V → Hp → VK → Prop := fun xs H Q => ∃ i, xs = [.int i] ∧ i.natAbs.log2 < 1920 ∧ Q (.str (toString i)) H
theorem cr_strI : CallR X (.type "str") rStrI := call_str_int
/-- the text of an int -/
def strI (i : Int) : Str := (toString i : String)
def ρStr : DC := fun τ xs k => match xs with
  | [.int i] => i.natAbs.log2 < 1920 ∧ k τ (.str (strI i))
  | _ => False
theorem ok_str {K : PySem.W.Frag} : RCok K T rStrI ρStr := by
  intro τ H xs vs k Q j r h q
  match xs, h, r with
  | [.int i], h, r =>
    obtain ⟨v, e, r1⟩ := one_of r
    have r1 : v = .int i := r1
    subst e r1
    exact ⟨i, rfl, h.1, q _ τ H (.str (strI i)) (.refl _ _) j rfl h.2⟩
/-! len -/
def rLenU (K : PySem.W.Frag) : List V → Hp → VK → Prop := fun xs H Q => (∃ p ys, xs = [.ref p] ∧ (SqL K H p ys ∨ SqT K H p ys) ∧ Q (.int (ys.length : Nat)) H) ∨ (∃ z : Str, xs = [.str z] ∧ z.length ≤ sizeLine ∧ Q (.int (z.length : Nat)) H)
theorem cr_len : CallR X (.builtin "len") (rLenU X.K) := call_len_seq.or call_len_str
def ρLen : DC := fun τ xs k => match xs with
  | [.str z] => z.length ≤ sizeLine ∧ k τ (.int (z.length : Nat))
  | [.tup ys] => k τ (.int (ys.length : Nat))
  | [.lst ys] => k τ (.int (ys.length : Nat))
  | [.ref a] => (match τ a with
    | some (.lst ys) => k τ (.int (ys.length : Nat))
    | _ => False)
  | _ => False
theorem ok_len {K : PySem.W.Frag} : RCok K T (rLenU K) ρLen := by
  intro τ H xs vs k Q j r h q
  match xs, h, r with
  | [.str z], h, r =>
    obtain ⟨v, e, r1⟩ := one_of r
    have r1 : v = .str z := r1
    subst e r1
    exact .inr ⟨z, rfl, h.1, q _ τ H (.int _) (.refl _ _) j rfl h.2⟩
  | [.tup ys], h, r =>
    obtain ⟨v, e, r1⟩ := one_of r
    obtain ⟨a, ws, ev, l, rr⟩ := r1
    subst e ev
    exact .inl ⟨a, ws, rfl, .inr l.sq, by rw [rr.length]; exact q _ τ H (.int _) (.refl _ _) j rfl h⟩
  | [.lst ys], h, r =>
    obtain ⟨v, e, r1⟩ := one_of r
    obtain ⟨a, ws, ev, l, rr⟩ := r1
    subst e ev
    exact .inl ⟨a, ws, rfl, .inl l.sq, by rw [rr.length]; exact q _ τ H (.int _) (.refl _ _) j rfl h⟩
  | [.ref a], h, r =>
    obtain ⟨v, e, r1⟩ := one_of r
    have r1 : v = .ref a := r1
    subst e r1
    simp only [ρLen] at h
    split at h
    · rename_i ys ey
      obtain ⟨ws, hv, rr⟩ := j.obj a _ ey
      exact .inl ⟨a, ws, rfl, .inl (.of hv), by rw [rr.length]; exact q _ τ H (.int _) (.refl _ _) j rfl h⟩
    · exact h.elim
/-! sum, all, any -/
def ρSum : DC := fun τ xs k => match xs with
  | [x] => ∃ l ns, lstOf τ x = some l ∧ intsOf l = some ns ∧ k τ (.int ns.sum)
  | _ => False
theorem ok_sum {K : PySem.W.Frag} : RCok K T (rSum K) ρSum := by
  intro τ H xs vs k Q j r h q
  match xs, h, r with
  | [x], h, r =>
    obtain ⟨l, ns, h1, h2, hk⟩ := h
    obtain ⟨v, e, r1⟩ := one_of r
    obtain ⟨a, ws, ev, sq, rr⟩ := lstOf_ok j r1 h1
    have ew := intsOf_ok rr h2
    subst e ev ew
    exact ⟨a, ns, rfl, sq, q _ τ H (.int _) (.refl _ _) j rfl hk⟩
def ρAll : DC := fun τ xs k => match xs with
  | [x] => ∃ l ns, lstOf τ x = some l ∧ blsOf l = some ns ∧ k τ (.bl (ns.all id))
  | _ => False
def ρAny : DC := fun τ xs k => match xs with
  | [x] => ∃ l ns, lstOf τ x = some l ∧ blsOf l = some ns ∧ k τ (.bl (ns.any id))
  | _ => False
theorem ok_all {K : PySem.W.Frag} : RCok K T (rAll K) ρAll := by
  intro τ H xs vs k Q j r h q
  match xs, h, r with
  | [x], h, r =>
    obtain ⟨l, ns, h1, h2, hk⟩ := h
    obtain ⟨v, e, r1⟩ := one_of r
    obtain ⟨a, ws, ev, sq, rr⟩ := lstOf_ok j r1 h1
    have ew := blsOf_ok rr h2
    subst e ev ew
    exact ⟨a, ns, rfl, sq, q _ τ H (.bl _) (.refl _ _) j rfl hk⟩
theorem ok_any {K : PySem.W.Frag} : RCok K T (rAny K) ρAny := by
  intro τ H xs vs k Q j r h q
  match xs, h, r with
  | [x], h, r =>
    obtain ⟨l, ns, h1, h2, hk⟩ := h
    obtain ⟨v, e, r1⟩ := one_of r
    obtain ⟨a, ws, ev, sq, rr⟩ := lstOf_ok j r1 h1
    have ew := blsOf_ok rr h2
    subst e ev ew
    exact ⟨a, ns, rfl, sq, q _ τ H (.bl _) (.refl _ _) j rfl hk⟩
/-! isinstance of a built-in type -/
def tyN : D → Option String
  | .non => some "NoneType" | .bl _ => some "bool" | .int _ => some "int" | .str _ => some "str" | .tup _ => some "tuple" | .lst _ => some "list"
  | _ => none
theorem tyx_ok {K : PySem.W.Frag} {τ : TD} {H : Hp} {x : D} {v : V} {t : String} (r : DR K τ H x v) (h : tyN x = some t) : TyX K H v (.type t) := by
  cases x with
  | non => cases h; cases r; exact .base .non
  | bl b => cases h; cases r; exact .base (.bl b)
  | int b => cases h; cases r; exact .base (.int b)
  | str b => cases h; cases r; exact .base (.str b)
  | tup xs =>
    cases h
    obtain ⟨a, vs, e, l, _⟩ := r
    subst e
    rcases l.sq with (z | ⟨o, z⟩) | ⟨o, its, n, hk, hc, _⟩
    · exact .base (.tup z)
    · exact .fTuple z
    · exact .kTuple hk hc
  | lst xs =>
    cases h
    obtain ⟨a, vs, e, l, _⟩ := r
    subst e
    rcases l.sq with (z | ⟨o, z⟩) | ⟨o, its, n, hk, hc, _⟩
    · exact .base (.lst z)
    · exact .base (.frz z)
    · exact .kList hk hc
  | _ => cases h
def isiT (t n : String) : Option Bool := if t ∈ ["NoneType", "bool", "int", "str", "tuple", "list"] ∧ n ∈ ["int", "bool", "str", "tuple", "list"] then some ((t == n) || (t == "bool" && n == "int")) else none
def isiB (x : D) (n : String) : Option Bool := match tyN x with
  | some t => isiT t n
  | none => none
theorem kit_all : ∀ a ∈ ["NoneType", "bool", "int", "str", "tuple", "list"], ∀ b ∈ ["int", "bool", "str", "tuple", "list"], kitB a b = some ((a == b) || (a == "bool" && b == "int")) := by decide +kernel
theorem isiB_ok {x : D} {n : String} {b : Bool} (h : isiB x n = some b) : ∃ t, tyN x = some t ∧ kitB t n = some b := by
  unfold isiB at h
  split at h
  · rename_i t ht
    unfold isiT at h
    split at h
    · rename_i z
      exact ⟨t, ht, (kit_all t z.1 n z.2).trans h⟩
    · cases h
  · cases h
theorem isi_non_int {b : Bool} {i : Int} {z : Str} {l : List D} : isiB D.non "int" = some false := (show isiT "NoneType" "int" = some false by decide +kernel)
theorem isi_non_bool {b : Bool} {i : Int} {z : Str} {l : List D} : isiB D.non "bool" = some false := (show isiT "NoneType" "bool" = some false by decide +kernel)
theorem isi_non_str {b : Bool} {i : Int} {z : Str} {l : List D} : isiB D.non "str" = some false := (show isiT "NoneType" "str" = some false by decide +kernel)
theorem isi_non_tuple {b : Bool} {i : Int} {z : Str} {l : List D} : isiB D.non "tuple" = some false := (show isiT "NoneType" "tuple" = some false by decide +kernel)
theorem isi_non_list {b : Bool} {i : Int} {z : Str} {l : List D} : isiB D.non "list" = some false := (show isiT "NoneType" "list" = some false by decide +kernel)
theorem isi_bl_int {b : Bool} {i : Int} {z : Str} {l : List D} : isiB (D.bl b) "int" = some true := (show isiT "bool" "int" = some true by decide +kernel)
theorem isi_bl_bool {b : Bool} {i : Int} {z : Str} {l : List D} : isiB (D.bl b) "bool" = some true := (show isiT "bool" "bool" = some true by decide +kernel)
theorem isi_bl_str {b : Bool} {i : Int} {z : Str} {l : List D} : isiB (D.bl b) "str" = some false := (show isiT "bool" "str" = some false by decide +kernel)
theorem isi_bl_tuple {b : Bool} {i : Int} {z : Str} {l : List D} : isiB (D.bl b) "tuple" = some false := (show isiT "bool" "tuple" = some false by decide +kernel)
theorem isi_bl_list {b : Bool} {i : Int} {z : Str} {l : List D} : isiB (D.bl b) "list" = some false := (show isiT "bool" "list" = some false by decide +kernel)
theorem isi_int_int {b : Bool} {i : Int} {z : Str} {l : List D} : isiB (D.int i) "int" = some true := (show isiT "int" "int" = some true by decide +kernel)
theorem isi_int_bool {b : Bool} {i : Int} {z : Str} {l : List D} : isiB (D.int i) "bool" = some false := (show isiT "int" "bool" = some false by decide +kernel)
theorem isi_int_str {b : Bool} {i : Int} {z : Str} {l : List D} : isiB (D.int i) "str" = some false := (show isiT "int" "str" = some false by decide +kernel)
theorem isi_int_tuple {b : Bool} {i : Int} {z : Str} {l : List D} : isiB (D.int i) "tuple" = some false := (show isiT "int" "tuple" = some false by decide +kernel)
theorem isi_int_list {b : Bool} {i : Int} {z : Str} {l : List D} : isiB (D.int i) "list" = some false := (show isiT "int" "list" = some false by decide +kernel)
theorem isi_str_int {b : Bool} {i : Int} {z : Str} {l : List D} : isiB (D.str z) "int" = some false := (show isiT "str" "int" = some false by decide +kernel)
theorem isi_str_bool {b : Bool} {i : Int} {z : Str} {l : List D} : isiB (D.str z) "bool" = some false := (show isiT "str" "bool" = some false by decide +kernel)
theorem isi_str_str {b : Bool} {i : Int} {z : Str} {l : List D} : isiB (D.str z) "str" = some true := (show isiT "str" "str" = some true by decide +kernel)
theorem isi_str_tuple {b : Bool} {i : Int} {z : Str} {l : List D} : isiB (D.str z) "tuple" = some false := (show isiT "str" "tuple" = some false by decide +kernel)
theorem isi_str_list {b : Bool} {i : Int} {z : Str} {l : List D} : isiB (D.str z) "list" = some false := (show isiT "str" "list" = some false by decide +kernel)
theorem isi_tup_int {b : Bool} {i : Int} {z : Str} {l : List D} : isiB (D.tup l) "int" = some false := (show isiT "tuple" "int" = some false by decide +kernel)
theorem isi_tup_bool {b : Bool} {i : Int} {z : Str} {l : List D} : isiB (D.tup l) "bool" = some false := (show isiT "tuple" "bool" = some false by decide +kernel)
theorem isi_tup_str {b : Bool} {i : Int} {z : Str} {l : List D} : isiB (D.tup l) "str" = some false := (show isiT "tuple" "str" = some false by decide +kernel)
theorem isi_tup_tuple {b : Bool} {i : Int} {z : Str} {l : List D} : isiB (D.tup l) "tuple" = some true := (show isiT "tuple" "tuple" = some true by decide +kernel)
theorem isi_tup_list {b : Bool} {i : Int} {z : Str} {l : List D} : isiB (D.tup l) "list" = some false := (show isiT "tuple" "list" = some false by decide +kernel)
theorem isi_lst_int {b : Bool} {i : Int} {z : Str} {l : List D} : isiB (D.lst l) "int" = some false := (show isiT "list" "int" = some false by decide +kernel)
theorem isi_lst_bool {b : Bool} {i : Int} {z : Str} {l : List D} : isiB (D.lst l) "bool" = some false := (show isiT "list" "bool" = some false by decide +kernel)
theorem isi_lst_str {b : Bool} {i : Int} {z : Str} {l : List D} : isiB (D.lst l) "str" = some false := (show isiT "list" "str" = some false by decide +kernel)
theorem isi_lst_tuple {b : Bool} {i : Int} {z : Str} {l : List D} : isiB (D.lst l) "tuple" = some false := (show isiT "list" "tuple" = some false by decide +kernel)
theorem isi_lst_list {b : Bool} {i : Int} {z : Str} {l : List D} : isiB (D.lst l) "list" = some true := (show isiT "list" "list" = some true by decide +kernel)
def ρIsi : DC := fun τ xs k => match xs with
  | [x, .ty n] => (match isiB x n with
    | some b => k τ (.bl b)
    | none => False)
  | _ => False
theorem ok_isi {K : PySem.W.Frag} : RCok K T (rIsi K) ρIsi := by
  intro τ H xs vs k Q j r h q
  match xs, h, r with
  | [x, .ty n], h, r =>
    obtain ⟨v, u, e, r1, r2⟩ := two_of r
    have r2 : u = .ty n := r2
    subst e r2
    simp only [ρIsi] at h
    split at h
    · rename_i b hb
      obtain ⟨t, h1, h2⟩ := isiB_ok hb
      exact ⟨v, .ty n, .type t, .type n, b, rfl, .ty n, tyx_ok r1 h1, kit_ty h2, q _ τ H (.bl b) (.refl _ _) j rfl h⟩
    · exact h.elim
/-! tuple(..), list(..) -/
def rTupO (K : PySem.W.Frag) : List V → Hp → VK → Prop := fun xs H Q => ∃ p ys, xs = [.ref p] ∧ ((SqL K H p ys ∧ ∀ l, H l = none → Q (.ref l) (upd H l (.tup ys))) ∨ (SqT K H p ys ∧ Q (.ref p) H))
theorem cr_tupO : CallR X (.type "tuple") (rTupO X.K) := call_tuple_of
def ρTupO : DC := fun τ xs k => match xs with
  | [.tup ys] => k τ (.tup ys)
  | [.lst ys] => k τ (.tup ys)
  | [.ref a] => (match τ a with
    | some (.lst ys) => k τ (.tup ys)
    | _ => False)
  | _ => False
theorem ok_tupO {K : PySem.W.Frag} : RCok K T (rTupO K) ρTupO := by
  intro τ H xs vs k Q j r h q
  match xs, h, r with
  | [.tup ys], h, r =>
    obtain ⟨v, e, r1⟩ := one_of r
    obtain ⟨a, ws, ev, l, rr⟩ := r1
    subst e ev
    exact ⟨a, ws, rfl, .inr ⟨l.sq, q _ τ H (.tup ys) (.refl _ _) j ⟨a, ws, rfl, l, rr⟩ h⟩⟩
  | [.lst ys], h, r =>
    obtain ⟨v, e, r1⟩ := one_of r
    obtain ⟨a, ws, ev, l, rr⟩ := r1
    subst e ev
    exact ⟨a, ws, rfl, .inl ⟨l.sq, fun p hp => q (.ref p) τ _ (.tup ys) (.new hp) (j.new hp) ⟨p, _, rfl, .inl ⟨.of upd_same, j.free hp⟩, rr.ext (.new hp)⟩ h⟩⟩
  | [.ref a], h, r =>
    obtain ⟨v, e, r1⟩ := one_of r
    have r1 : v = .ref a := r1
    subst e r1
    simp only [ρTupO] at h
    split at h
    · rename_i ys ey
      obtain ⟨ws, hv, rr⟩ := j.obj a _ ey
      exact ⟨a, ws, rfl, .inl ⟨.of hv, fun p hp => q (.ref p) τ _ (.tup ys) (.new hp) (j.new hp) ⟨p, _, rfl, .inl ⟨.of upd_same, j.free hp⟩, rr.ext (.new hp)⟩ h⟩⟩
    · exact h.elim
def rLstO (K : PySem.W.Frag) : List V → Hp → VK → Prop := fun xs H Q => ∃ p ys, xs = [.ref p] ∧ (SqL K H p ys ∨ SqT K H p ys) ∧ ∀ l, H l = none → Q (.ref l) (upd H l (.lst ys))
theorem cr_lstO : CallR X (.type "list") (rLstO X.K) := call_list_of
def ρLstO : DC := fun τ xs k => match xs with
  | [.tup ys] => k τ (.lst ys)
  | [.lst ys] => k τ (.lst ys)
  | [.ref a] => (match τ a with
    | some (.lst ys) => k τ (.lst ys)
    | _ => False)
  | _ => False
theorem ok_lstO {K : PySem.W.Frag} : RCok K T (rLstO K) ρLstO := by
  intro τ H xs vs k Q j r h q
  match xs, h, r with
  | [.tup ys], h, r =>
    obtain ⟨v, e, r1⟩ := one_of r
    obtain ⟨a, ws, ev, l, rr⟩ := r1
    subst e ev
    exact ⟨a, ws, rfl, .inr l.sq, fun p hp => q (.ref p) τ _ (.lst ys) (.new hp) (j.new hp) ⟨p, _, rfl, .inl ⟨.of upd_same, j.free hp⟩, rr.ext (.new hp)⟩ h⟩
  | [.lst ys], h, r =>
    obtain ⟨v, e, r1⟩ := one_of r
    obtain ⟨a, ws, ev, l, rr⟩ := r1
    subst e ev
    exact ⟨a, ws, rfl, .inl l.sq, fun p hp => q (.ref p) τ _ (.lst ys) (.new hp) (j.new hp) ⟨p, _, rfl, .inl ⟨.of upd_same, j.free hp⟩, rr.ext (.new hp)⟩ h⟩
  | [.ref a], h, r =>
    obtain ⟨v, e, r1⟩ := one_of r
    have r1 : v = .ref a := r1
    subst e r1
    simp only [ρLstO] at h
    split at h
    · rename_i ys ey
      obtain ⟨ws, hv, rr⟩ := j.obj a _ ey
      exact ⟨a, ws, rfl, .inl (.of hv), fun p hp => q (.ref p) τ _ (.lst ys) (.new hp) (j.new hp) ⟨p, _, rfl, .inl ⟨.of upd_same, j.free hp⟩, rr.ext (.new hp)⟩ h⟩
    · exact h.elim
/-! ### methods, stores -/
def θStr : TD → D → Prop := fun _ x => match x with
  | .str _ => True
  | _ => False
theorem ty_str {K : PySem.W.Frag} : TyOk K T "str" θStr := fun τ H x v j r h => by
  cases x with
  | str z => cases r; exact rfl
  | _ => exact h.elim
def θLst : TD → D → Prop := fun τ x => (lstOf τ x).isSome = true
theorem ty_lst {K : PySem.W.Frag} : TyOk K T "list" θLst := fun τ H x v j r h => by
  obtain ⟨l, e⟩ := Option.isSome_iff_exists.mp h
  obtain ⟨a, vs, ev, sq, _⟩ := lstOf_ok j r e
  subst ev
  exact .inl ⟨rfl, vs, sq⟩
/-- xs.append(d) -/
def ρApp : DM := fun τ x xs k => match x, xs with
  | .ref a, [d] => (match τ a with
    | some (.lst ys) => ys.length < sizeLine ∧ k (tset τ a (.lst (ys ++ [d]))) .non
    | _ => False)
  | _, _ => False
theorem ok_app {K : PySem.W.Frag} : RMok K T rAppend ρApp := by
  intro τ H x vx xs vs k Q j rx r h q
  match x, xs, h, rx, r with
  | .ref a, [d], h, rx, r =>
    obtain ⟨v, e, r1⟩ := one_of r
    have rx : vx = .ref a := rx
    subst e rx
    simp only [ρApp] at h
    split at h
    · rename_i ys ey
      obtain ⟨ws, hv, rr⟩ := j.obj a _ ey
      have ec : Ext τ H (tset τ a (.lst (ys ++ [d]))) (upd H a (.lst (ws ++ [v]))) := .chg ey
      exact ⟨a, ws, v, rfl, rfl, hv, by rw [rr.length]; exact h.1, q .non _ _ .non ec (j.chg ey ⟨_, upd_same, (rr.ext ec).append (.one (r1.ext ec))⟩) rfl h.2⟩
    · exact h.elim
/-- sep.join(texts) -/
def rJoin (K : PySem.W.Frag) : V → List V → Hp → VK → Prop := fun x xs H Q => ∃ a p, ∃ ys : List Str, x = .str a ∧ xs = [.ref p] ∧ (SqL K H p (ys.map V.str) ∨ SqT K H p (ys.map V.str)) ∧ (ys.map (·.length)).sum + ys.length * a.length ≤ 16777216 ∧ Q (.str (Txt.join a ys)) H
def ρJoin : DM := fun τ x xs k => match x, xs with
  | .str a, [y] => ∃ l ys, (lstOf τ y = some l ∨ tupOf y = some l) ∧ strsOf l = some ys ∧ (ys.map (·.length)).sum + ys.length * a.length ≤ 16777216 ∧ k τ (.str (Txt.join a ys))
  | _, _ => False
theorem ok_join {K : PySem.W.Frag} : RMok K T (rJoin K) ρJoin := by
  intro τ H x vx xs vs k Q j rx r h q
  match x, xs, h, rx, r with
  | .str a, [y], h, rx, r =>
    obtain ⟨v, e, r1⟩ := one_of r
    have rx : vx = .str a := rx
    subst e rx
    obtain ⟨l, ys, h1, h2, h3, hk⟩ := h
    rcases h1 with h1 | h1
    · obtain ⟨p, ws, ev, sq, rr⟩ := lstOf_ok j r1 h1
      have ew := strsOf_ok rr h2
      subst ev ew
      exact ⟨a, p, ys, rfl, rfl, .inl sq, h3, q _ τ H (.str _) (.refl _ _) j rfl hk⟩
    · obtain ⟨p, ws, ev, _, sq, rr⟩ := tupOf_ok r1 h1
      have ew := strsOf_ok rr h2
      subst ev ew
      exact ⟨a, p, ys, rfl, rfl, .inr sq, h3, q _ τ H (.str _) (.refl _ _) j rfl hk⟩
/-- xs[i] = v -/
def ςLst : DSet := fun τ x i v k => match x, i with
  | .ref a, .int z => (match τ a with
    | some (.lst ys) => (match ixN ys.length z with
      | some n => k (tset τ a (.lst (ys.set n v)))
      | none => False)
    | _ => False)
  | _, _ => False
theorem ok_setL {K : PySem.W.Frag} : RSet K T rSetL ςLst := by
  intro τ H x i y vx vi vy k Q j rx ri ry h q
  match x, i, h, rx, ri with
  | .ref a, .int z, h, rx, ri =>
    have rx : vx = .ref a := rx
    have ri : vi = .int z := ri
    subst rx ri
    simp only [ςLst] at h
    split at h
    · rename_i ys ey
      split at h
      · rename_i n en
        obtain ⟨ws, hv, rr⟩ := j.obj a _ ey
        have ec : Ext τ H (tset τ a (.lst (ys.set n y))) (upd H a (.lst (ws.set n vy))) := .chg ey
        exact ⟨a, ws, z, n, rfl, rfl, hv, by rw [rr.length]; exact en, q _ _ ec (j.chg ey ⟨_, upd_same, (rr.ext ec).set n (ry.ext ec)⟩) h⟩
      · exact h.elim
    · exact h.elim
end
end DL

set_option Elab.async false
set_option linter.all false
set_option maxRecDepth 100000
set_option maxHeartbeats 2000000
/-! The data layer, 6: an own error whose __init__ hands its argument to super and keeps it in a field of the same name. -/
namespace DX
open PySem PySem.W PySem.Calls PyProof.Rows
section
variable (fld : Str)
def iA (p1 p2 : Pos) : Arguments := { posonlyargs := [], args := [{ arg := "self", annotation := none, pos := p1 }, { arg := fld, annotation := none, pos := p2 }], vararg := none, kwonlyargs := [], kw_defaults := [], kwarg := none, defaults := [] }
def iB (q1 q2 q3 q4 q5 q6 q7 q8 q9 q10 : Pos) : List Stmt := [.Expr (.Call (.Attribute (.Call (.Name "super" q1) [] [] q2) "__init__" q3) [.Name fld q4] [] q5) q6, .Assign [.Attribute (.Name "self" q7) fld q8] (.Name fld q9) q10]
def iS : Scope := { kind := .function, names := [(PySem.Str.ofString "self", .local), (fld, .local), (PySem.Str.ofString "__class__", .free), (PySem.Str.ofString "super", .globalImplicit)], isGenerator := false, isCoroutine := false, more := [] }
end
theorem boot_sup : bootBuiltins "super" = some (.type "super") := by decide +kernel
/-- the fields' names -/
inductive Fld : Str → Prop where
  | name : Fld "name" | word : Fld "word" | place : Fld "place" | line : Fld "line"
/-- what the written part says of the class at C and of its __init__ at fI; cc the cell of __class__, cda the code object -/
structure ErrTxt (prog : Program) (K : Frag) (mg : Str → Option Value) (cn fld : Str) (C fI cc cda : Addr) : Prop where
  gC : mg cn = some (.ref C)
  cls : ∃ nm q N bs bm sn sub ab col dd k0 k1 k2 k3 k5, K.lookup C = some (excClassObj nm q C N bs bm true sn sub ab col dd k0 k1 k2 k3 k5 "ValueError.__new__") ∧ HandSPX.refsVE bm = true ∧ alongIn K "__init__" bm = some (some (.builtin "ValueError.__init__"))
  exi : excInitIn K C HandSPX.veTail "ValueError.__new__" = true
  sa : findIn K (.ref C) "__setattr__" = some (some (.builtin "object.__setattr__"))
  ga : findIn K (.ref C) "__getattribute__" = some (some (.builtin "BaseException.__getattribute__"))
  gg : findIn K (.ref C) "__getattr__" = some none
  noN : findIn K (.ref C) fld = some none
  iC : findIn K (.ref C) "__init__" = some (some (.ref fI))
  tC : typeIn K (.ref fI) = some (.type "function")
  kC : keepIn K (.ref C) = true
  exC : subIn K (.ref C) (.type "BaseException") = some true
  veC : subIn K (.ref C) (.type "ValueError") = some true
  selfC : mroIn K C (.ref C) = some true
  tyC : typeIn K (.ref C) = some (.type "type")
  hdC : hasDictIn K C = true
  te : exmOne K (.ref C) (.ref C) = some true
  opq : nsIn K cStatics "thirdparty.any" = some none
  sup : mg "super" = none
  nosup : (prog.main.scope.names.lookup ("super" : Str)).isSome = false
  cell : ∃ cl cld csl, K.lookup cc = some ⟨cl, cld, .cell (some (.ref C)), csl⟩
  code : ∃ ccl cdd vs ccs file tf, K.lookup cda = some ⟨ccl, cdd, .fields vs, ccs⟩ ∧ vs[2]? = some (.str file tf) ∧ ((prog.main.file : Str) == file) = true
  fn : ∃ (qual : Str) (oc : Value) (od : Option Addr) (doc pm : Value) (an : Option Addr) (ct : Value) (osl : Array (Option Value)) (p1 p2 q1 q2 q3 q4 q5 q6 q7 q8 q9 q10 : Pos),
    K.lookup fI = some ⟨oc, od, .func (ksFn "__init__" qual (iA fld p1 p2) (iB fld q1 q2 q3 q4 q5 q6 q7 q8 q9 q10) (iS fld) .none .none doc pm an (.ref cda) ct cc), osl⟩ ∧ codeIn K (.ref cda) qual = true ∧
    ∃ pl : Env → Sem Bool, ∀ env, eval (.Call (.Attribute (.Call (.Name "super" q1) [] [] q2) "__init__" q3) [.Name fld q4] [] q5) env = (do
      let ov ← attributeBase (.Call (.Name "super" q1) [] [] q2) "__init__" env (eval (.Call (.Name "super" q1) [] [] q2) env)
      standAt q3.atName
      let (f, first) ← holding [ov] (getMethod ov "__init__" (pl env))
      callWith q5 f first (backTo q5 (starEach [.Name fld q4] env)) [])
/-- a made error: e the object, d its dict -/
structure Made (fld : Str) (h h' : Heap) (e C d : Addr) (v : Value) : Prop where
  keep : ∀ b o, h.get? b = some o → h'.get? b = some o
  new : h.objs.size ≤ e
  obj : ∃ oe vs, h'.get? e = some oe ∧ oe.cls = .ref C ∧ oe.dict = some d ∧ oe.data = .fields vs ∧ vs[1]? = some .none
  dbig : h.objs.size ≤ d
  dne : d ≠ e
  ns : h'.Ns1 d (fun y => if y = fld then some v else none)
section
variable {prog : Program} {w : World} {A : Around} {E : Value → Shared → Prop} {R : Result → Shared → Prop} {s : Shared} {K : Frag} {mg : Str → Option Value} {cn fld : Str} {C fI cc cda : Addr}
theorem lk (hf : Fld fld) : (iS fld).names.lookup fld = some .local ∧ (iS fld).names.lookup ("self" : Str) = some .local ∧ (iS fld).names.lookup ("__class__" : Str) = some .free ∧ (iS fld).names.lookup ("super" : Str) = some .globalImplicit ∧ (fld == ("__debug__" : Str)) = false ∧ ∀ y ∈ (iS fld).names, y.2 ≠ .cell := by
  cases hf <;> exact ⟨rfl, rfl, rfl, rfl, by decide, by decide⟩
theorem init_ok (hf : Fld fld) (T : ErrTxt prog K mg cn fld C fI cc cda) {x t0 : Addr} {v : Value} (X : K.In s.heap) (hg : s.heap.Ns mainGlobals mg) (hb : ∃ mb, s.heap.Ns builtinsNs mb ∧ ∀ y : Str, y ≠ "__name__" → mb y = bootBuiltins y) (hlim : s.heap.NoLimit) (hx : s.heap.get? x = some (excObj C t0 none .none)) (hnx : K.lookup x = none) (hroom : A.depth < recursionLimit)
    (hq : ∀ h' tk dx t1, (∀ b o, b ≠ x → s.heap.get? b = some o → h'.get? b = some o) → h'.get? x = some (excObj C t1 (some dx) .none) → s.heap.objs.size ≤ dx → dx ≠ x → h'.Ns1 dx (fun y => if y = fld then some v else none) → R (.ok (.ret .none)) { s with heap := h', toks := tk }) :
    codeAny (model prog w) A (.call (.ref fI) ⟨[.ref x, v], []⟩) R s := by
  obtain ⟨qual, oc, od, doc, pm, an, ct, osl, p1, p2, q1, q2, q3, q4, q5, q6, q7, q8, q9, q10, ho, hcd, pl, hpl⟩ := T.fn
  obtain ⟨nm, q, N, bs, bm, sn, sub, ab, col, dd, k0, k1, k2, k3, k5, hC, hbm, hal⟩ := T.cls
  obtain ⟨cl, cld, csl, hcell⟩ := T.cell
  obtain ⟨ccl, cdd, vs, ccs, file, tf, hcode, hvs, hfile⟩ := T.code
  obtain ⟨mb, hmb, hbb⟩ := hb
  obtain ⟨l1, l2, l3, l4, l5, l6⟩ := lk hf
  have hcl : clsIn K C = some { name := nm, bases := bs, mro := .ref C :: bm, ns := N, qualname := q, hasDict := true, slotNames := sn, subclasses := sub, abstract := ab, collection := col, hasDel := false } := by unfold clsIn; rw [hC] <;> rfl
  -- what stood, but for the object
  have hgK : K.In (hideAll s.heap [x]) := fun a o e => hideAll_get _ (X a o e) (by
    intro z
    have z : a = x := by simpa using z
    rw [z, hnx] at e; cases e)
  refine ks_codeAny_call_defAt (fd := ksFn "__init__" qual (iA fld p1 p2) (iB fld q1 q2 q3 q4 q5 q6 q7 q8 q9 q10) (iS fld) .none .none doc pm an (.ref cda) ct cc) (body := iB fld q1 q2 q3 q4 q5 q6 q7 q8 q9 q10) (binds := [("self", .ref x), (fld, v)]) hroom (X _ _ ho) rfl hlim (codeRec_of X hcd) rfl
    (BindsTo.of_eq (by cases hf <;> (first | rfl | with_unfolding_all rfl))) l6 (fun y hy => by
      rcases List.mem_cons.mp hy with e | hy
      · rw [e]; exact l2
      · rcases List.mem_cons.mp hy with e | hy
        · rw [e]; exact l1
        · cases hy) (fun h₀ hns hk => ?_)
  obtain ⟨hp, g, d, t, os⟩ := s
  have hxL : x < hp.objs.size := Heap.lt_size hx
  have hx₀ := hk _ _ hx
  have X₀ : K.In h₀ := X.keeps hk
  -- the frame, the object
  have F0 : Fr (hideAll hp [x]) hp.objs.size h₀ (fun y => ([("self", Value.ref x), (fld, v)] : List (Str × Value)).reverse.lookup y) := ⟨hns, fun b o e => hk _ _ (of_hideAll _ e), Nat.le_of_eq (hideAll_size _ _)⟩
  have N0 : News (hideAll hp [x]) hp.objs.size h₀ [(x, excObj C t0 none .none)] := fun p hp' => by
    have e : p = (x, excObj C t0 none .none) := by simpa using hp'
    subst e
    exact ⟨hx₀, Nat.ne_of_lt hxL, hideAll_none _ (by simp)⟩
  have vself : (fun y => ([("self", Value.ref x), (fld, v)] : List (Str × Value)).reverse.lookup y) "self" = some (.ref x) := by cases hf <;> rfl
  have vfld : (fun y => ([("self", Value.ref x), (fld, v)] : List (Str × Value)).reverse.lookup y) fld = some v := by cases hf <;> rfl
  refine ks_wpAt_execs_cons (ks_wpAt_Expr_any ?_ (by rfl) (by rfl))
  refine ks_wpAt_MethodCall (pl := pl _) ?_ (hpl _)
  -- super()
  have hCh : h₀.get? C = some (excClassObj nm q C N bs bm true sn sub ab col dd k0 k1 k2 k3 k5 "ValueError.__new__") := X₀ _ _ hC
  refine ks_wpAt_super_base (env := callEnv (ksFn "__init__" qual (iA fld p1 p2) (iB fld q1 q2 q3 q4 q5 q6 q7 q8 q9 q10) (iS fld) .none .none doc pm an (.ref cda) ct cc) hp.objs.size fI) l4 l3 (by decide) rfl (X₀ _ _ ho) rfl rfl rfl (X₀ _ _ hcode) rfl hvs hfile T.nosup ?_
  refine ks_loadName_global rfl l4 (loadGlobal_builtin (hg.keeps hk) T.sup (hmb.keeps hk) ((hbb _ (by decide)).trans boot_sup) ⟨rfl, ?_⟩)
  refine wpAny_loadName_free rfl l3 rfl ⟨_, X₀ _ _ hcell, rfl⟩ ?_
  refine wpAny_loadName_local rfl l2 hns vself ?_
  refine ks_wpAny_isType_cls hCh rfl ⟨rfl, ?_⟩
  refine ks_wpAny_call_super hCh rfl hx₀ rfl (fun c e => by cases e) (looks_mroIn X₀ T.selfC) (fun h1 e1 k1 => ?_)
  obtain ⟨F1, N1, lt1⟩ := ks_newsPush (s := ⟨h₀, g, d, t + ([("self", Value.ref x), (fld, v)] : List (Str × Value)).length, os⟩) F0 N0 rfl e1 k1
  have I1 : InstAt h1 x (excObj C t0 none .none) C none := ⟨(N1 (x, excObj C t0 none .none) (List.mem_cons_of_mem _ List.mem_cons_self)).1, rfl, rfl, trivial⟩
  refine kxs_method kxs_ValueError F1 hgK N1 (so := h₀.objs.size) (D := C) (C := C) (x := x) (by simp) I1 T.opq ?_ T.veC (by decide) (fun q' h2 F2 N2 lt2 => ?_)
  · unfold ks_superIn
    rw [hcl, Option.bind_some]
    show alongIn K "__init__" (((Value.ref C :: bm).dropWhile (· != .ref C)).drop 1) = _
    have e : ((Value.ref C :: bm).dropWhile (· != .ref C)).drop 1 = bm := by simp [List.dropWhile_cons]
    rw [e]
    exact hal
  have hs1 : h₀.objs.size < q' := lt2 (h₀.objs.size, ks_superObj C x C) List.mem_cons_self
  have hs2 : x < q' := lt2 (x, excObj C t0 none .none) (List.mem_cons_of_mem _ List.mem_cons_self)
  have hs3 : x < h₀.objs.size := lt1 (x, excObj C t0 none .none) List.mem_cons_self
  refine kxs_callWith1 (i := "ValueError.__init__") (x := x) N2 (by simp) ?_ (by rfl) (by rfl)
  refine Calls.spliced_cons (wpAny_Name (wpAny_loadName_local rfl l1 F2.ns vfld ?_) l5)
  refine Calls.spliced_nil ⟨kxs_at N2 (by simp), ?_⟩
  refine kxs_call F2 hgK N2 F.excBase_ValueError T.exi (t := t0) (dv := none) (c2 := .none) (by simp) (.tail (Nat.ne_of_gt hs2) (.tail (Nat.ne_of_gt hs3) (.head (by simp)))) (by rw [sizeLine_eq]; exact (by decide : 1 ≤ 16777216)) (fun t' h3 F3 N3 lt3 => ?_)
  -- self.fld = fld
  have hx3 : h3.get? x = some (excObj C t' none .none) := (N3 (x, excObj C t' none .none) (List.mem_cons_of_mem _ (List.mem_cons_of_mem _ (List.mem_cons_of_mem _ List.mem_cons_self)))).1
  have X₃ : K.In h3 := hgK.keeps F3.keep
  have keep3 : ∀ b o, b ≠ x → hp.get? b = some o → h3.get? b = some o := fun b o hb e => F3.keep b o (hideAll_get _ e (by simpa using hb))
  refine ks_wpAt_execs_cons (wpAt_of_wpAny (plainObj_wpAny_Assign_Attribute ?_))
  refine wpAny_Name (wpAny_loadName_local rfl l1 F3.ns vfld ?_) l5
  refine wpAny_Name (wpAny_loadName_local rfl l2 F3.ns vself ?_) (by decide)
  refine set_plain X₃ (ox := excObj C t' none .none) (od := none) ⟨hx3, rfl, rfl, trivial⟩ T.sa ?_
  refine HandSPX.exc_osa X₃ hx3 hcl (show HandSPX.refsVE (.ref C :: bm) = true from hbm) rfl T.noN (fun h4 tk4 dx k4 dn dne hx4 hn4 => ?_)
  refine wpAt_of_wpAny (wpAny_execs_nil ?_)
  have big : hp.objs.size < h3.objs.size := F3.ns.lt
  exact hq h4 tk4 dx t' (fun b o hb e => k4 b o hb (keep3 b o hb e)) hx4 (Nat.le_of_lt (Nat.lt_of_lt_of_le big dn)) dne hn4
/-- C(v): the object and its dict -/
theorem made_ok (hf : Fld fld) (T : ErrTxt prog K mg cn fld C fI cc cda) {v : Value} (X : K.In s.heap) (hg : s.heap.Ns mainGlobals mg) (hb : ∃ mb, s.heap.Ns builtinsNs mb ∧ ∀ y : Str, y ≠ "__name__" → mb y = bootBuiltins y) (hlim : s.heap.NoLimit) (hroom : A.depth + 1 < recursionLimit)
    (hq : ∀ h' tk e d, Made fld s.heap h' e C d v → R (.ok (.ret (.ref e))) { s with heap := h', toks := tk }) :
    codeAny (model prog w) A (.call (.ref C) ⟨[v], []⟩) R s := by
  obtain ⟨nm, q, N, bs, bm, sn, sub, ab, col, dd, k0, k1, k2, k3, k5, hC, hbm, hal⟩ := T.cls
  obtain ⟨hp, g, dr, tk, os⟩ := s
  have k : ∀ b o, hp.get? b = some o → ((hp.push (kdv_tup [v])).push (HandSPX.excO C hp.objs.size)).get? b = some o := fun b o e => Heap.get?_push_of_some _ (Heap.get?_push_of_some _ e)
  have at1 : ((hp.push (kdv_tup [v])).push (HandSPX.excO C hp.objs.size)).get? (hp.objs.size + 1) = some (HandSPX.excO C hp.objs.size) := by heap_get
  have fresh : K.lookup (hp.objs.size + 1) = none := by
    cases e : K.lookup (hp.objs.size + 1) with
    | none => rfl
    | some o => exact absurd (Nat.lt_of_succ_lt (Heap.lt_size (X _ _ e))) (Nat.lt_irrefl _)
  obtain ⟨mb, h1, h2⟩ := hb
  refine HandSPX.call_own F.excBase_ValueError (fun Y => HandSPX.refsVE_contains Y bm hbm) (X _ _ hC) (looks_findIn X T.iC) (fun self => bind_fn X self T.tC) (by rw [sizeLine_eq]; exact (by decide : 1 ≤ 16777216)) ?_
  refine init_ok hf (s := ⟨(hp.push (kdv_tup [v])).push (HandSPX.excO C hp.objs.size), g, dr, tk, os⟩) T (X.keeps k) (hg.keeps k) ⟨mb, h1.keeps k, h2⟩ (hlim.keeps k) at1 fresh (by exact hroom) fun h' tk' dx t1 k' hx dn dne hns => ?_
  have z : hp.objs.size + 1 + 1 ≤ dx := by
    have := dn
    simp only [Heap.size_push] at this
    exact this
  exact ⟨rfl, hq h' tk' (hp.objs.size + 1) dx ⟨fun b o e => k' b o (Nat.ne_of_lt (Nat.lt_succ_of_lt (Heap.lt_size e))) (k b o e), Nat.le_succ _, ⟨_, _, hx, rfl, rfl, rfl, rfl⟩, Nat.le_trans (Nat.le_trans (Nat.le_succ _) (Nat.le_succ _)) z, dne, hns⟩⟩
end
end DX

set_option Elab.async false
set_option linter.all false
set_option maxRecDepth 100000
set_option maxHeartbeats 1000000
/-! The data layer, 7: raise of an own error, lambdas that are called under try, named arguments. -/
namespace DX
open PySem PySem.Spec PyProof.Rows L2
theorem relO_fld {fld : Str} {v : V} {v' : Value} (r : RelV v v') (f : Str) : RelO (List.lookup f [(fld, v)]) (if f = fld then some v' else none) := by
  by_cases hw : f = fld
  · subst hw
    rw [if_pos rfl]
    have q : List.lookup f [(f, v)] = some v := by simp [List.lookup]
    rw [q]
    exact r
  · rw [if_neg hw]
    have qw : (f == fld) = false := by simpa using hw
    have q2 : List.lookup f [(fld, v)] = none := by simp [List.lookup, qw]
    rw [q2]
    trivial
def tMkX (C : Addr) (fld : Str) (ta : TA) : L2.St → Hp → XK → Prop := fun σ H Q => ta σ H fun vs H1 => ∃ v, vs = [v] ∧ ∀ d, H1 d = none → Q (.ref C) (some d) (upd H1 d (.xd [(fld, v)]))
section
variable {X : Cx} {C fI cc cda : Addr} {cn fld : Str}
theorem pmk_own {a : Expr} {ta : TA} {p pos : Pos} {k : Nat} (hf : Fld fld) (Te : ErrTxt X.prog X.K X.mg cn fld C fI cc cda) (hr : Room k X.A) (ha : PA X [a] ta) (hg : Gl X cn) (hdb : (cn == ("__debug__" : Str)) = false := by decide)
    (he : starEach (a :: []) X.env = (false, eval a X.env) :: starEach [] X.env := by rfl) (hpl : (backTo pos (starEach [] X.env)).any (·.1) = false := by rfl) :
    PMk X (.Call (.Name cn p) [a] [] pos) (tMkX C fld ta) := by
  intro pins s σ H Q I h
  refine wpAny_Call_Name_kw (ld_glob I hg Te.gC ?_ hdb)
  refine PySem.W.callWith_K (h₀ := X.base) I.ok.mod.kin Te.kC (thn (ha.run pos pins s σ H _ I h) fun us s1 hh => ?_) he hpl
  obtain ⟨vs, H1, I1, r1, v, ev, q1⟩ := hh
  subst ev
  refine ⟨I1.kIn, ?_⟩
  cases r1 with
  | cons rv rn =>
    rename_i v' us'
    cases rn
    show wpAny _ _ (call (.ref C) [v']) _ _ _
    have hlim := I1.nolimit
    have hglob := I1.ok.mod.glob.keeps I1.bk
    have hblt : ∃ mb, s1.heap.Ns builtinsNs mb ∧ ∀ y : Str, y ≠ "__name__" → mb y = bootBuiltins y := by
      obtain ⟨mb, z1, z2⟩ := I1.ok.mod.blt
      exact ⟨mb, z1.keeps I1.bk, z2⟩
    obtain ⟨hp, g, dr, tk, os⟩ := s1
    refine wpAny_call (made_ok hf Te I1.kIn hglob hblt hlim (by have := hr.dp; omega) fun h' tk' e d M => ?_)
    show MkP X pins σ Q (.ref e) ⟨h', g, dr, tk', os⟩
    obtain ⟨oe, fv, hoe, hc, hd, hdat, h1⟩ := M.obj
    have hns := M.ns
    obtain ⟨G', g1, g2⟩ := restrict h' fun b => decide (b ≠ e)
    have gk : ∀ b, b ≠ e → G'.get? b = h'.get? b := fun b hb => g1 b (decide_eq_true hb)
    have ge : G'.get? e = none := g2 e (by simp)
    have old : ∀ b o, hp.get? b = some o → G'.get? b = some o := fun b o q => (gk b (Nat.ne_of_lt (Nat.lt_of_lt_of_le (Heap.lt_size q) M.new))).trans (M.keep b o q)
    have ob : ObjOk X.prog X.w (upd H1 d (.xd [(fld, v)])) G' d (.xd [(fld, v)]) :=
      ⟨_, hns.at (fun o q => (gk d M.dne).trans q), fun f => relO_fld rv f⟩
    have J : Inv X pins σ (upd H1 d (.xd [(fld, v)])) ⟨G', g, dr, tk', os⟩ := I1.laid (t' := tk') old M.dbig ob
    refine ⟨e, oe, fv, ⟨G', g, dr, tk', os⟩, _, .ref C, some d, rfl, J, fun b o q => ?_, ge, hoe, ⟨hc, hd⟩, hdat, h1, ?_, rfl, I1.bare, raises_own Te.exC Te.tyC, q1 d (I1.hok.fresh M.dbig)⟩
    · by_cases hb : b = e
      · have q' : G'.get? b = some o := q
        rw [hb, ge] at q'; cases q'
      · exact (gk b hb).symm.trans q
    · rw [upd_ne (Ne.symm M.dne)]
      exact I1.hok.fresh M.new
end
end DX
namespace DL
open PySem PySem.Spec PyProof.Rows L2 DX
section
variable {T : List (Addr × Str)} {X : Cx} {E : XK} {KE : XD} {e a b c o : Expr} {es : List Expr} {pos : Pos} {δ δa δb δc δo : DE} {δs : DA}
/-- raise C(x) -/
def dRaise (KE : XD) (C : Addr) (fld : Str) (δs : DA) : DS := fun F τ ds => δs τ ds fun τ1 xs => match xs with
  | [d] => KE τ1 C fld d
  | _ => False
theorem pds_raise {C fI cc cda : Addr} {cn fld : Str} {p pos2 : Pos} {k : Nat} (hc : X.calm = true) (hf : Fld fld) (Te : ErrTxt X.prog X.K X.mg cn fld C fI cc cda) (hr : Room k X.A) (tk : Takes X (fun cls d _ H => E cls d H)) (hg : Gl X cn) (ha : PDA T X E KE [a] δs) (hdb : (cn == ("__debug__" : Str)) = false := by decide)
    (he : starEach (a :: []) X.env = (false, eval a X.env) :: starEach [] X.env := by rfl) (hpl : (backTo pos (starEach [] X.env)).any (·.1) = false := by rfl) :
    PDS T X E KE (.Raise (some (.Call (.Name cn p) [a] [] pos)) none pos2) (dRaise KE C fld δs) := by
  obtain ⟨t, h1, s1⟩ := ha.ex
  refine ⟨_, ps_raise hc tk (pmk_own hf Te hr h1 hg hdb he hpl), fun σ H τ ds F D' j s h xo eo => s1 σ H τ ds _ _ j s h xo fun vs τ1 H1 es e1 j1 r1 k1 => ?_⟩
  match es, k1, r1 with
  | [d], k1, r1 =>
    obtain ⟨v, r, ev, h1, er⟩ := r1
    have er : r = [] := er
    subst er
    exact ⟨v, ev, fun p hp => xo τ1 _ C fld d p v (e1.trans (.new hp)) (j1.new hp) upd_same (h1.ext (.new hp)) k1⟩
/-! ### a lambda that a def calls under try -/
theorem ext_N {τ : TD} {H H' : Hp} (e : LamX.ExtN H H') : Ext τ H τ H' := ⟨fun a o h _ n => e a o h n, fun _ _ _ t _ => t⟩
theorem J.extN {K : PySem.W.Frag} {τ : TD} {H H' : Hp} (j : J K T τ H) (e : LamX.ExtN H H') (t : LamX.Tabs T H') : J K T τ H' :=
  ⟨fun a o h => by
    obtain ⟨u, q, nt, _⟩ := dok_get (j.obj a o h)
    refine dok_map (j.obj a o h) (fun w z => ?_) (fun _ _ z => z.ext (ext_N e)) (fun _ _ z => z.ext (ext_N e))
    rw [q] at z
    cases z
    exact e a u q nt, t⟩
/-- def x(a): try: a() / except C as n: return n.fld / return ret -/
def TTf (K : PySem.W.Frag) (CS : Addr) (fld ret : Str) : (XK → Hp → VK → Prop) → Hp → VK → Prop := fun tl H Q =>
  tl (fun cls d H' => PySem.W.exmOne K cls (.ref CS) = some true ∧ cls = .ref CS ∧ ∃ (dd : Addr) (fs : List (Str × V)) (v : V), d = some dd ∧ H' dd = some (.xd fs) ∧ fs.lookup fld = some v ∧ Q v H') H fun _ H' => Q (.str ret) H'
theorem takes_len {X : Cx} {W : WX} (tk : Takes X W) : Takes X (fun cls d σ H => σ.length = X.N.length → W cls d σ H) := fun u s' ⟨a, B, sI, pins, σ, H, cls, d, e, I, nb, up, sky, na, os, ag, w⟩ =>
  tk u s' ⟨a, B, sI, pins, σ, H, cls, d, e, I, nb, up, sky, na, os, ag, w I.len⟩
theorem told_givesF {Ng : List Str} {x a e q ret n fld : Str} {sg : Scope} {g CS : Addr} {cdg : Value} {j i : Nat} {p1 p2 p3 p4 p5 p6 p7 p8 p9 p10 p11 : Pos} (hNg : Ng.Nodup) (hin : Ng[i]? = some n) (hnl : sg.names.lookup n = some .local) (T : XfC X.K CS) (hno : PySem.W.findIn X.K (.ref CS) fld = some none)
    (hge : sg.names.lookup e = some .globalImplicit) (hme : X.mg e = some (.ref CS)) (hde : (e == ("__debug__" : Str)) = false) (hdn : (n == ("__debug__" : Str)) = false) (hdc : (n == ("__classdict__" : Str)) = false) (h0 : ∀ f : Addr, (L2.start Ng [V.ref f])[0]? = some (some (V.ref f))) :
    LamX.GivesTo X Ng x sg g cdg [.Try [.Expr (.Call (.Name a p1) [] [] p2) p3] [.ExceptHandler (some (.Name e p4)) (some n) [.Return (some (.Attribute (.Name n p5) fld p6)) p7] p8] [] [] p9, .Return (some (.Constant (.str ret) j p10)) p11] a q (TTf X.K CS fld ret) := by
  intro f c' s H Q tl act hc h
  have hgl : Gl (cxOf C8.CX0 X.prog X.w X.K X.mg X.base Ng x sg g cdg X.A X.stack s H C8.E0).nox e := hge
  have hkn : (cxOf C8.CX0 X.prog X.w X.K X.mg X.base Ng x sg g cdg X.A X.stack s H C8.E0).nox.env.kindOf n = some .local := by
    show sg.names.lookup n = some .local
    exact hnl
  have hil : i < Ng.length := (List.getElem?_eq_some_iff.mp hin).1
  refine ⟨_, pss_cons (ps_try_as (X := (cxOf C8.CX0 X.prog X.w X.K X.mg X.base Ng x sg g cdg X.A X.stack s H C8.E0).nox) (c := .ref CS) (i := i)
      (tb := fun W D σ H => ∃ Ech : XK, (∀ cls d σ' H', Ech cls d H' → σ'.length = Ng.length → W cls d σ' H') ∧ σ[0]? = some (some (.ref f)) ∧ H c' = some (LamX.CodeO c' q) ∧ tl Ech H fun _ H' => D.nx σ H')
      rfl rfl hNg hin hkn ⟨hgl, hde, .inl hme⟩ LamX.takes0 (fun W pn xe tk _ => ?_) (fun a oe cls d pn hz hv => pss_one (ps_ret (pe_xf T hno hz hv (pe_var (i := i) hin (.inl hnl) hdn hdc))))) (pss_one (ps_ret pe_str)), ?_⟩
  · refine ⟨fun pins s' σ H' D I h' => ?_⟩
    obtain ⟨Ech, hW, h1, h2, h3⟩ := h'
    have hp := act (fun cls d σ H => σ.length = Ng.length → W cls d σ H) pn xe Ech p1 p2 (takes_len tk) hW
    have hq := pss_one (ps_expr (pos := p3) hp)
    exact hq.run pins s' σ H' D I ⟨h1, h2, h3⟩
  · refine ⟨_, fun cls d σ' H' hE hl => ⟨true, hE.1, fun _ b _ => ?_, fun hb => by cases hb⟩, h0 f, hc, h⟩
    refine ⟨.ref b, List.getElem?_set_self (by rw [hl]; exact hil), rfl, hE.2⟩
/-- what f(lambda: body) reads as -/
def dTold (C : Addr) (fld ret : Str) (δb : XD → DE) : DE := fun τ ds k => δb (fun τ' C' f d => C' = C ∧ f = fld ∧ k τ' d) τ ds fun τ' _ => k τ' (.str ret)
theorem pd_told {x a fld ret : Str} {g cl P CS : Addr} {k : Nat} {pg : Arguments} {bg : List Stmt} {sg : Scope} {dV kV doc pm cdv ct oc : Value} {an od : Option Addr} {osl : Array (Option Value)} {Ng : List Str}
    {params : Arguments} {body : Expr} {scope : Scope} {δb : XD → DE} {p lpos : Pos} (hg : Gl X x) (hm : X.mg x = some (.ref g)) (hk : PySem.W.keepIn X.K (.ref g) = true)
    (lk : X.K.lookup g = some ⟨oc, od, .func (PySem.W.fnOf x x pg bg sg dV kV doc pm an cdv ct), osl⟩) (hcg : PySem.W.codeIn X.K cdv x = true) (hb : L2.Binds X.K (PySem.W.fnOf x x pg bg sg dV kV doc pm an cdv ct) [a] []) (Sg : FnScope Ng [a] sg) (hNg : Ng[0]? = some a) (hva : Vis sg a)
    (hG : LamX.GivesTo X Ng x sg g cdv bg a (X.env.qual ++ "<lambda>") (TTf X.K CS fld ret)) (hex : PySem.W.exmOne X.K (.ref CS) (.ref CS) = some true)
    (TB : LamX.TabB X.base X.mg cl P) (hcode : X.env.code = .ref cl) (hmT : (P, X.env.qual ++ "<lambda>") ∈ T) (hu : ∀ p ∈ T, p.1 = P → p.2 = X.env.qual ++ "<lambda>") (hr : Room (k + 2) X.A) (L : LamX.LamS X.env.scope scope) (hdef : defaultsOf params X.env = ([], []))
    (hbind : ∀ (q : Str) (cl : List (Str × Addr)) (pm cv ctv : Value), bindArgs (PySem.W.kla_fn "<lambda>" q params body scope cl pm cv ctv) ⟨[], []⟩ = pure [])
    (hbody : ∀ (A : Around) (outer : List Env) (s : Shared) (H : Hp) (E : XK) (f c' : Addr) (KE : XD), Room k (A.deeper (LamX.lamEnv X scope s.heap.objs.size f c')) → PD T (LamX.lamCx X A outer s H E scope f c') E KE body (δb KE))
    (hdb : (x == ("__debug__" : Str)) = false := by decide) (hd : (a == ("__debug__" : Str)) = false := by decide) (hcd : (a == ("__classdict__" : Str)) = false := by decide) :
    PD T X E KE (.Call (.Name x p) [.Lambda params body scope lpos] [] pos) (dTold CS fld ret δb) := by
  have h' : ∀ (q : Around × List Env × Shared × Hp × XK × Addr × Addr × XD), ∃ t, (Room k (q.1.deeper (LamX.lamEnv X scope q.2.2.1.heap.objs.size q.2.2.2.2.2.1 q.2.2.2.2.2.2.1)) → PE (LamX.lamCx X q.1 q.2.1 q.2.2.1 q.2.2.2.1 q.2.2.2.2.1 scope q.2.2.2.2.2.1 q.2.2.2.2.2.2.1) body t) ∧ SndE X.K T q.2.2.2.2.1 q.2.2.2.2.2.2.2 t (δb q.2.2.2.2.2.2.2) := fun ⟨A, outer, s, H, E, f, c', KE⟩ => by
    by_cases hroom : Room k (A.deeper (LamX.lamEnv X scope s.heap.objs.size f c'))
    · obtain ⟨t, h1, h2⟩ := (hbody A outer s H E f c' KE hroom).ex
      exact ⟨t, fun _ => h1, h2⟩
    · exact ⟨fun _ _ _ => True, fun z => absurd z hroom, fun _ _ _ _ _ _ _ _ _ _ _ => trivial⟩
  refine ⟨_, LamX.pe_lamcall (T := T) (t := fun E σ H Q => ∃ KE, ∀ A outer s H0 f c', (h' (A, outer, s, H0, E, f, c', KE)).choose σ H Q) hg hm hk lk hcg hb Sg hNg hva hG TB hcode hmT hu hr L hdef hbind (fun A outer s H0 E f c' hroom => ⟨fun pins s1 σ H Q I q => ?_⟩) hdb hd hcd, fun σ H τ ds k' Q j s h xo q => ?_⟩
  · obtain ⟨KE, q⟩ := q
    exact ((h' (A, outer, s, H0, E, f, c', KE)).choose_spec.1 hroom).run pins s1 σ H Q I (q A outer s H0 f c')
  · refine ⟨j.tabs, fun H1 eN T1 => ?_⟩
    have j1 := j.extN eN T1
    refine ⟨fun τ' C' f d => C' = CS ∧ f = fld ∧ k' τ' d, fun A outer s0 H0 f c' => ?_⟩
    refine (h' (A, outer, s0, H0, _, f, c', _)).choose_spec.2 σ H1 τ ds _ _ j1 (s.ext (ext_N eN)) h (fun τ2 H2 C' f2 d b v e2 j2 hb r2 k2 => ?_) fun v τ2 H2 d e2 j2 r2 k2 => ?_
    · obtain ⟨rfl, rfl, k2⟩ := k2
      exact ⟨hex, rfl, b, _, v, rfl, hb, by simp [List.lookup], q v τ2 H2 d ((ext_N eN).trans e2) j2 r2 k2⟩
    · exact q (.str ret) τ2 H2 (.str ret) ((ext_N eN).trans e2) j2 rfl k2
end
end DL

set_option Elab.async false
set_option linter.all false
set_option maxRecDepth 100000
set_option maxHeartbeats 1000000
/-! The data layer, 8: named arguments, defs with lambdas, inductions over loops. -/
namespace DL
open PySem PySem.Spec PyProof.Rows L2 DX
/-! ### contexts -/
section
variable {P : Program} {w : World} {K : PySem.W.Frag} {mg : Str → Option Value} {base : Heap} {N : List Str} {qual : Str} {sc : Scope} {f : Addr} {cd : Value} {A : Around} {outer : List Env} {s : Shared} {H : Hp} {E : XK}
theorem takeD : Takes (cxOf (L2.CX P w) P w K mg base N qual sc f cd A outer s H E) (fun cls d _ H => E cls d H) := takes_of rfl rfl rfl rfl
theorem passD : Passes (L2.CX P w) (cxOf (L2.CX P w) P w K mg base N qual sc f cd A outer s H E) E := passes_call takeD fun _ _ _ _ h => h
theorem ownD : PassesOwn (model P w) (A.deeper (envOfC qual sc s.heap.objs.size f cd)) (envOfC qual sc s.heap.objs.size f cd) (cxOf (L2.CX P w) P w K mg base N qual sc f cd A outer s H E).xe := PassesOwn.leaving
theorem takeL {X : Cx} {sc : Scope} {c' : Addr} : Takes (LamX.lamCx X A outer s H E sc f c') (fun cls d _ H => E cls d H) := takes_of rfl rfl rfl rfl
theorem passLm {X : Cx} {sc : Scope} {c' : Addr} : Passes (L2.CX (LamX.lamCx X A outer s H E sc f c').prog (LamX.lamCx X A outer s H E sc f c').w) (LamX.lamCx X A outer s H E sc f c') E := passes_call takeL fun _ _ _ _ h => h
end
theorem room_eq {k : Nat} {A : Around} (h : Room k A) : A.units + 64 < cLine := by have := h.un; omega
/-! ### a def without defaults -/
theorem fun_of {K : PySem.W.Frag} {x qual : Str} {st : Stmt} {f : Addr} {fd : FuncData} (F : FunD K x qual (defArgs st) (defBody st) (defScope st) [] [] f fd) : Fun K x qual st f fd := by
  obtain ⟨oc, od, dV, kV, doc, pm, an, cdv, ct, osl, e, lk, hcd, hD, _⟩ := F.ex
  rcases hD with ⟨_, h⟩ | ⟨h, _⟩
  · subst h
    exact ⟨⟨oc, od, kV, doc, pm, an, cdv, ct, osl, e, lk, hcd⟩, F.kp⟩
  · exact absurd rfl h
theorem fun_binds {K : PySem.W.Frag} {x qual : Str} {st : Stmt} {f : Addr} {fd : FuncData} {ps : List Str} (F : Fun K x qual st f fd)
    (h : ∀ (kV doc pm : Value) (an : Option Addr) (cdv ct : Value) (us : List Value), us.length = ps.length → bindArgs (PySem.W.fnOf x qual (defArgs st) (defBody st) (defScope st) .none kV doc pm an cdv ct) ⟨us, []⟩ = pure (ps.zip us)) : L2.Binds K fd ps [] := by
  obtain ⟨oc, od, kV, doc, pm, an, cdv, ct, osl, rfl, lk, hcd⟩ := F.ex
  exact .all (h kV doc pm an cdv ct)
/-! ### named arguments -/
def perm {α : Type} (ix : List Nat) (xs : List α) : List α := ix.filterMap fun i => xs[i]?
/-- m by position, n by name, in the order ix -/
def gK (m n : Nat) (ix : List Nat) {α : Type} (us ws : List α) : List α := if us.length = m ∧ ws.length = n then us ++ perm ix ws else []
theorem vals_at {vs : List V} {us : List Value} (r : Vals vs us) : ∀ i : Nat, (∃ v u, vs[i]? = some v ∧ us[i]? = some u ∧ RelV v u) ∨ (vs[i]? = none ∧ us[i]? = none) := by
  induction r with
  | nil => exact fun i => .inr ⟨by simp, by simp⟩
  | cons h _ ih =>
    intro i
    cases i with
    | zero => exact .inl ⟨_, _, rfl, rfl, h⟩
    | succ i => simpa using ih i
theorem vals_perm {vs : List V} {us : List Value} (r : Vals vs us) : ∀ ix : List Nat, Vals (perm ix vs) (perm ix us)
  | [] => .nil
  | i :: ix => by
    have ih := vals_perm r ix
    unfold perm at ih ⊢
    rcases vals_at r i with ⟨v, u, h1, h2, h3⟩ | ⟨h1, h2⟩
    · rw [List.filterMap_cons, List.filterMap_cons, h1, h2]
      exact .cons h3 ih
    · rw [List.filterMap_cons, List.filterMap_cons, h1, h2]
      exact ih
theorem vals_app {vs ws : List V} {us zs : List Value} (r : Vals vs us) (r2 : Vals ws zs) : Vals (vs ++ ws) (us ++ zs) := r.append r2
theorem drs_perm {K : PySem.W.Frag} {τ : TD} {H : Hp} {ds : List D} {vs : List V} (r : DRs K τ H ds vs) : ∀ ix : List Nat, DRs K τ H (perm ix ds) (perm ix vs)
  | [] => rfl
  | i :: ix => by
    have ih := drs_perm r ix
    unfold perm at ih ⊢
    rw [List.filterMap_cons, List.filterMap_cons]
    cases e : ds[i]? with
    | some d =>
      obtain ⟨v, h1, h2⟩ := r.get e
      rw [h1]
      exact ⟨v, _, rfl, h2, ih⟩
    | none =>
      have : vs[i]? = none := by
        cases q : vs[i]? with
        | none => rfl
        | some v =>
          obtain ⟨d, h1, _⟩ := r.getV q
          rw [e] at h1; cases h1
      rw [this]
      exact ih
theorem kb_of {K : PySem.W.Frag} {x qual : Str} {st : Stmt} {f : Addr} {fd : FuncData} {ps ks : List Str} (F : Fun K x qual st f fd) (m n : Nat) (ix : List Nat) (h0 : ps ≠ [])
    (h : ∀ (kV doc pm : Value) (an : Option Addr) (cdv ct : Value) (us ws : List Value), us.length = m → ws.length = n → bindArgs (PySem.W.fnOf x qual (defArgs st) (defBody st) (defScope st) .none kV doc pm an cdv ct) ⟨us, ks.zip ws⟩ = pure (ps.zip (us ++ perm ix ws))) : KBinds K fd ps ks (gK m n ix) (gK m n ix) := by
  obtain ⟨oc, od, kV, doc, pm, an, cdv, ct, osl, rfl, lk, hcd⟩ := F.ex
  refine ⟨fun s us ws X hl => ?_, fun {vs us zs ws} r rz => ?_⟩
  · by_cases hc : us.length = m ∧ ws.length = n
    · have e : gK m n ix us ws = us ++ perm ix ws := if_pos hc
      rw [e]
      exact .of_eq (h kV doc pm an cdv ct us ws hc.1 hc.2)
    · have e : gK m n ix us ws = [] := if_neg hc
      rw [e] at hl
      exact absurd (List.eq_nil_of_length_eq_zero hl.symm) h0
  · unfold gK
    rw [r.length, rz.length]
    split
    · exact vals_app r (vals_perm rz ix)
    · exact .nil
theorem drs_gK {K : PySem.W.Frag} {τ : TD} {H : Hp} {ds es : List D} {vs ws : List V} (r : DRs K τ H ds vs) (r2 : DRs K τ H es ws) (m n : Nat) (ix : List Nat) : DRs K τ H (gK m n ix ds es) (gK m n ix vs ws) := by
  unfold gK
  rw [r.length, r2.length]
  split
  · exact r.append (drs_perm r2 ix)
  · rfl
section
variable {T : List (Addr × Str)} {X : Cx} {E : XK} {KE : XD} {e : Expr} {es : List Expr} {pos : Pos} {δs δk : DA}
theorem pd_callK {x : Str} {k m n : Nat} {ix : List Nat} {f : Addr} {fd : FuncData} {ps ks : List Str} {sp : SpD} {kws : List Keyword} {p : Pos} (F : FnD X.prog X.w X.K X.mg X.base T k f fd ps sp) (hr : Room k X.A) (hg : Gl X x) (hm : X.mg x = some (.ref f)) (hk : PySem.W.keepIn X.K (.ref f) = true) (hb : KBinds X.K fd ps ks (gK m n ix) (gK m n ix))
    (hx : Passes (L2.CX X.prog X.w) X E) (ha : PDA T X E KE (e :: es) δs) (hkw : PDK T X E KE kws δk) (hall : (backToKw pos (keywordEach kws X.env)).all (·.1.isSome) = true := by rfl) (hks : (backToKw pos (keywordEach kws X.env)).filterMap (·.1) = ks := by rfl)
    (hdb : (x == ("__debug__" : Str)) = false := by decide) (he : starEach (e :: es) X.env = (false, eval e X.env) :: starEach es X.env := by rfl)
    (hpl : ((backTo pos (starEach (e :: es) X.env)).any (·.1) || (backToKw pos (keywordEach kws X.env)).any (·.1.isNone)) = false := by rfl) :
    PD T X E KE (.Call (.Name x p) (e :: es) kws pos) (dCallK ps.length sp (gK m n ix) KE δs δk) := by
  obtain ⟨t, h1, s1⟩ := ha.ex
  obtain ⟨tk, h2, s2⟩ := hkw.ex
  refine ⟨_, pe_callK F hr hg hm hk hb hx h1 h2 hall hks hdb he hpl, fun σ H τ ds k' Q j s h' xo q => s1 σ H τ ds _ _ j s h' xo fun vs τ1 H1 xs e1 j1 r1 k1 => ?_⟩
  refine s2 σ H1 τ1 ds _ _ j1 (s.ext e1) k1 (xo.ext e1) fun ws τ2 H2 zs e2 j2 r2 k2 => ?_
  exact ⟨τ2, gK m n ix xs zs, k', KE, j2, drs_gK (r1.ext e2) r2 m n ix, k2.1, k2.2, xo.ext (e1.trans e2), fun v τ' H' d e3 j3 r3 k3 => q v τ' H' d ((e1.trans e2).trans e3) j3 r3 k3⟩
theorem pd_callK0 {x : Str} {k m n : Nat} {ix : List Nat} {f : Addr} {fd : FuncData} {ps ks : List Str} {sp : SpD} {kws : List Keyword} {p : Pos} (F : FnD X.prog X.w X.K X.mg X.base T k f fd ps sp) (hr : Room k X.A) (hg : Gl X x) (hm : X.mg x = some (.ref f)) (hk : PySem.W.keepIn X.K (.ref f) = true) (hb : KBinds X.K fd ps ks (gK m n ix) (gK m n ix))
    (hx : Passes (L2.CX X.prog X.w) X E) (hkw : PDK T X E KE kws δk) (hall : (backToKw pos (keywordEach kws X.env)).all (·.1.isSome) = true := by rfl) (hks : (backToKw pos (keywordEach kws X.env)).filterMap (·.1) = ks := by rfl)
    (hdb : (x == ("__debug__" : Str)) = false := by decide)
    (hpl : ((backTo pos (starEach [] X.env)).any (·.1) || (backToKw pos (keywordEach kws X.env)).any (·.1.isNone)) = false := by rfl) :
    PD T X E KE (.Call (.Name x p) [] kws pos) (dCallK ps.length sp (gK m n ix) KE dNil δk) := by
  obtain ⟨tk, h2, s2⟩ := hkw.ex
  refine ⟨fun σ H Q => tk σ H fun zs H2 => spOf X.K T ps.length sp (gK m n ix [] zs) H2 Q E, ⟨fun pins s σ H Q I h => ?_⟩, fun σ H τ ds k' Q j s h' xo q => ?_⟩
  · refine wpAny_Call_Name_kw (ld_glob I hg hm ?_ hdb)
    refine PySem.W.callWith_KW0 (h₀ := X.base) I.ok.mod.kin hk hall (thn (h2.run pos pins s σ H _ I h) fun ws s2 ⟨zs, H2, I2, rz, q2⟩ => ⟨I2.kIn, ?_⟩) hpl
    rw [hks]
    exact run_fnk (us := []) (vs := []) F hr hb hx I2 .nil rz q2
  · refine s2 σ H τ ds _ _ j s h' xo fun ws τ2 H2 zs e2 j2 r2 k2 => ?_
    exact ⟨τ2, gK m n ix [] zs, k', KE, j2, drs_gK (ds := []) (vs := []) rfl r2 m n ix, k2.1, k2.2, xo.ext e2, fun v τ' H' d e3 j3 r3 k3 => q v τ' H' d (e2.trans e3) j3 r3 k3⟩
theorem pdkc {nm : Option Str} {kpos : Pos} {kws : List Keyword} {δ : DE} {δs : DA} (ha : PD T X E KE e δ) (hr : PDK T X E KE kws δs) : PDK T X E KE (⟨nm, e, kpos⟩ :: kws) (dCons δ δs) := pdk_cons ha hr fun _ _ h1 h2 => pk_cons h1 h2
end
/-! ### a def that makes lambdas: its code object is named -/
theorem fnD_ofL {P : Program} {w : World} {K : PySem.W.Frag} {mg : Str → Option Value} {base : Heap} {T : List (Addr × Str)} {x qual : Str} {st : Stmt} {p : Str × Option Str} {fd : FuncData} {N ps : List Str} {k : Nat} {sp : SpD} (F : Fun K x qual st (He.fAd K p) fd) (S : FnScope N ps (defScope st))
    (h : ∀ KE : XD, ∃ δ : DS, (∀ (A : Around) (outer : List Env) (s : Shared) (H : Hp) (E : XK), Room k (A.deeper (envOfC qual (defScope st) s.heap.objs.size (He.fAd K p) (.ref (He.codeOf K p)))) →
      PDSs T (cxOf (L2.CX P w) P w K mg base N qual (defScope st) (He.fAd K p) (.ref (He.codeOf K p)) A outer s H E) E (FinX KE) (defBody st) δ) ∧
      ∀ τ ds (q : DK), ds.length = ps.length → sp τ ds q KE → δ { nx := fun τ' _ => Fin q τ' .non, rt := Fin q } τ (startD N.length ds)) : FnD P w K mg base T (k + 1) (He.fAd K p) fd ps sp := by
  obtain ⟨oc, od, kV, doc, pm, an, cdv, ct, osl, rfl, lk, hcd⟩ := F.ex
  obtain ⟨c, rfl⟩ := He.codeIn_ref hcd
  have ec : He.codeOf K p = c := He.codeOf_eq lk rfl
  refine fn_of lk hcd S (fun vs H Q E ⟨τ, ds, q, KE, j, r, hl, _⟩ => by rw [r.length, hl]) fun A outer s H vs Q E hr ⟨τ, ds, q, KE, j, r, hl, hsp, xo, hq⟩ => ?_
  obtain ⟨δ, h1, h2⟩ := h KE
  rw [ec] at h1
  obtain ⟨t, p, sd⟩ := (h1 A outer s H E hr).ex
  refine ⟨t, p, sd _ H τ _ _ _ j (sr_start r) (h2 τ ds q hl hsp) xo.fin ⟨fun τ' H' ds' σ' e j' s' ⟨τ'', d', sb, z, k'⟩ => ?_, fun _ _ _ _ _ _ _ z => z.elim, fun _ _ _ _ _ _ _ z => z.elim, fun τ' H' d v e j' r' ⟨τ'', d', sb, z, k'⟩ => ?_⟩⟩
  · exact hq .non τ'' H' d' (e.sub sb) (j'.sub sb) (z.ok (v := .non) j' sb rfl) k'
  · exact hq v τ'' H' d' (e.sub sb) (j'.sub sb) (z.ok j' sb r') k'
/-! ### inductions -/
theorem loop_ind {γ : DG} {β : DS} {F : EndsD} (I : List D → TD → Sl → Prop) (step : ∀ x r τ ds, I (x :: r) τ ds → ∀ G : TD → Sl → Prop, (∀ τ' ds', I r τ' ds' → G τ' ds') → γ x τ ds (β { F with nx := G, ct := G, bk := F.nx }))
    (fin : ∀ τ ds, I [] τ ds → F.nx τ ds) : ∀ (xs : List D) (τ : TD) (ds : Sl), I xs τ ds → dLoop γ β F xs τ ds
  | [], τ, ds, h => fin τ ds h
  | x :: r, τ, ds, h => step x r τ ds h _ fun τ' ds' h' => loop_ind I step fin r τ' ds' h'
theorem lc_ind {γ : DG} {η : DT} {δ : DE} {ws : List Nat} {ds : Sl} {L : Addr} {k : TD → List D → Prop} (I : List D → List D → TD → Prop)
    (step : ∀ x r acc τ, I (x :: r) acc τ → ∀ G : List D → TD → Prop, (∀ acc' τ', I r acc' τ' → G acc' τ') →
      γ x τ (wipeD ds ws) fun τ1 ds1 => η τ1 ds1 fun τ2 b => if b = true then δ τ2 ds1 fun τ3 d => τ3 L = some (.lst acc) ∧ acc.length < sizeLine ∧ G (acc ++ [d]) (tset τ3 L (.lst (acc ++ [d]))) else G acc τ2)
    (fin : ∀ acc τ, I [] acc τ → τ L = some (.lst acc) ∧ k τ acc) : ∀ (xs acc : List D) (τ : TD), I xs acc τ → dLcL γ η δ ws ds L k xs acc τ
  | [], acc, τ, h => fin acc τ h
  | x :: r, acc, τ, h => step x r acc τ h _ fun acc' τ' h' => lc_ind I step fin r acc' τ' h'
/-- each item read by itself, nothing changed: f says what comes of it -/
theorem lc_pure {γ : DG} {η : DT} {δ : DE} {ws : List Nat} {ds : Sl} {τ0 : TD} {k : TD → D → Prop} {xs : List D} (f : D → Option D) (hz : xs.length ≤ sizeLine)
    (h : ∀ x ∈ xs, ∀ (τ : TD) (k : TD → Option D → Prop), k τ (f x) → γ x τ (wipeD ds ws) fun τ1 ds1 => η τ1 ds1 fun τ2 b => if b = true then δ τ2 ds1 fun τ3 d => k τ3 (some d) else k τ2 none)
    (hk : k τ0 (.lst (xs.filterMap f))) (L : Addr) (hL : τ0 L = none) : dLcL γ η δ ws ds L (fun τ2 acc => k (tdel τ2 L) (.lst acc)) xs [] (tset τ0 L (.lst [])) := by
  refine lc_ind (fun r acc τ => (∃ pre, xs = pre ++ r ∧ acc = pre.filterMap f) ∧ τ = tset τ0 L (.lst acc)) (fun x r acc τ hI G hG => ?_) (fun acc τ hI => ?_) xs [] _ ⟨⟨[], rfl, rfl⟩, rfl⟩
  · obtain ⟨⟨pre, e1, e2⟩, e3⟩ := hI
    have hx : x ∈ xs := by rw [e1]; simp
    have hl : acc.length < sizeLine := by
      have h1 : acc.length ≤ pre.length := by rw [e2]; exact List.length_filterMap_le _ _
      have h2 : xs.length = pre.length + (r.length + 1) := by rw [e1]; simp
      omega
    have tl : τ L = some (.lst acc) := by rw [e3]; exact tset_same
    refine h x hx τ (fun τ3 o => match o with | some d => τ3 L = some (.lst acc) ∧ acc.length < sizeLine ∧ G (acc ++ [d]) (tset τ3 L (.lst (acc ++ [d]))) | none => G acc τ3) ?_
    cases hf : f x with
    | some d => exact ⟨tl, hl, hG _ _ ⟨⟨pre ++ [x], by rw [e1]; simp, by rw [e2]; simp [hf]⟩, by rw [e3, tset_tset]⟩⟩
    | none => exact hG _ _ ⟨⟨pre ++ [x], by rw [e1]; simp, by rw [e2]; simp [hf]⟩, e3⟩
  · obtain ⟨⟨pre, e1, e2⟩, e3⟩ := hI
    rw [List.append_nil] at e1
    subst e1
    refine ⟨by rw [e3]; exact tset_same, ?_⟩
    rw [e3, tset_del hL, e2]
    exact hk
end DL

set_option Elab.async false
set_option linter.all false
set_option maxRecDepth 100000
set_option maxHeartbeats 1000000
/-! The data layer, 9: what the top has written, read off its heap. -/
namespace DX
open PySem PySem.Spec PyProof.Rows L2 He
/-! ### addresses -/
def asY (g : Addr → Option Obj) : Nat → List Addr
  | 0 => [mainGlobals, cStatics]
  | n + 1 => growD g (asY g n)
/-! ### an own error -/
def ccOf (K : PySem.W.Frag) (fI : Addr) : Addr := match K.lookup fI with
  | some ⟨_, _, .func fd, _⟩ => (match fd.closure with
    | [(_, c)] => c
    | _ => 0)
  | _ => 0
def cdOf (K : PySem.W.Frag) (fI : Addr) : Addr := match K.lookup fI with
  | some ⟨_, _, .func fd, _⟩ => (match fd.code with
    | .ref c => c
    | _ => 0)
  | _ => 0
def iOf (K : PySem.W.Frag) (cn : Str) : Addr := ma K (ga K cn) "__init__"
abbrev FnI : Type := Option (Str × Str × Arguments × FuncBody × Scope × Addr × List Str × Addr)
def initW (K : PySem.W.Frag) (cn : Str) : FnI := match K.lookup (iOf K cn) with
  | some ⟨_, _, .func fd, _⟩ => some (fd.name, fd.qualname, fd.params, fd.body, fd.scope, fd.globals, fd.closure.map (·.1), fd.builtins)
  | _ => none
def clsB (K : PySem.W.Frag) (C : Addr) : Bool := match K.lookup C with
  | some ⟨.type t, _, .cls cd, sl⟩ => (match cd.mro, sl.toList with
    | .ref C' :: bm, [_, _, _, _, some (.builtin n), _] => decide (t = "type") && (decide (C' = C) && (decide (n = "ValueError.__new__") && (!cd.hasDel && (cd.hasDict && (HandSPX.refsVE bm && eqO (PySem.W.alongIn K "__init__" bm) (some (some (.builtin "ValueError.__init__"))))))))
    | _, _ => false)
  | _ => false
theorem clsB_ok {K : PySem.W.Frag} {C : Addr} (h : clsB K C = true) : ∃ nm q N bs bm sn sub ab col dd k0 k1 k2 k3 k5, K.lookup C = some (excClassObj nm q C N bs bm true sn sub ab col dd k0 k1 k2 k3 k5 "ValueError.__new__") ∧ HandSPX.refsVE bm = true ∧ PySem.W.alongIn K "__init__" bm = some (some (.builtin "ValueError.__init__")) := by
  unfold clsB at h
  split at h
  · rename_i t dd cd sl ho
    split at h
    · rename_i C' bm k0 k1 k2 k3 n k5 hm hs
      obtain ⟨h1, h⟩ := ba h
      obtain ⟨h2, h⟩ := ba h
      obtain ⟨h3, h⟩ := ba h
      obtain ⟨h4, h⟩ := ba h
      obtain ⟨h5, h⟩ := ba h
      obtain ⟨h6, h7⟩ := ba h
      have e1 := of_decide_eq_true h1
      have e2 := of_decide_eq_true h2
      have e3 := of_decide_eq_true h3
      subst e1 e2 e3
      obtain ⟨nm, bs, mro, ns, qn, hd, sn, sub, ab, col, del⟩ := cd
      dsimp only at hm h4 h5
      have h4 : del = false := by simpa using h4
      subst hm h4 h5
      have hsl : sl = #[k0, k1, k2, k3, some (.builtin "ValueError.__new__"), k5] := by
        obtain ⟨l⟩ := sl
        simp only at hs
        rw [hs]
      subst hsl
      exact ⟨nm, qn, ns, bs, bm, sn, sub, ab, col, dd, k0, k1, k2, k3, k5, ho, h6, eqO_ok h7⟩
    · cases h
  · cases h
def cellB (K : PySem.W.Frag) (c C : Addr) : Bool := match K.lookup c with
  | some ⟨_, _, .cell (some (.ref C')), _⟩ => decide (C' = C)
  | _ => false
def fileB (K : PySem.W.Frag) (c : Addr) (fl : Str) : Bool := match K.lookup c with
  | some ⟨_, _, .fields vs, _⟩ => (match (vs[2]? : Option Value) with
    | some (.str f _) => fl == f
    | _ => false)
  | _ => false
def ifnC (K : PySem.W.Frag) (C : Addr) (fl q : Str) (cl : List (Str × Addr)) (cd dv kv : Value) : Bool := match cl, cd, dv, kv with
  | [(_, cc)], .ref cda, .none, .none => cellB K cc C && (fileB K cda fl && PySem.W.codeIn K (.ref cda) q)
  | _, _, _, _ => false
theorem ifnC_ok {K : PySem.W.Frag} {C : Addr} {fl q : Str} {cl : List (Str × Addr)} {cd dv kv : Value} (h : ifnC K C fl q cl cd dv kv = true) : ∃ x cc cda, cl = [(x, cc)] ∧ cd = .ref cda ∧ dv = .none ∧ kv = .none ∧ cellB K cc C = true ∧ fileB K cda fl = true ∧ PySem.W.codeIn K (.ref cda) q = true := by
  unfold ifnC at h
  split at h
  · rename_i x cc cda
    obtain ⟨c1, b⟩ := ba h
    obtain ⟨c2, c3⟩ := ba b
    exact ⟨x, cc, cda, rfl, rfl, rfl, rfl, c1, c2, c3⟩
  · cases h
def ifnB (K : PySem.W.Frag) (fI C : Addr) (fl : Str) : Bool := match K.lookup fI with
  | some ⟨_, _, .func fd, _⟩ => ifnC K C fl fd.qualname fd.closure fd.code fd.defaults fd.kwdefaults
  | _ => false
def errB (K : PySem.W.Frag) (cn fld fl : Str) : Bool :=
  clsB K (ga K cn) && (PySem.W.excInitIn K (ga K cn) HandSPX.veTail "ValueError.__new__" && (eqO (PySem.W.findIn K (.ref (ga K cn)) "__setattr__") (some (some (.builtin "object.__setattr__"))) &&
  (eqO (PySem.W.findIn K (.ref (ga K cn)) "__getattribute__") (some (some (.builtin "BaseException.__getattribute__"))) && (eqO (PySem.W.findIn K (.ref (ga K cn)) "__getattr__") (some none) && (eqO (PySem.W.findIn K (.ref (ga K cn)) fld) (some none) &&
  (eqO (PySem.W.findIn K (.ref (ga K cn)) "__init__") (some (some (.ref (iOf K cn)))) && (decide (PySem.W.typeIn K (.ref (iOf K cn)) = some (.type "function")) && (PySem.W.keepIn K (.ref (ga K cn)) && (decide (PySem.W.subIn K (.ref (ga K cn)) (.type "BaseException") = some true) &&
  (decide (PySem.W.subIn K (.ref (ga K cn)) (.type "ValueError") = some true) && (decide (PySem.W.mroIn K (ga K cn) (.ref (ga K cn)) = some true) && (decide (PySem.W.typeIn K (.ref (ga K cn)) = some (.type "type")) && (PySem.W.hasDictIn K (ga K cn) &&
  (decide (PySem.W.exmOne K (.ref (ga K cn)) (.ref (ga K cn)) = some true) && (eqO (PySem.W.nsIn K cStatics "thirdparty.any") (some none) && ifnB K (iOf K cn) (ga K cn) fl)))))))))))))))
/-- the text of an own error's class -/
structure DErr where
  cn : Str
  fld : Str
  val : FnI
def clsInit (st : Stmt) : Option (Str × Arguments × List Stmt × Scope) := match st with
  | .ClassDef _ _ _ [.FunctionDef n a b _ _ _ sc _ _ _] _ _ _ _ _ _ _ => some (n, a, b, sc)
  | _ => none
section
variable {prog : Program} {K : PySem.W.Frag} {mg : Str → Option Value} {h : Heap}
theorem errTxt_of {cn fld qual : Str} {p1 p2 q1 q2 q3 q4 q5 q6 q7 q8 q9 q10 : Pos} (X : K.In h) (G : h.Ns mainGlobals mg) (hi : initW K cn = (some ("__init__", qual, iA fld p1 p2, .stmts (iB fld q1 q2 q3 q4 q5 q6 q7 q8 q9 q10), iS fld, mainGlobals, ["__class__"], builtinsNs) : FnI)) (hb : errB K cn fld prog.main.file = true)
    (hg : (Fa.glo cn).ok K = true) (hs : (Fa.free "super").ok K = true) (ns : (prog.main.scope.names.lookup ("super" : Str)).isSome = false)
    (hpl : ∃ pl : Env → Sem Bool, ∀ env, eval (.Call (.Attribute (.Call (.Name "super" q1) [] [] q2) "__init__" q3) [.Name fld q4] [] q5) env = (do
      let ov ← attributeBase (.Call (.Name "super" q1) [] [] q2) "__init__" env (eval (.Call (.Name "super" q1) [] [] q2) env)
      standAt q3.atName
      let (f, first) ← holding [ov] (getMethod ov "__init__" (pl env))
      callWith q5 f first (backTo q5 (starEach [.Name fld q4] env)) [])) : ErrTxt prog K mg cn fld (ga K cn) (iOf K cn) (ccOf K (iOf K cn)) (cdOf K (iOf K cn)) := by
  unfold errB at hb
  obtain ⟨b1, hb⟩ := ba hb
  obtain ⟨b2, hb⟩ := ba hb
  obtain ⟨b3, hb⟩ := ba hb
  obtain ⟨b4, hb⟩ := ba hb
  obtain ⟨b5, hb⟩ := ba hb
  obtain ⟨b6, hb⟩ := ba hb
  obtain ⟨b7, hb⟩ := ba hb
  obtain ⟨b8, hb⟩ := ba hb
  obtain ⟨b9, hb⟩ := ba hb
  obtain ⟨b10, hb⟩ := ba hb
  obtain ⟨b11, hb⟩ := ba hb
  obtain ⟨b12, hb⟩ := ba hb
  obtain ⟨b13, hb⟩ := ba hb
  obtain ⟨b14, hb⟩ := ba hb
  obtain ⟨b15, hb⟩ := ba hb
  obtain ⟨b16, b17⟩ := ba hb
  have key : ∃ (oc : Value) (od : Option Addr) (doc pm : Value) (an : Option Addr) (ct : Value) (osl : Array (Option Value)) (cc cda : Addr), ccOf K (iOf K cn) = cc ∧ cdOf K (iOf K cn) = cda ∧
      K.lookup (iOf K cn) = some ⟨oc, od, .func (PySem.W.ksFn "__init__" qual (iA fld p1 p2) (iB fld q1 q2 q3 q4 q5 q6 q7 q8 q9 q10) (iS fld) .none .none doc pm an (.ref cda) ct cc), osl⟩ ∧ cellB K cc (ga K cn) = true ∧ fileB K cda prog.main.file = true ∧ PySem.W.codeIn K (.ref cda) qual = true := by
    unfold ifnB at b17
    unfold initW at hi
    cases q : K.lookup (iOf K cn) with
    | none => rw [q] at b17; cases b17
    | some o =>
      obtain ⟨oc, od, dt, osl⟩ := o
      rw [q] at b17 hi
      cases dt with
      | func fd =>
        obtain ⟨n1, n2, n3, n4, n5, n6, n7, n8, n9, n10, n11, n12, n13, n14, n15⟩ := fd
        have e2 : (some (n1, n2, n3, n4, n5, n6, n7.map (·.1), n15) : FnI) = (some ("__init__", qual, iA fld p1 p2, .stmts (iB fld q1 q2 q3 q4 q5 q6 q7 q8 q9 q10), iS fld, mainGlobals, ["__class__"], builtinsNs) : FnI) := hi
        simp only [Option.some.injEq, Prod.mk.injEq] at e2
        obtain ⟨h1, h2, h3, h4, h5, h6, h7, h8⟩ := e2
        subst h1 h2 h3 h4 h5 h6 h8
        obtain ⟨x, cc, cda, z1, z2, z3, z4, c1, c2, c3⟩ := ifnC_ok (K := K) (C := ga K cn) (fl := prog.main.file) (q := n2) (cl := n7) (cd := n13) (dv := n8) (kv := n9) b17
        subst z1 z2 z3 z4
        have hx : x = ("__class__" : Str) := by simpa using h7
        subst hx
        exact ⟨oc, od, n10, n11, n12, n14, osl, cc, cda, by unfold ccOf; rw [q] <;> rfl, by unfold cdOf; rw [q] <;> rfl, rfl, c1, c2, c3⟩
      | _ => cases b17
  obtain ⟨oc, od, doc, pm, an, ct, osl, cc, cda, k1, k2, k3, k4, k5, k6⟩ := key
  rw [k1, k2]
  refine ⟨glo_ok X G hg, clsB_ok b1, b2, eqO_ok b3, eqO_ok b4, eqO_ok b5, eqO_ok b6, eqO_ok b7, of_decide_eq_true b8, b9, of_decide_eq_true b10, of_decide_eq_true b11, of_decide_eq_true b12, of_decide_eq_true b13, b14, of_decide_eq_true b15, eqO_ok b16, free_ok X G hs, ns, ?_, ?_, ⟨qual, oc, od, doc, pm, an, ct, osl, p1, p2, q1, q2, q3, q4, q5, q6, q7, q8, q9, q10, k3, k6, hpl⟩⟩
  · unfold cellB at k4
    split at k4
    · rename_i x y C' z e
      have e2 := of_decide_eq_true k4
      subst e2
      exact ⟨_, _, _, e⟩
    · cases k4
  · unfold fileB at k5
    split at k5
    · rename_i x y vs z e
      split at k5
      · rename_i f t e2
        exact ⟨_, _, _, _, f, t, e, e2, k5⟩
      · cases k5
    · cases k5
/-- reading the field -/
theorem xfc_of {cn fld fl : Str} (hb : errB K cn fld fl = true) : XfC K (ga K cn) ∧ PySem.W.findIn K (.ref (ga K cn)) fld = some none ∧ PySem.W.exmOne K (.ref (ga K cn)) (.ref (ga K cn)) = some true := by
  unfold errB at hb
  obtain ⟨b1, hb⟩ := ba hb
  obtain ⟨b2, hb⟩ := ba hb
  obtain ⟨b3, hb⟩ := ba hb
  obtain ⟨b4, hb⟩ := ba hb
  obtain ⟨b5, hb⟩ := ba hb
  obtain ⟨b6, hb⟩ := ba hb
  obtain ⟨b7, hb⟩ := ba hb
  obtain ⟨b8, hb⟩ := ba hb
  obtain ⟨b9, hb⟩ := ba hb
  obtain ⟨b10, hb⟩ := ba hb
  obtain ⟨b11, hb⟩ := ba hb
  obtain ⟨b12, hb⟩ := ba hb
  obtain ⟨b13, hb⟩ := ba hb
  obtain ⟨b14, hb⟩ := ba hb
  obtain ⟨b15, hb⟩ := ba hb
  exact ⟨⟨eqO_ok b4, eqO_ok b5, of_decide_eq_true b10, b14⟩, eqO_ok b6, of_decide_eq_true b15⟩
end
/-! ### the Hook -/
structure SaysY (fa : List Fa) (fn : List DefD) (es : List DErr) (tf : List Defn) (ex : PySem.W.Frag → Bool) (h : Heap) (K : PySem.W.Frag) : Prop where
  d : SaysD fa fn K
  more : ex K = true
  err : es.map (fun e => initW K e.cn) = es.map DErr.val
  hd : ∀ p ∈ tf, PySem.W.codeHdIn K (cT K p).1 (cT K p).2 = true
  out : ∀ p ∈ tf, K.lookup (cT K p).2 = none
  empty : ∀ p ∈ tf, h.get? (cT K p).2 = some { cls := .none, data := .fields #[] }
abbrev AlY : Type := AlD × List FnI × Bool
def obsY (n : Nat) (fa : List Fa) (fn : List DefD) (es : List DErr) (tf : List Defn) (ex : PySem.W.Frag → Bool) (g : Addr → Option Obj) : AlY :=
  (obsD fa fn (frT g (asY g n)), es.map (fun e => initW (frT g (asY g n)) e.cn), ex (frT g (asY g n)) && tabsB g tf (frT g (asY g n)))
def valY (fn : List DefD) (es : List DErr) : AlY := (valD fn, es.map DErr.val, true)
theorem saysY_of {n : Nat} {fa : List Fa} {fn : List DefD} {es : List DErr} {tf : List Defn} {ex : PySem.W.Frag → Bool} {h : Heap} (e : obsY n fa fn es tf ex h.get? = valY fn es) : SaysY fa fn es tf ex h (frT h.get? (asY h.get? n)) := by
  have e1 : obsD fa fn (frT h.get? (asY h.get? n)) = valD fn := congrArg (fun z : AlY => z.1) e
  have e0 : es.map (fun e => initW (frT h.get? (asY h.get? n)) e.cn) = es.map DErr.val := congrArg (fun z : AlY => z.2.1) e
  have e2 : (ex (frT h.get? (asY h.get? n)) && tabsB h.get? tf (frT h.get? (asY h.get? n))) = true := congrArg (fun z : AlY => z.2.2) e
  obtain ⟨h1, h2⟩ := ba e2
  have key : ∀ p ∈ tf, PySem.W.codeHdIn (frT h.get? (asY h.get? n)) (cT (frT h.get? (asY h.get? n)) p).1 (cT (frT h.get? (asY h.get? n)) p).2 = true ∧ ∃ o, h.get? (cT (frT h.get? (asY h.get? n)) p).2 = some o ∧ emptyTab o = true := fun p hp => by
    obtain ⟨h3, h4⟩ := ba (List.all_eq_true.mp h2 p hp)
    refine ⟨h3, ?_⟩
    cases q : h.get? (cT (frT h.get? (asY h.get? n)) p).2 with
    | none => rw [q] at h4; cases h4
    | some o => rw [q] at h4; exact ⟨o, rfl, h4⟩
  exact ⟨e1, h1, e0, fun p hp => (key p hp).1, fun p hp => (key p hp).2.elim fun _ z => frT_none z.1 z.2, fun p hp => (key p hp).2.elim fun _ z => by rw [z.1, emptyTab_eq z.2]⟩
def hookY (n : Nat) (fa : List Fa) (fn : List DefD) (es : List DErr) (tf : List Defn) (ex : PySem.W.Frag → Bool) : PySem.W.Hook where
  α := AlY
  obs := fun s => obsY n fa fn es tf ex s.heap.get?
  val := fun _ => valY fn es
  says := fun _ h => ∃ K : PySem.W.Frag, K.In h ∧ SaysY fa fn es tf ex h K
  of := fun _ _ e => ⟨_, frT_in, saysY_of e⟩
  keeps := fun _ _ _ ⟨K, hK, c⟩ k => ⟨K, PySem.W.Frag.In.keeps hK k, ⟨c.d, c.more, c.err, c.hd, c.out, fun p hp => k _ _ (c.empty p hp)⟩⟩
theorem obsY_eq {n : Nat} {fa : List Fa} {fn : List DefD} {es : List DErr} {tf : List Defn} {ex : PySem.W.Frag → Bool} {g : Addr → Option Obj} {s : Shared} (h : ∀ a, g a = s.heap.get? a) : obsY n fa fn es tf ex g = (hookY n fa fn es tf ex).obs s := by
  have e : g = s.heap.get? := funext h
  rw [e] <;> rfl
theorem SaysY.init {fa : List Fa} {fn : List DefD} {es : List DErr} {tf : List Defn} {ex : PySem.W.Frag → Bool} {h : Heap} {K : PySem.W.Frag} (c : SaysY fa fn es tf ex h K) (i : Nat) {e : DErr} (he : es[i]? = some e := by rfl) : initW K e.cn = e.val := by
  have e2 : (es.map fun e => initW K e.cn)[i]? = (es.map DErr.val)[i]? := by rw [c.err]
  rw [List.getElem?_map, List.getElem?_map, he] at e2
  exact Option.some.inj e2
end DX

set_option Elab.async false
set_option linter.all false
set_option maxRecDepth 100000
set_option maxHeartbeats 1000000
/-! The data layer, 10: readings simplified. -/
namespace DL
open PySem PySem.Spec PyProof.Rows L2 DX
def onBl (x : D) (f : Bool → Prop) : Prop := match x with
  | .bl b => f b
  | _ => False
def onInt (x : D) (f : Int → Prop) : Prop := match x with
  | .int b => f b
  | _ => False
def onSeq (x : D) (f : List D → Prop) : Prop := match x with
  | .lst xs => f xs
  | .tup xs => f xs
  | .str z => f (signs z)
  | _ => False
def onSome {α : Type} (x : Option α) (f : α → Prop) : Prop := match x with
  | some a => f a
  | none => False
def lstAt (τ : TD) (a : Addr) : Option (List D) := match τ a with
  | some (.lst xs) => some xs
  | _ => none
theorem onBl_eq {b : Bool} {f : Bool → Prop} : onBl (.bl b) f = f b := rfl
theorem onInt_eq {b : Int} {f : Int → Prop} : onInt (.int b) f = f b := rfl
theorem onSeq_lst {xs : List D} {f : List D → Prop} : onSeq (.lst xs) f = f xs := rfl
theorem onSeq_tup {xs : List D} {f : List D → Prop} : onSeq (.tup xs) f = f xs := rfl
theorem onSeq_str {xs : Str} {f : List D → Prop} : onSeq (.str xs) f = f (signs xs) := rfl
theorem onSome_eq {α : Type} {a : α} {f : α → Prop} : onSome (some a) f = f a := rfl
theorem lstAt_of {τ : TD} {a : Addr} {xs : List D} (h : τ a = some (.lst xs)) : lstAt τ a = some xs := by unfold lstAt; rw [h]
theorem lstAt_iff {τ : TD} {a : Addr} {xs : List D} (h : lstAt τ a = some xs) : τ a = some (.lst xs) := by
  unfold lstAt at h
  split at h
  · cases h; assumption
  · cases h
theorem lstAt_same {τ : TD} {a : Addr} {xs : List D} : lstAt (tset τ a (.lst xs)) a = some xs := lstAt_of tset_same
section
variable {τ : TD} {ds : Sl} {k : DK} {δa δb δc δ : DE} {η : DT} {kt : TD → Bool → Prop} {δs : DA}
theorem dTest_eq : dTest δ τ ds kt = δ τ ds fun τ1 x => onBl x fun b => kt τ1 b := by
  unfold dTest
  first | rfl | (congr 1; funext τ1 x; cases x <;> rfl)
theorem dAndV_eq : dAndV δa δb τ ds k = δa τ ds fun τ1 x => onBl x fun b => if b = true then δb τ1 ds k else k τ1 (.bl false) := by
  unfold dAndV
  congr 1; funext τ1 x
  cases x with
  | bl b => cases b <;> simp [onBl]
  | _ => rfl
theorem dOrV_eq : dOrV δa δb τ ds k = δa τ ds fun τ1 x => onBl x fun b => if b = true then k τ1 (.bl true) else δb τ1 ds k := by
  unfold dOrV
  congr 1; funext τ1 x
  cases x with
  | bl b => cases b <;> simp [onBl]
  | _ => rfl
theorem dNotV_eq : dNotV δa τ ds k = δa τ ds fun τ1 x => onBl x fun b => k τ1 (.bl (!b)) := by
  unfold dNotV
  first | rfl | (congr 1; funext τ1 x; cases x <;> rfl)
theorem dChain_eq {ρ ρ' : D2} : dChain ρ ρ' δa δb δc τ ds k = δa τ ds fun τ1 x => δb τ1 ds fun τ2 y => ρ τ2 x y fun τ3 z => onBl z fun b => if b = true then δc τ3 ds fun τ4 w => ρ' τ4 y w k else k τ3 (.bl false) := by
  unfold dChain
  congr 1; funext τ1 x; congr 1; funext τ2 y; congr 1; funext τ3 z
  cases z with
  | bl b => cases b <;> simp [onBl]
  | _ => rfl
theorem dPart_eq {ko : TD → Option Int → Prop} : dPart δ τ ds ko = δ τ ds fun τ1 x => onInt x fun i => ko τ1 (some i) := by
  unfold dPart
  first | rfl | (congr 1; funext τ1 x; cases x <;> rfl)
theorem ιSeq_eq {ki : TD → List D → Prop} : ιSeq δ τ ds ki = δ τ ds fun τ1 x => onSeq x fun xs => ki τ1 xs := by
  unfold ιSeq
  first | rfl | (congr 1; funext τ1 x; cases x <;> rfl)
/-- a number that a range takes -/
def RngOk (i : Int) : Prop := -(2 ^ 62) ≤ i ∧ i < 2 ^ 62
theorem ιRng1_eq {ki : TD → List D → Prop} : ιRng1 (dCons δ dNil) τ ds ki = δ τ ds fun τ1 x => onInt x fun j => RngOk j ∧ ki τ1 (upto 0 j.toNat) := by
  unfold ιRng1 dCons dNil
  first | rfl | (congr 1; funext τ1 x; cases x <;> rfl)
theorem ιRng2_eq {ki : TD → List D → Prop} : ιRng2 (dCons δa (dCons δb dNil)) τ ds ki = δa τ ds fun τ1 x => δb τ1 ds fun τ2 y => onInt x fun i => onInt y fun j => (RngOk i ∧ RngOk j) ∧ ki τ2 (upto i (j - i).toNat) := by
  unfold ιRng2 dCons dNil
  congr 1; funext τ1 x; congr 1; funext τ2 y
  cases x with
  | int i =>
    cases y with
    | int j =>
      refine propext ⟨fun h => ⟨⟨⟨h.1.1, h.1.2.1⟩, h.1.2.2.1, h.1.2.2.2⟩, h.2⟩, fun h => ⟨⟨h.1.1.1, h.1.1.2, h.1.2.1, h.1.2.2⟩, h.2⟩⟩
    | _ => rfl
  | _ => rfl
theorem ρAdd_int {i j : Int} : ρAdd τ (.int i) (.int j) k = k τ (.int (i + j)) := rfl
theorem ρAdd_str {i j : Str} : ρAdd τ (.str i) (.str j) k = (i.length + j.length ≤ sizeLine ∧ k τ (.str (i ++ j))) := rfl
theorem ρAdd_tup {i j : List D} : ρAdd τ (.tup i) (.tup j) k = (i.length + j.length ≤ sizeLine ∧ k τ (.tup (i ++ j))) := rfl
theorem ρAdd_lst {i j : List D} : ρAdd τ (.lst i) (.lst j) k = (i.length + j.length ≤ sizeLine ∧ k τ (.lst (i ++ j))) := rfl
theorem ρAdd_rl {p : Addr} {ys : List D} : ρAdd τ (.ref p) (.lst ys) k = onSome (lstAt τ p) fun xs => xs.length + ys.length ≤ sizeLine ∧ k τ (.lst (xs ++ ys)) := by
  show (∃ xs, τ p = some (.lst xs) ∧ xs.length + ys.length ≤ sizeLine ∧ k τ (.lst (xs ++ ys))) = _
  unfold lstAt
  cases e : τ p with
  | none => exact propext ⟨fun ⟨_, z, _⟩ => (by cases z), fun z => z.elim⟩
  | some o =>
    cases o with
    | lst zs => exact propext ⟨fun ⟨_, z, q⟩ => by cases z; exact q, fun z => ⟨zs, rfl, z⟩⟩
    | _ => exact propext ⟨fun ⟨_, z, _⟩ => (by cases z), fun z => z.elim⟩
theorem ρI_int {i j : Int} {C : Int → Int → Prop} {g : Int → Int → D} : ρI C g τ (.int i) (.int j) k = (C i j ∧ k τ (g i j)) := rfl
theorem ρI0_int {i j : Int} {g : Int → Int → D} : ρI0 g τ (.int i) (.int j) k = k τ (g i j) := rfl
theorem ρMul_int {i j : Int} : ρMul τ (.int i) (.int j) k = (CMul i j ∧ k τ (.int (i * j))) := rfl
theorem ρMul_str {z : Str} {n : Int} : ρMul τ (.str z) (.int n) k = ((-(2 ^ 62) ≤ n ∧ n ≤ 1000 ∧ z.length ≤ 1000) ∧ k τ (.str (repS z n.toNat))) := rfl
theorem ρNeg_int {i : Int} : ρNeg τ (.int i) k = k τ (.int (-i)) := rfl
theorem ρCmp_int {i j : Int} {f : Int → Int → Bool} {g : Str → Str → Bool} : ρCmp f g τ (.int i) (.int j) k = k τ (.bl (f i j)) := rfl
theorem ρCmp_str {i j : Str} {f : Int → Int → Bool} {g : Str → Str → Bool} : ρCmp f g τ (.str i) (.str j) k = k τ (.bl (g i j)) := rfl
theorem ρIsN_eq {x : D} : ρIsN τ x .non k = k τ (.bl (isNonD x)) := rfl
theorem ρNotN_eq {x : D} : ρNotN τ x .non k = k τ (.bl (!isNonD x)) := rfl
theorem isNonD_bl {x : Bool} : isNonD (.bl x) = false := rfl
theorem isNonD_int {x : Int} : isNonD (.int x) = false := rfl
theorem isNonD_str {x : Str} : isNonD (.str x) = false := rfl
theorem isNonD_tup {x : List D} : isNonD (.tup x) = false := rfl
theorem isNonD_lst {x : List D} : isNonD (.lst x) = false := rfl
theorem isNonD_ref {x : Addr} : isNonD (.ref x) = false := rfl
theorem isNonD_non : isNonD .non = true := rfl
theorem ρSgn_eq {c : Nat} {z : Str} {neg : Bool} : ρSgn neg τ (.str ⟨#[c]⟩) (.str z) k = ρSgn neg τ (.str ⟨#[c]⟩) (.str z) k := rfl
theorem ρSgn_one {c : Nat} {z : Str} {neg : Bool} : ρSgn neg τ (.str ⟨#[c]⟩) (.str z) k = k τ (.bl (neg ^^ decide (c ∈ z.cps.toList))) := by
  refine propext ⟨fun ⟨c', e, h⟩ => ?_, fun h => ⟨c, rfl, h⟩⟩
  injection e with e
  have : c = c' := by simpa using e
  subst this
  exact h
theorem ρAbs_int {i : Int} : ρAbs τ [.int i] k = k τ (.int (if i < 0 then -i else i)) := rfl
theorem ρMax_two {i j : Int} : ρMax τ [.int i, .int j] k = k τ (.int (if j > i then j else i)) := rfl
theorem ρMin_two {i j : Int} : ρMin τ [.int i, .int j] k = k τ (.int (if j < i then j else i)) := rfl
theorem ex_some {α : Type} {o : Option α} {f : α → Prop} : (∃ a, o = some a ∧ f a) = onSome o f := by
  cases o with
  | none => exact propext ⟨fun ⟨_, z, _⟩ => (by cases z), fun z => z.elim⟩
  | some b => exact propext ⟨fun ⟨_, z, q⟩ => by cases z; exact q, fun z => ⟨b, rfl, z⟩⟩
theorem ρMax_lst {l : List D} : ρMax τ [.lst l] k = onSome (intsOf l) fun ns => onSome (maxL ns) fun z => k τ (.int z) := by
  show (∃ l' ns z, lstOf τ (.lst l) = some l' ∧ intsOf l' = some ns ∧ maxL ns = some z ∧ k τ (.int z)) = _
  refine propext ⟨fun ⟨l', ns, z, e1, e2, e3, h⟩ => ?_, fun h => ?_⟩
  · cases e1
    rw [e2]
    show onSome (maxL ns) _
    rw [e3]
    exact h
  · cases e2 : intsOf l with
    | none => rw [e2] at h; exact h.elim
    | some ns =>
      rw [e2] at h
      have h : onSome (maxL ns) fun z => k τ (.int z) := h
      cases e3 : maxL ns with
      | none => rw [e3] at h; exact h.elim
      | some z => rw [e3] at h; exact ⟨l, ns, z, rfl, e2, e3, h⟩
theorem ρMin_lst {l : List D} : ρMin τ [.lst l] k = onSome (intsOf l) fun ns => onSome (minL ns) fun z => k τ (.int z) := by
  show (∃ l' ns z, lstOf τ (.lst l) = some l' ∧ intsOf l' = some ns ∧ minL ns = some z ∧ k τ (.int z)) = _
  refine propext ⟨fun ⟨l', ns, z, e1, e2, e3, h⟩ => ?_, fun h => ?_⟩
  · cases e1
    rw [e2]
    show onSome (minL ns) _
    rw [e3]
    exact h
  · cases e2 : intsOf l with
    | none => rw [e2] at h; exact h.elim
    | some ns =>
      rw [e2] at h
      have h : onSome (minL ns) fun z => k τ (.int z) := h
      cases e3 : minL ns with
      | none => rw [e3] at h; exact h.elim
      | some z => rw [e3] at h; exact ⟨l, ns, z, rfl, e2, e3, h⟩
theorem ρInt_int {i : Int} : ρInt τ [.int i] k = k τ (.int i) := rfl
theorem ρInt_bl {i : Bool} : ρInt τ [.bl i] k = k τ (.int (if i then 1 else 0)) := rfl
theorem ρStr_int {i : Int} : ρStr τ [.int i] k = (i.natAbs.log2 < 1920 ∧ k τ (.str (strI i))) := rfl
theorem ρLen_str {z : Str} : ρLen τ [.str z] k = (z.length ≤ sizeLine ∧ k τ (.int (z.length : Nat))) := rfl
theorem ρLen_tup {z : List D} : ρLen τ [.tup z] k = k τ (.int (z.length : Nat)) := rfl
theorem ρLen_lst {z : List D} : ρLen τ [.lst z] k = k τ (.int (z.length : Nat)) := rfl
theorem ρLen_ref {p : Addr} : ρLen τ [.ref p] k = onSome (lstAt τ p) fun xs => k τ (.int (xs.length : Nat)) := by
  simp only [ρLen, lstAt]
  cases τ p with
  | none => rfl
  | some o => cases o <;> rfl
theorem ρSum_lst {l : List D} : ρSum τ [.lst l] k = onSome (intsOf l) fun ns => k τ (.int ns.sum) := by
  show (∃ l' ns, lstOf τ (.lst l) = some l' ∧ intsOf l' = some ns ∧ k τ (.int ns.sum)) = _
  refine propext ⟨fun ⟨l', ns, e1, e2, h⟩ => ?_, fun h => ?_⟩
  · cases e1
    rw [e2]
    exact h
  · cases e2 : intsOf l with
    | none => rw [e2] at h; exact h.elim
    | some ns => rw [e2] at h; exact ⟨l, ns, rfl, e2, h⟩
theorem ρAll_lst {l : List D} : ρAll τ [.lst l] k = onSome (blsOf l) fun ns => k τ (.bl (ns.all id)) := by
  show (∃ l' ns, lstOf τ (.lst l) = some l' ∧ blsOf l' = some ns ∧ k τ (.bl (ns.all id))) = _
  refine propext ⟨fun ⟨l', ns, e1, e2, h⟩ => ?_, fun h => ?_⟩
  · cases e1
    rw [e2]
    exact h
  · cases e2 : blsOf l with
    | none => rw [e2] at h; exact h.elim
    | some ns => rw [e2] at h; exact ⟨l, ns, rfl, e2, h⟩
theorem ρAny_lst {l : List D} : ρAny τ [.lst l] k = onSome (blsOf l) fun ns => k τ (.bl (ns.any id)) := by
  show (∃ l' ns, lstOf τ (.lst l) = some l' ∧ blsOf l' = some ns ∧ k τ (.bl (ns.any id))) = _
  refine propext ⟨fun ⟨l', ns, e1, e2, h⟩ => ?_, fun h => ?_⟩
  · cases e1
    rw [e2]
    exact h
  · cases e2 : blsOf l with
    | none => rw [e2] at h; exact h.elim
    | some ns => rw [e2] at h; exact ⟨l, ns, rfl, e2, h⟩
theorem ρTupO_tup {z : List D} : ρTupO τ [.tup z] k = k τ (.tup z) := rfl
theorem ρTupO_lst {z : List D} : ρTupO τ [.lst z] k = k τ (.tup z) := rfl
theorem ρLstO_eq0 {xs : List D} : ρLstO τ xs k = ρLstO τ xs k := rfl
theorem ρIsi_eq {x : D} {n : String} : ρIsi τ [x, .ty n] k = onSome (isiB x n) fun b => k τ (.bl b) := by
  simp only [ρIsi]
  cases isiB x n <;> rfl
theorem is_non_int : isiB .non "int" = some false := (show isiT "NoneType" "int" = some false by decide +kernel)
theorem is_non_bool : isiB .non "bool" = some false := (show isiT "NoneType" "bool" = some false by decide +kernel)
theorem is_non_str : isiB .non "str" = some false := (show isiT "NoneType" "str" = some false by decide +kernel)
theorem is_non_tuple : isiB .non "tuple" = some false := (show isiT "NoneType" "tuple" = some false by decide +kernel)
theorem is_non_list : isiB .non "list" = some false := (show isiT "NoneType" "list" = some false by decide +kernel)
theorem is_bl_int {x : Bool} : isiB (.bl x) "int" = some true := (show isiT "bool" "int" = some true by decide +kernel)
theorem is_bl_bool {x : Bool} : isiB (.bl x) "bool" = some true := (show isiT "bool" "bool" = some true by decide +kernel)
theorem is_bl_str {x : Bool} : isiB (.bl x) "str" = some false := (show isiT "bool" "str" = some false by decide +kernel)
theorem is_bl_tuple {x : Bool} : isiB (.bl x) "tuple" = some false := (show isiT "bool" "tuple" = some false by decide +kernel)
theorem is_bl_list {x : Bool} : isiB (.bl x) "list" = some false := (show isiT "bool" "list" = some false by decide +kernel)
theorem is_int_int {x : Int} : isiB (.int x) "int" = some true := (show isiT "int" "int" = some true by decide +kernel)
theorem is_int_bool {x : Int} : isiB (.int x) "bool" = some false := (show isiT "int" "bool" = some false by decide +kernel)
theorem is_int_str {x : Int} : isiB (.int x) "str" = some false := (show isiT "int" "str" = some false by decide +kernel)
theorem is_int_tuple {x : Int} : isiB (.int x) "tuple" = some false := (show isiT "int" "tuple" = some false by decide +kernel)
theorem is_int_list {x : Int} : isiB (.int x) "list" = some false := (show isiT "int" "list" = some false by decide +kernel)
theorem is_str_int {x : Str} : isiB (.str x) "int" = some false := (show isiT "str" "int" = some false by decide +kernel)
theorem is_str_bool {x : Str} : isiB (.str x) "bool" = some false := (show isiT "str" "bool" = some false by decide +kernel)
theorem is_str_str {x : Str} : isiB (.str x) "str" = some true := (show isiT "str" "str" = some true by decide +kernel)
theorem is_str_tuple {x : Str} : isiB (.str x) "tuple" = some false := (show isiT "str" "tuple" = some false by decide +kernel)
theorem is_str_list {x : Str} : isiB (.str x) "list" = some false := (show isiT "str" "list" = some false by decide +kernel)
theorem is_tup_int {x : List D} : isiB (.tup x) "int" = some false := (show isiT "tuple" "int" = some false by decide +kernel)
theorem is_tup_bool {x : List D} : isiB (.tup x) "bool" = some false := (show isiT "tuple" "bool" = some false by decide +kernel)
theorem is_tup_str {x : List D} : isiB (.tup x) "str" = some false := (show isiT "tuple" "str" = some false by decide +kernel)
theorem is_tup_tuple {x : List D} : isiB (.tup x) "tuple" = some true := (show isiT "tuple" "tuple" = some true by decide +kernel)
theorem is_tup_list {x : List D} : isiB (.tup x) "list" = some false := (show isiT "tuple" "list" = some false by decide +kernel)
theorem is_lst_int {x : List D} : isiB (.lst x) "int" = some false := (show isiT "list" "int" = some false by decide +kernel)
theorem is_lst_bool {x : List D} : isiB (.lst x) "bool" = some false := (show isiT "list" "bool" = some false by decide +kernel)
theorem is_lst_str {x : List D} : isiB (.lst x) "str" = some false := (show isiT "list" "str" = some false by decide +kernel)
theorem is_lst_tuple {x : List D} : isiB (.lst x) "tuple" = some false := (show isiT "list" "tuple" = some false by decide +kernel)
theorem is_lst_list {x : List D} : isiB (.lst x) "list" = some true := (show isiT "list" "list" = some true by decide +kernel)
theorem tyN_non : (tyN .non).isSome = true := rfl
theorem tyN_bl {x : Bool} : (tyN (.bl x)).isSome = true := rfl
theorem tyN_int {x : Int} : (tyN (.int x)).isSome = true := rfl
theorem tyN_str {x : Str} : (tyN (.str x)).isSome = true := rfl
theorem tyN_tup {x : List D} : (tyN (.tup x)).isSome = true := rfl
theorem tyN_lst {x : List D} : (tyN (.lst x)).isSome = true := rfl
theorem ρIx_tup0 {xs : List D} {i : Int} : ρIx τ (.tup xs) (.int i) k = ρIx τ (.tup xs) (.int i) k := rfl
theorem ρIx_tup {xs : List D} {i : Int} : ρIx τ (.tup xs) (.int i) k = onSome (atI xs i) fun d => k τ d := by
  simp only [ρIx]
  cases atI xs i <;> rfl
theorem ρIx_lst {xs : List D} {i : Int} : ρIx τ (.lst xs) (.int i) k = onSome (atI xs i) fun d => k τ d := by
  simp only [ρIx]
  cases atI xs i <;> rfl
theorem ρIx_str {z : Str} {i : Int} : ρIx τ (.str z) (.int i) k = (z.length ≤ sizeLine ∧ onSome (atI z.cps.toList i) fun c => k τ (.str ⟨#[c]⟩)) := by
  simp only [ρIx]
  cases atI z.cps.toList i <;> rfl
theorem ρIx_ref {p : Addr} {i : Int} : ρIx τ (.ref p) (.int i) k = onSome (lstAt τ p) fun xs => onSome (atI xs i) fun d => k τ d := by
  simp only [ρIx, lstAt]
  cases τ p with
  | none => rfl
  | some o =>
    cases o with
    | lst xs =>
      show (match atI xs i with | some d => k τ d | none => False) = onSome (atI xs i) _
      cases atI xs i <;> rfl
    | _ => rfl
theorem ρSl_str {z : Str} {lo hi : Option Int} : ρSl τ (.str z) lo hi k = (z.length ≤ sizeLine ∧ k τ (.str (cutS z lo hi))) := rfl
theorem ρSl_lst {z : List D} {lo hi : Option Int} : ρSl τ (.lst z) lo hi k = k τ (.lst (cutD z lo hi)) := rfl
theorem ρSl_tup {z : List D} {lo hi : Option Int} : ρSl τ (.tup z) lo hi k = k τ (.tup (cutD z lo hi)) := rfl
theorem ρApp_ref {p : Addr} {d : D} : ρApp τ (.ref p) [d] k = onSome (lstAt τ p) fun ys => ys.length < sizeLine ∧ k (tset τ p (.lst (ys ++ [d]))) .non := by
  simp only [ρApp, lstAt]
  cases τ p with
  | none => rfl
  | some o => cases o <;> rfl
theorem θLst_ref {p : Addr} : θLst τ (.ref p) = ((lstAt τ p).isSome = true) := by
  unfold θLst lstOf lstAt
  rfl
theorem θStr_str {z : Str} : θStr τ (.str z) = True := rfl
theorem ςLst_ref {p : Addr} {z : Int} {v : D} {kk : TD → Prop} : ςLst τ (.ref p) (.int z) v kk = onSome (lstAt τ p) fun ys => onSome (ixN ys.length z) fun n => kk (tset τ p (.lst (ys.set n v))) := by
  simp only [ςLst, lstAt]
  cases τ p with
  | none => rfl
  | some o =>
    cases o with
    | lst xs =>
      show (match ixN xs.length z with | some n => kk (tset τ p (.lst (xs.set n v))) | none => False) = onSome (ixN xs.length z) _
      cases ixN xs.length z <;> rfl
    | _ => rfl
theorem ρJoin_lst {s : Str} {l : List D} : ρJoin τ (.str s) [.lst l] k = onSome (strsOf l) fun ys => (ys.map (·.length)).sum + ys.length * s.length ≤ 16777216 ∧ k τ (.str (Txt.join s ys)) := by
  show (∃ l' ys, (lstOf τ (.lst l) = some l' ∨ tupOf (.lst l) = some l') ∧ strsOf l' = some ys ∧ _ ∧ _) = _
  refine propext ⟨fun ⟨l', ys, e1, e2, h⟩ => ?_, fun h => ?_⟩
  · rcases e1 with e1 | e1
    · cases e1
      rw [e2]
      exact h
    · cases e1
  · cases e2 : strsOf l with
    | none => rw [e2] at h; exact h.elim
    | some ns => rw [e2] at h; exact ⟨l, ns, .inl rfl, e2, h⟩
theorem dTup1 : dTup δs τ ds k = δs τ ds fun τ1 xs => xs.length ≤ sizeLine ∧ k τ1 (.tup xs) := rfl
theorem γTup_tup {n : Nat} {γs : DGs} {es : List D} {kg : TD → Sl → Prop} : γTup n γs (.tup es) τ ds kg = (es.length = n ∧ γs es τ ds kg) := rfl
end
theorem atI_nat {α : Type} {xs : List α} {n : Nat} (h : n < xs.length) : atI xs (n : Int) = xs[n]? := by
  unfold atI ixN
  have h1 : ¬ ((n : Int) < 0) := by omega
  simp [h1, h]
theorem atI_0 {α : Type} {x0 : α} {xs : List α} : atI (x0 :: xs) 0 = some x0 := by
  have h := atI_nat (xs := x0 :: xs) (n := 0) (by simp)
  simpa using h
theorem atI_1 {α : Type} {x0 x1 : α} {xs : List α} : atI (x0 :: x1 :: xs) 1 = some x1 := by
  have h := atI_nat (xs := x0 :: x1 :: xs) (n := 1) (by simp)
  simpa using h
theorem atI_2 {α : Type} {x0 x1 x2 : α} {xs : List α} : atI (x0 :: x1 :: x2 :: xs) 2 = some x2 := by
  have h := atI_nat (xs := x0 :: x1 :: x2 :: xs) (n := 2) (by simp)
  simpa using h
theorem atI_3 {α : Type} {x0 x1 x2 x3 : α} {xs : List α} : atI (x0 :: x1 :: x2 :: x3 :: xs) 3 = some x3 := by
  have h := atI_nat (xs := x0 :: x1 :: x2 :: x3 :: xs) (n := 3) (by simp)
  simpa using h
theorem atI_4 {α : Type} {x0 x1 x2 x3 x4 : α} {xs : List α} : atI (x0 :: x1 :: x2 :: x3 :: x4 :: xs) 4 = some x4 := by
  have h := atI_nat (xs := x0 :: x1 :: x2 :: x3 :: x4 :: xs) (n := 4) (by simp)
  simpa using h
theorem atI_5 {α : Type} {x0 x1 x2 x3 x4 x5 : α} {xs : List α} : atI (x0 :: x1 :: x2 :: x3 :: x4 :: x5 :: xs) 5 = some x5 := by
  have h := atI_nat (xs := x0 :: x1 :: x2 :: x3 :: x4 :: x5 :: xs) (n := 5) (by simp)
  simpa using h
theorem atI_6 {α : Type} {x0 x1 x2 x3 x4 x5 x6 : α} {xs : List α} : atI (x0 :: x1 :: x2 :: x3 :: x4 :: x5 :: x6 :: xs) 6 = some x6 := by
  have h := atI_nat (xs := x0 :: x1 :: x2 :: x3 :: x4 :: x5 :: x6 :: xs) (n := 6) (by simp)
  simpa using h
theorem atI_7 {α : Type} {x0 x1 x2 x3 x4 x5 x6 x7 : α} {xs : List α} : atI (x0 :: x1 :: x2 :: x3 :: x4 :: x5 :: x6 :: x7 :: xs) 7 = some x7 := by
  have h := atI_nat (xs := x0 :: x1 :: x2 :: x3 :: x4 :: x5 :: x6 :: x7 :: xs) (n := 7) (by simp)
  simpa using h
end DL

set_option Elab.async false
set_option linter.all false
set_option maxRecDepth 100000
set_option maxHeartbeats 1000000
/-! The data layer, 11: comprehensions over mapped lists, == of data. -/
namespace DL
open PySem PySem.Spec PyProof.Rows L2 DX
section
variable {τ : TD} {k : DK}
theorem ρEq_int {i j : Int} : ρEq τ (.int i) (.int j) k = k τ (.bl (decide (i = j))) := rfl
theorem ρEq_str {i j : Str} : ρEq τ (.str i) (.str j) k = k τ (.bl (decide (i = j))) := rfl
theorem ρEq_bl {i j : Bool} : ρEq τ (.bl i) (.bl j) k = k τ (.bl (decide (i = j))) := rfl
theorem ρNe_int {i j : Int} : ρNe τ (.int i) (.int j) k = k τ (.bl (!decide (i = j))) := rfl
theorem ρNe_str {i j : Str} : ρNe τ (.str i) (.str j) k = k τ (.bl (!decide (i = j))) := rfl
theorem ρNe_bl {i j : Bool} : ρNe τ (.bl i) (.bl j) k = k τ (.bl (!decide (i = j))) := rfl
theorem pyAll_int : ∀ is : List Int, pyAll (is.map D.int) = some (is.map PyData.int)
  | [] => rfl
  | i :: is => by
    show (match pyOf (.int i), pyAll (is.map D.int) with
    | some p, some ps => some (p :: ps)
    | _, _ => none) = _
    rw [pyAll_int is]
    rfl
theorem eqv_int : ∀ is js : List Int, PyData.eqvAll (is.map PyData.int) (js.map PyData.int) = decide (is = js)
  | [], [] => rfl
  | [], j :: js => rfl
  | i :: is, [] => rfl
  | i :: is, j :: js => by
    show ((i == j) && PyData.eqvAll (is.map PyData.int) (js.map PyData.int)) = _
    rw [eqv_int is js]
    by_cases h : i = j <;> by_cases h2 : is = js <;> simp [h, h2]
theorem lay_int : ∀ is : List Int, PyData.canLayAll0 (is.map PyData.int) = true
  | [] => rfl
  | i :: is => by
    show (true && PyData.canLayAll0 (is.map PyData.int)) = true
    rw [lay_int is]
    rfl
theorem dep_int : ∀ is : List Int, PyData.depthAll (is.map PyData.int) = 0
  | [] => rfl
  | i :: is => by
    show max 0 (PyData.depthAll (is.map PyData.int)) = 0
    rw [dep_int is]
    rfl
theorem sh_int (is : List Int) : SeqAt.shaped (.tuple (is.map PyData.int)) = true ∧ SeqAt.shaped (.list (is.map PyData.int)) = true := by
  have h1 := lay_int is
  have h2 := dep_int is
  constructor
  · show (PyData.canLayAll0 _ && decide (PyData.depthAll _ + 1 ≤ 64)) = true
    rw [h1, h2]; rfl
  · show (PyData.canLayAll0 _ && decide (PyData.depthAll _ + 1 ≤ 64)) = true
    rw [h1, h2]; rfl
theorem eqA_ti {is js : List Int} {f : Bool → Prop} : eqA (.tup (is.map D.int)) (.tup (js.map D.int)) f = f (decide (is = js)) := by
  show (match (pyAll (is.map D.int)).map PyData.tuple, (pyAll (js.map D.int)).map PyData.tuple with
    | some p, some p' => SeqAt.shaped p = true ∧ SeqAt.shaped p' = true ∧ f (PyData.eqv p p')
    | _, _ => False) = _
  rw [pyAll_int, pyAll_int]
  show (SeqAt.shaped _ = true ∧ SeqAt.shaped _ = true ∧ f (PyData.eqvAll _ _)) = _
  rw [(sh_int is).1, (sh_int js).1, eqv_int]
  simp
theorem eqA_li {is js : List Int} {f : Bool → Prop} : eqA (.lst (is.map D.int)) (.lst (js.map D.int)) f = f (decide (is = js)) := by
  show (match (pyAll (is.map D.int)).map PyData.list, (pyAll (js.map D.int)).map PyData.list with
    | some p, some p' => SeqAt.shaped p = true ∧ SeqAt.shaped p' = true ∧ f (PyData.eqv p p')
    | _, _ => False) = _
  rw [pyAll_int, pyAll_int]
  show (SeqAt.shaped _ = true ∧ SeqAt.shaped _ = true ∧ f (PyData.eqvAll _ _)) = _
  rw [(sh_int is).2, (sh_int js).2, eqv_int]
  simp
theorem ρEq_t3 {a b c a' b' c' : Int} : ρEq τ (.tup [.int a, .int b, .int c]) (.tup [.int a', .int b', .int c']) k = k τ (.bl (decide ([a, b, c] = [a', b', c']))) := eqA_ti (is := [a, b, c]) (js := [a', b', c'])
theorem ρNe_t3 {a b c a' b' c' : Int} : ρNe τ (.tup [.int a, .int b, .int c]) (.tup [.int a', .int b', .int c']) k = k τ (.bl (!decide ([a, b, c] = [a', b', c']))) := eqA_ti (is := [a, b, c]) (js := [a', b', c'])
theorem ρEq_t2 {a b a' b' : Int} : ρEq τ (.tup [.int a, .int b]) (.tup [.int a', .int b']) k = k τ (.bl (decide ([a, b] = [a', b']))) := eqA_ti (is := [a, b]) (js := [a', b'])
theorem ρNe_t2 {a b a' b' : Int} : ρNe τ (.tup [.int a, .int b]) (.tup [.int a', .int b']) k = k τ (.bl (!decide ([a, b] = [a', b']))) := eqA_ti (is := [a, b]) (js := [a', b'])
theorem pyAll_str : ∀ is : List Str, pyAll (is.map D.str) = some (is.map PyData.str)
  | [] => rfl
  | i :: is => by
    show (match pyOf (.str i), pyAll (is.map D.str) with
    | some p, some ps => some (p :: ps)
    | _, _ => none) = _
    rw [pyAll_str is]
    rfl
theorem eqv_str : ∀ is js : List Str, PyData.eqvAll (is.map PyData.str) (js.map PyData.str) = decide (is = js)
  | [], [] => rfl
  | [], j :: js => rfl
  | i :: is, [] => rfl
  | i :: is, j :: js => by
    show ((i == j) && PyData.eqvAll (is.map PyData.str) (js.map PyData.str)) = _
    rw [eqv_str is js]
    by_cases h : i = j <;> by_cases h2 : is = js <;> simp [h, h2]
theorem lay_str : ∀ is : List Str, (∀ x ∈ is, PyData.canLay0 (.str x) = true) → PyData.canLayAll0 (is.map PyData.str) = true
  | [], _ => rfl
  | i :: is, h => by
    show (PyData.canLay0 (.str i) && PyData.canLayAll0 (is.map PyData.str)) = true
    rw [lay_str is fun x hx => h x (List.mem_cons_of_mem _ hx), h i List.mem_cons_self]
    rfl
theorem dep_str : ∀ is : List Str, PyData.depthAll (is.map PyData.str) = 0
  | [] => rfl
  | i :: is => by
    show max 0 (PyData.depthAll (is.map PyData.str)) = 0
    rw [dep_str is]
    rfl
theorem eqA_ls {is js : List Str} {f : Bool → Prop} (h1 : ∀ x ∈ is, PyData.canLay0 (.str x) = true) (h2 : ∀ x ∈ js, PyData.canLay0 (.str x) = true) (h : f (decide (is = js))) : eqA (.lst (is.map D.str)) (.lst (js.map D.str)) f := by
  show (match (pyAll (is.map D.str)).map PyData.list, (pyAll (js.map D.str)).map PyData.list with
    | some p, some p' => SeqAt.shaped p = true ∧ SeqAt.shaped p' = true ∧ f (PyData.eqv p p')
    | _, _ => False)
  rw [pyAll_str, pyAll_str]
  refine ⟨?_, ?_, ?_⟩
  · show (PyData.canLayAll0 _ && decide (PyData.depthAll _ + 1 ≤ 64)) = true
    rw [lay_str is h1, dep_str]; rfl
  · show (PyData.canLayAll0 _ && decide (PyData.depthAll _ + 1 ≤ 64)) = true
    rw [lay_str js h2, dep_str]; rfl
  · show f (PyData.eqvAll _ _)
    rw [eqv_str]
    exact h
theorem intsOf_map : ∀ is : List Int, intsOf (is.map D.int) = some is
  | [] => rfl
  | i :: is => by
    show (intsOf (is.map D.int)).map (i :: ·) = _
    rw [intsOf_map is]
    rfl
theorem strsOf_map : ∀ is : List Str, strsOf (is.map D.str) = some is
  | [] => rfl
  | i :: is => by
    show (strsOf (is.map D.str)).map (i :: ·) = _
    rw [strsOf_map is]
    rfl
theorem blsOf_map : ∀ is : List Bool, blsOf (is.map D.bl) = some is
  | [] => rfl
  | i :: is => by
    show (blsOf (is.map D.bl)).map (i :: ·) = _
    rw [blsOf_map is]
    rfl
theorem intsOf_mapf {α : Type} (f : α → Int) (l : List α) : intsOf (l.map fun x => D.int (f x)) = some (l.map f) := by
  have h := intsOf_map (l.map f)
  rw [List.map_map] at h
  exact h
theorem strsOf_mapf {α : Type} (f : α → Str) (l : List α) : strsOf (l.map fun x => D.str (f x)) = some (l.map f) := by
  have h := strsOf_map (l.map f)
  rw [List.map_map] at h
  exact h
theorem blsOf_mapf {α : Type} (f : α → Bool) (l : List α) : blsOf (l.map fun x => D.bl (f x)) = some (l.map f) := by
  have h := blsOf_map (l.map f)
  rw [List.map_map] at h
  exact h
end
section
variable {γ : DG} {η : DT} {δ : DE} {ws : List Nat} {ds : Sl} {τ0 : TD} {k : TD → List D → Prop} {L : Addr} {α : Type}
/-- items g c, each read by itself: what comes of it, if it is taken -/
theorem lc_fm {l : List α} {g : α → D} (h : α → Option D) (hz : l.length ≤ sizeLine)
    (step : ∀ c ∈ l, ∀ (τ : TD) (k : TD → Option D → Prop), k τ (h c) → γ (g c) τ (wipeD ds ws) fun τ1 ds1 => η τ1 ds1 fun τ2 b => if b = true then δ τ2 ds1 fun τ3 d => k τ3 (some d) else k τ2 none)
    (hk : k (tset τ0 L (.lst (l.filterMap h))) (l.filterMap h)) : dLcL γ η δ ws ds L k (l.map g) [] (tset τ0 L (.lst [])) := by
  refine lc_ind (fun r acc τ => (∃ pre post, l = pre ++ post ∧ r = post.map g ∧ acc = pre.filterMap h) ∧ τ = tset τ0 L (.lst acc)) (fun x r acc τ hI G hG => ?_) (fun acc τ hI => ?_) (l.map g) [] _ ⟨⟨[], l, rfl, rfl, rfl⟩, rfl⟩
  · obtain ⟨⟨pre, post, e1, e2, e3⟩, e4⟩ := hI
    cases post with
    | nil => cases e2
    | cons c post =>
      have e5 : x = g c ∧ r = post.map g := by simpa using e2
      obtain ⟨e5, e6⟩ := e5
      subst e5 e6
      have hc : c ∈ l := by rw [e1]; simp
      have hl : acc.length < sizeLine := by
        have h1 : acc.length ≤ pre.length := by rw [e3]; exact List.length_filterMap_le _ _
        have h2 : l.length = pre.length + (post.length + 1) := by rw [e1]; simp
        omega
      have tl : τ L = some (.lst acc) := by rw [e4]; exact tset_same
      refine step c hc τ (fun τ3 o => match o with | some d => τ3 L = some (.lst acc) ∧ acc.length < sizeLine ∧ G (acc ++ [d]) (tset τ3 L (.lst (acc ++ [d]))) | none => G acc τ3) ?_
      cases hf : h c with
      | some d => exact ⟨tl, hl, hG _ _ ⟨⟨pre ++ [c], post, by rw [e1]; simp, rfl, by rw [e3]; simp [hf]⟩, by rw [e4, tset_tset]⟩⟩
      | none => exact hG _ _ ⟨⟨pre ++ [c], post, by rw [e1]; simp, rfl, by rw [e3]; simp [hf]⟩, e4⟩
  · obtain ⟨⟨pre, post, e1, e2, e3⟩, e4⟩ := hI
    have : post = [] := by simpa using e2.symm
    subst this
    rw [List.append_nil] at e1
    subst e1
    refine ⟨by rw [e4]; exact tset_same, ?_⟩
    rw [e4, e3]
    exact hk
theorem lc_map {l : List α} {g : α → D} (h : α → D) (hz : l.length ≤ sizeLine)
    (step : ∀ c ∈ l, ∀ (τ : TD) (k : TD → D → Prop), k τ (h c) → γ (g c) τ (wipeD ds ws) fun τ1 ds1 => δ τ1 ds1 fun τ3 d => k τ3 d)
    (hk : k (tset τ0 L (.lst (l.map h))) (l.map h)) : dLcL γ dYes δ ws ds L k (l.map g) [] (tset τ0 L (.lst [])) := by
  refine lc_fm (fun c => some (h c)) hz (fun c hc τ k' hk' => ?_) ?_
  · exact step c hc τ (fun τ3 d => k' τ3 (some d)) hk'
  · have e : (l.filterMap fun c => some (h c)) = l.map h := by
      induction l with
      | nil => rfl
      | cons a l ih => simp
    rw [e]
    exact hk
end
/-- a loop over mapped items, a state s that each turn changes -/
theorem loop_st {γ : DG} {β : DS} {F : EndsD} {α σ : Type} {g : α → D} (I : σ → TD → Sl → Prop) (f : σ → α → σ) (l : List α)
    (step : ∀ c ∈ l, ∀ s τ ds, I s τ ds → ∀ G : TD → Sl → Prop, (∀ τ' ds', I (f s c) τ' ds' → G τ' ds') → γ (g c) τ ds (β { F with nx := G, ct := G, bk := F.nx }))
    {s0 : σ} {τ : TD} {ds : Sl} (h0 : I s0 τ ds) (fin : ∀ τ ds, I (l.foldl f s0) τ ds → F.nx τ ds) : dLoop γ β F (l.map g) τ ds := by
  induction l generalizing s0 τ ds with
  | nil => exact fin τ ds h0
  | cons c l ih =>
    exact step c List.mem_cons_self s0 τ ds h0 _ fun τ' ds' h' => ih (fun c hc => step c (List.mem_cons_of_mem _ hc)) h' fin
theorem ixN_30 : ixN 3 0 = some 0 := rfl
theorem ixN_31 : ixN 3 1 = some 1 := rfl
theorem ixN_32 : ixN 3 2 = some 2 := rfl
theorem cutD_map {α : Type} (f : α → D) (l : List α) (lo hi : Option Int) : cutD (l.map f) lo hi = ((l.drop (HT.sIx l.length 0 lo)).take (HT.sIx l.length l.length hi - HT.sIx l.length 0 lo)).map f := by
  unfold cutD
  rw [List.length_map, List.map_take, List.map_drop]
theorem lstAt_ne {τ : TD} {a b : Addr} {o : DO} (h : b ≠ a) : lstAt (tset τ a o) b = lstAt τ b := by unfold lstAt; rw [tset_ne h]
/-- the law's dice: three numbers, the last at most n -/
def Dc (n : Nat) (xs : List D) : Prop := ∃ a b c : Int, xs = [.int a, .int b, .int c] ∧ 0 ≤ a ∧ 0 ≤ b ∧ 0 ≤ c ∧ c ≤ n
/-- .. with the number of turns -/
theorem loop_stn {γ : DG} {β : DS} {F : EndsD} {α σ : Type} {g : α → D} (I : Nat → σ → TD → Sl → Prop) (f : σ → α → σ) (l : List α)
    (step : ∀ i c, i < l.length → l[i]? = some c → ∀ s τ ds, I i s τ ds → ∀ G : TD → Sl → Prop, (∀ τ' ds', I (i + 1) (f s c) τ' ds' → G τ' ds') → γ (g c) τ ds (β { F with nx := G, ct := G, bk := F.nx }))
    {s0 : σ} {τ : TD} {ds : Sl} (h0 : I 0 s0 τ ds) (fin : ∀ τ ds, I l.length (l.foldl f s0) τ ds → F.nx τ ds) : dLoop γ β F (l.map g) τ ds := by
  have key : ∀ (pre post : List α) (τ : TD) (ds : Sl), l = pre ++ post → I pre.length (pre.foldl f s0) τ ds → dLoop γ β F (post.map g) τ ds := by
    intro pre post
    induction post generalizing pre with
    | nil =>
      intro τ ds e h
      rw [List.append_nil] at e
      subst e
      exact fin τ ds h
    | cons c post ih =>
      intro τ ds e h
      refine step pre.length c (by rw [e]; simp) (by rw [e]; simp) _ τ ds h _ fun τ' ds' h' => ih (pre ++ [c]) τ' ds' (by rw [e]; simp) ?_
      rw [List.length_append, List.foldl_append]
      exact h'
  exact key [] l τ ds rfl h0
theorem dSeq_step {ε ζ : DS} {F : EndsD} {τ : TD} {ds : Sl} (h : ∀ Z : TD → Sl → Prop, (∀ τ' ds', ζ F τ' ds' → Z τ' ds') → ε { F with nx := Z } τ ds) : dSeq ε ζ F τ ds := h (ζ F) fun _ _ h => h
theorem frzs_refl {τ' τ'' : TD} : ∀ xs : List D, Frzs τ' τ'' xs xs
  | [] => .nil
  | x :: xs => .cons (.same x) (frzs_refl xs)
theorem Fin.lst {k : DK} {τ : TD} {L : Addr} {xs : List D} (hL : τ L = none) (h : k τ (.lst xs)) : Fin k (tset τ L (.lst xs)) (.ref L) := ⟨τ, .lst xs, sub_tset hL, .lst tset_same hL (frzs_refl xs), h⟩
theorem head_of {α : Type} {p : α → Bool} {G : α → D} {r0 : α} (h2 : p r0 = true) : ∀ {l : List α}, (∀ r ∈ l, p r = true → r = r0) → r0 ∈ l → ∃ tl, l.filterMap (fun r => if p r = true then some (G r) else none) = G r0 :: tl
  | [], _, h => absurd h List.not_mem_nil
  | r :: l, h, hm => by
    by_cases e : p r = true
    · have := h r List.mem_cons_self e
      subst this
      rw [List.filterMap_cons, if_pos e]
      exact ⟨_, rfl⟩
    · rw [List.filterMap_cons, if_neg e]
      refine head_of h2 (fun r hr => h r (List.mem_cons_of_mem _ hr)) ?_
      rcases List.mem_cons.mp hm with e2 | e2
      · rw [e2] at h2; exact absurd h2 e
      · exact e2
theorem gK_01_0 {x0 : D} : gK 0 1 [0] [] [x0] = [x0] := rfl
theorem gK_02_01 {x0 x1 : D} : gK 0 2 [0, 1] [] [x0, x1] = [x0, x1] := rfl
theorem gK_02_10 {x0 x1 : D} : gK 0 2 [1, 0] [] [x0, x1] = [x1, x0] := rfl
theorem gK_03_012 {x0 x1 x2 : D} : gK 0 3 [0, 1, 2] [] [x0, x1, x2] = [x0, x1, x2] := rfl
theorem gK_03_021 {x0 x1 x2 : D} : gK 0 3 [0, 2, 1] [] [x0, x1, x2] = [x0, x2, x1] := rfl
theorem gK_03_102 {x0 x1 x2 : D} : gK 0 3 [1, 0, 2] [] [x0, x1, x2] = [x1, x0, x2] := rfl
theorem gK_03_120 {x0 x1 x2 : D} : gK 0 3 [1, 2, 0] [] [x0, x1, x2] = [x1, x2, x0] := rfl
theorem gK_03_201 {x0 x1 x2 : D} : gK 0 3 [2, 0, 1] [] [x0, x1, x2] = [x2, x0, x1] := rfl
theorem gK_03_210 {x0 x1 x2 : D} : gK 0 3 [2, 1, 0] [] [x0, x1, x2] = [x2, x1, x0] := rfl
theorem gK_11_0 {u0 x0 : D} : gK 1 1 [0] [u0] [x0] = [u0, x0] := rfl
theorem gK_12_01 {u0 x0 x1 : D} : gK 1 2 [0, 1] [u0] [x0, x1] = [u0, x0, x1] := rfl
theorem gK_12_10 {u0 x0 x1 : D} : gK 1 2 [1, 0] [u0] [x0, x1] = [u0, x1, x0] := rfl
theorem gK_13_012 {u0 x0 x1 x2 : D} : gK 1 3 [0, 1, 2] [u0] [x0, x1, x2] = [u0, x0, x1, x2] := rfl
theorem gK_13_021 {u0 x0 x1 x2 : D} : gK 1 3 [0, 2, 1] [u0] [x0, x1, x2] = [u0, x0, x2, x1] := rfl
theorem gK_13_102 {u0 x0 x1 x2 : D} : gK 1 3 [1, 0, 2] [u0] [x0, x1, x2] = [u0, x1, x0, x2] := rfl
theorem gK_13_120 {u0 x0 x1 x2 : D} : gK 1 3 [1, 2, 0] [u0] [x0, x1, x2] = [u0, x1, x2, x0] := rfl
theorem gK_13_201 {u0 x0 x1 x2 : D} : gK 1 3 [2, 0, 1] [u0] [x0, x1, x2] = [u0, x2, x0, x1] := rfl
theorem gK_13_210 {u0 x0 x1 x2 : D} : gK 1 3 [2, 1, 0] [u0] [x0, x1, x2] = [u0, x2, x1, x0] := rfl
theorem strsOf_c0 : strsOf [] = some [] := rfl
theorem strsOf_c1 {x0 : Str} : strsOf [.str x0] = some [x0] := rfl
theorem strsOf_c2 {x0 x1 : Str} : strsOf [.str x0, .str x1] = some [x0, x1] := rfl
theorem strsOf_c3 {x0 x1 x2 : Str} : strsOf [.str x0, .str x1, .str x2] = some [x0, x1, x2] := rfl
theorem strsOf_c4 {x0 x1 x2 x3 : Str} : strsOf [.str x0, .str x1, .str x2, .str x3] = some [x0, x1, x2, x3] := rfl
theorem strsOf_c5 {x0 x1 x2 x3 x4 : Str} : strsOf [.str x0, .str x1, .str x2, .str x3, .str x4] = some [x0, x1, x2, x3, x4] := rfl
theorem strsOf_c6 {x0 x1 x2 x3 x4 x5 : Str} : strsOf [.str x0, .str x1, .str x2, .str x3, .str x4, .str x5] = some [x0, x1, x2, x3, x4, x5] := rfl
theorem strsOf_c7 {x0 x1 x2 x3 x4 x5 x6 : Str} : strsOf [.str x0, .str x1, .str x2, .str x3, .str x4, .str x5, .str x6] = some [x0, x1, x2, x3, x4, x5, x6] := rfl
theorem strsOf_c8 {x0 x1 x2 x3 x4 x5 x6 x7 : Str} : strsOf [.str x0, .str x1, .str x2, .str x3, .str x4, .str x5, .str x6, .str x7] = some [x0, x1, x2, x3, x4, x5, x6, x7] := rfl
theorem intsOf_c0 : intsOf [] = some [] := rfl
theorem intsOf_c1 {x0 : Int} : intsOf [.int x0] = some [x0] := rfl
theorem intsOf_c2 {x0 x1 : Int} : intsOf [.int x0, .int x1] = some [x0, x1] := rfl
theorem intsOf_c3 {x0 x1 x2 : Int} : intsOf [.int x0, .int x1, .int x2] = some [x0, x1, x2] := rfl
theorem intsOf_c4 {x0 x1 x2 x3 : Int} : intsOf [.int x0, .int x1, .int x2, .int x3] = some [x0, x1, x2, x3] := rfl
theorem intsOf_c5 {x0 x1 x2 x3 x4 : Int} : intsOf [.int x0, .int x1, .int x2, .int x3, .int x4] = some [x0, x1, x2, x3, x4] := rfl
theorem intsOf_c6 {x0 x1 x2 x3 x4 x5 : Int} : intsOf [.int x0, .int x1, .int x2, .int x3, .int x4, .int x5] = some [x0, x1, x2, x3, x4, x5] := rfl
theorem intsOf_c7 {x0 x1 x2 x3 x4 x5 x6 : Int} : intsOf [.int x0, .int x1, .int x2, .int x3, .int x4, .int x5, .int x6] = some [x0, x1, x2, x3, x4, x5, x6] := rfl
theorem intsOf_c8 {x0 x1 x2 x3 x4 x5 x6 x7 : Int} : intsOf [.int x0, .int x1, .int x2, .int x3, .int x4, .int x5, .int x6, .int x7] = some [x0, x1, x2, x3, x4, x5, x6, x7] := rfl
theorem blsOf_c0 : blsOf [] = some [] := rfl
theorem blsOf_c1 {x0 : Bool} : blsOf [.bl x0] = some [x0] := rfl
theorem blsOf_c2 {x0 x1 : Bool} : blsOf [.bl x0, .bl x1] = some [x0, x1] := rfl
theorem blsOf_c3 {x0 x1 x2 : Bool} : blsOf [.bl x0, .bl x1, .bl x2] = some [x0, x1, x2] := rfl
theorem blsOf_c4 {x0 x1 x2 x3 : Bool} : blsOf [.bl x0, .bl x1, .bl x2, .bl x3] = some [x0, x1, x2, x3] := rfl
theorem blsOf_c5 {x0 x1 x2 x3 x4 : Bool} : blsOf [.bl x0, .bl x1, .bl x2, .bl x3, .bl x4] = some [x0, x1, x2, x3, x4] := rfl
theorem blsOf_c6 {x0 x1 x2 x3 x4 x5 : Bool} : blsOf [.bl x0, .bl x1, .bl x2, .bl x3, .bl x4, .bl x5] = some [x0, x1, x2, x3, x4, x5] := rfl
theorem blsOf_c7 {x0 x1 x2 x3 x4 x5 x6 : Bool} : blsOf [.bl x0, .bl x1, .bl x2, .bl x3, .bl x4, .bl x5, .bl x6] = some [x0, x1, x2, x3, x4, x5, x6] := rfl
theorem blsOf_c8 {x0 x1 x2 x3 x4 x5 x6 x7 : Bool} : blsOf [.bl x0, .bl x1, .bl x2, .bl x3, .bl x4, .bl x5, .bl x6, .bl x7] = some [x0, x1, x2, x3, x4, x5, x6, x7] := rfl
/-- a comprehension's scope, looked through -/
def blkB (N : List Str) (sc scope : Scope) (own : List (Str × Nat)) : Bool :=
  decide (scope.kind = .function) && ((scope.names.all fun y => decide (scope.names.lookup y.1 = some y.2)) && ((own.all fun p => decide (N[p.2]? = some p.1)) &&
  ((scope.names.all fun y => !decide (y.2 = .free) || decide (sc.names.lookup y.1 = some .cell) || decide (sc.names.lookup y.1 = some .free)) && (scope.names.all fun y => !(decide (y.2 = .local) || decide (y.2 = .cell)) || decide (y.1 ∈ own.map (·.1)) || decide (y.1 ∉ N)))))
theorem blk_of {N : List Str} {sc scope : Scope} {own : List (Str × Nat)} (h : blkB N sc scope own = true) : BlkOk N sc scope own := by
  unfold blkB at h
  simp only [Bool.and_eq_true, Bool.or_eq_true, Bool.not_eq_true', decide_eq_true_eq, decide_eq_false_iff_not, List.all_eq_true, Bool.or_eq_false_iff] at h
  obtain ⟨h1, h2, h3, h4, h5⟩ := h
  refine ⟨h1, h2, h3, fun y hy e => ?_, fun y hy e => ?_⟩
  · rcases h4 y hy with (z | z) | z
    · exact absurd e z
    · exact .inl z
    · exact .inr z
  · rcases h5 y hy with (z | z) | z
    · rcases e with e | e
      · exact absurd e z.1
      · exact absurd e z.2
    · exact .inl z
    · exact .inr z
end DL

set_option Elab.async false
set_option linter.all false
set_option maxRecDepth 100000
set_option maxHeartbeats 0
namespace LW
open PySem PySem.Spec PyProof.Rows L2 DL DX
abbrev prog : Program := PySem.Challenge.pw_ringthrough_k41_whole_companding
def top (i : Nat) : Stmt := PySem.Challenge.pw_ringthrough_k41_whole_companding.main.body.getD i (.Pass ⟨0, 0, 0, 0⟩)
abbrev s_is_in : Stmt := top 4
abbrev s_is_tuple : Stmt := top 5
abbrev s_demand : Stmt := top 6
abbrev s_is_bits : Stmt := top 8
abbrev s_number_of : Stmt := top 9
abbrev s_bits_of : Stmt := top 10
abbrev s_least_of : Stmt := top 17
abbrev s_code_of : Stmt := top 18
abbrev s_code : Stmt := top 19
abbrev s_is_code : Stmt := top 20
abbrev s_decoded_of : Stmt := top 21
abbrev s_decoded : Stmt := top 22
abbrev s_worst_error : Stmt := top 23
abbrev s_as_bits : Stmt := top 24
abbrev s_of_bits : Stmt := top 25
abbrev s__law_dice : Stmt := top 27
abbrev s__law_roll : Stmt := top 28
abbrev s__law_pick : Stmt := top 29
abbrev s__law_refused : Stmt := top 30
abbrev s__law_steps : Stmt := top 31
abbrev s__law_step_of : Stmt := top 32
abbrev s__law_right : Stmt := top 33
abbrev s_law : Stmt := top 34
def c_WIDTHS : D := .tup [.int 2, .int 2, .int 4, .int 8, .int 16, .int 32, .int 64, .int 128]
structure Mod (K : PySem.W.Frag) (mg : Str → Option Value) : Prop where
  f_is_in : ∃ fd, Fun K "is_in" "is_in" s_is_in (He.fAd K ("is_in", none)) fd
  g_is_in : mg "is_in" = some (.ref (He.fAd K ("is_in", none)))
  f_is_tuple : ∃ fd, Fun K "is_tuple" "is_tuple" s_is_tuple (He.fAd K ("is_tuple", none)) fd
  g_is_tuple : mg "is_tuple" = some (.ref (He.fAd K ("is_tuple", none)))
  f_demand : ∃ fd, Fun K "demand" "demand" s_demand (He.fAd K ("demand", none)) fd
  g_demand : mg "demand" = some (.ref (He.fAd K ("demand", none)))
  f_is_bits : ∃ fd, Fun K "is_bits" "is_bits" s_is_bits (He.fAd K ("is_bits", none)) fd
  g_is_bits : mg "is_bits" = some (.ref (He.fAd K ("is_bits", none)))
  f_number_of : ∃ fd, Fun K "number_of" "number_of" s_number_of (He.fAd K ("number_of", none)) fd
  g_number_of : mg "number_of" = some (.ref (He.fAd K ("number_of", none)))
  f_bits_of : ∃ fd, Fun K "bits_of" "bits_of" s_bits_of (He.fAd K ("bits_of", none)) fd
  g_bits_of : mg "bits_of" = some (.ref (He.fAd K ("bits_of", none)))
  f_least_of : ∃ fd, Fun K "least_of" "least_of" s_least_of (He.fAd K ("least_of", none)) fd
  g_least_of : mg "least_of" = some (.ref (He.fAd K ("least_of", none)))
  f_code_of : ∃ fd, Fun K "code_of" "code_of" s_code_of (He.fAd K ("code_of", none)) fd
  g_code_of : mg "code_of" = some (.ref (He.fAd K ("code_of", none)))
  f_code : ∃ fd, Fun K "code" "code" s_code (He.fAd K ("code", none)) fd
  g_code : mg "code" = some (.ref (He.fAd K ("code", none)))
  f_is_code : ∃ fd, Fun K "is_code" "is_code" s_is_code (He.fAd K ("is_code", none)) fd
  g_is_code : mg "is_code" = some (.ref (He.fAd K ("is_code", none)))
  f_decoded_of : ∃ fd, Fun K "decoded_of" "decoded_of" s_decoded_of (He.fAd K ("decoded_of", none)) fd
  g_decoded_of : mg "decoded_of" = some (.ref (He.fAd K ("decoded_of", none)))
  f_decoded : ∃ fd, Fun K "decoded" "decoded" s_decoded (He.fAd K ("decoded", none)) fd
  g_decoded : mg "decoded" = some (.ref (He.fAd K ("decoded", none)))
  f_worst_error : ∃ fd, Fun K "worst_error" "worst_error" s_worst_error (He.fAd K ("worst_error", none)) fd
  g_worst_error : mg "worst_error" = some (.ref (He.fAd K ("worst_error", none)))
  f_as_bits : ∃ fd, Fun K "as_bits" "as_bits" s_as_bits (He.fAd K ("as_bits", none)) fd
  g_as_bits : mg "as_bits" = some (.ref (He.fAd K ("as_bits", none)))
  f_of_bits : ∃ fd, Fun K "of_bits" "of_bits" s_of_bits (He.fAd K ("of_bits", none)) fd
  g_of_bits : mg "of_bits" = some (.ref (He.fAd K ("of_bits", none)))
  f__law_dice : ∃ fd, Fun K "_law_dice" "_law_dice" s__law_dice (He.fAd K ("_law_dice", none)) fd
  g__law_dice : mg "_law_dice" = some (.ref (He.fAd K ("_law_dice", none)))
  f__law_roll : ∃ fd, Fun K "_law_roll" "_law_roll" s__law_roll (He.fAd K ("_law_roll", none)) fd
  g__law_roll : mg "_law_roll" = some (.ref (He.fAd K ("_law_roll", none)))
  f__law_pick : ∃ fd, Fun K "_law_pick" "_law_pick" s__law_pick (He.fAd K ("_law_pick", none)) fd
  g__law_pick : mg "_law_pick" = some (.ref (He.fAd K ("_law_pick", none)))
  f__law_refused : ∃ fd, Fun K "_law_refused" "_law_refused" s__law_refused (He.fAd K ("_law_refused", none)) fd
  g__law_refused : mg "_law_refused" = some (.ref (He.fAd K ("_law_refused", none)))
  f__law_steps : ∃ fd, Fun K "_law_steps" "_law_steps" s__law_steps (He.fAd K ("_law_steps", none)) fd
  g__law_steps : mg "_law_steps" = some (.ref (He.fAd K ("_law_steps", none)))
  f__law_step_of : ∃ fd, Fun K "_law_step_of" "_law_step_of" s__law_step_of (He.fAd K ("_law_step_of", none)) fd
  g__law_step_of : mg "_law_step_of" = some (.ref (He.fAd K ("_law_step_of", none)))
  f__law_right : ∃ fd, Fun K "_law_right" "_law_right" s__law_right (He.fAd K ("_law_right", none)) fd
  g__law_right : mg "_law_right" = some (.ref (He.fAd K ("_law_right", none)))
  f_law : ∃ fd, Fun K "law" "law" s_law (He.fAd K ("law", none)) fd
  g_law : mg "law" = some (.ref (He.fAd K ("law", none)))
  b_abs : mg "abs" = none
  b_all : mg "all" = none
  b_bool : mg "bool" = none
  b_int : mg "int" = none
  b_isinstance : mg "isinstance" = none
  b_len : mg "len" = none
  b_max : mg "max" = none
  b_min : mg "min" = none
  b_range : mg "range" = none
  b_str : mg "str" = none
  b_super : mg "super" = none
  b_tuple : mg "tuple" = none
  c_MOST_SAMPLE : ∃ t, mg "MOST_SAMPLE" = some (.int 4095 t)
  c_MOST_SEGMENT : ∃ t, mg "MOST_SEGMENT" = some (.int 7 t)
  c_MOST_STEP : ∃ t, mg "MOST_STEP" = some (.int 15 t)
  c_STEPS : ∃ t, mg "STEPS" = some (.int 16 t)
  g_WIDTHS : mg "WIDTHS" = some (.ref (He.ga K "WIDTHS"))
  u_WIDTHS : ∀ H, SqT K H (He.ga K "WIDTHS") [.int 2, .int 2, .int 4, .int 8, .int 16, .int 32, .int 64, .int 128]
  e_BadArgument : ErrTxt prog K mg "BadArgument" "name" (He.ga K "BadArgument") (iOf K "BadArgument") (ccOf K (iOf K "BadArgument")) (cdOf K (iOf K "BadArgument"))
  x_BadArgument : XfC K (He.ga K "BadArgument") ∧ PySem.W.findIn K (.ref (He.ga K "BadArgument")) "name" = some none ∧ PySem.W.exmOne K (.ref (He.ga K "BadArgument")) (.ref (He.ga K "BadArgument")) = some true
def TT (K : PySem.W.Frag) : List (Addr × Str) := [((He.cT K ("_law_right", none)).2, (envOfC "_law_right" (defScope s__law_right) 0 0 .none).qual ++ ("<lambda>" : Str))]
theorem tt_one (K : PySem.W.Frag) {P : Addr} : ∀ p ∈ TT K, p.1 = P → p.2 = (envOfC "_law_right" (defScope s__law_right) 0 0 .none).qual ++ ("<lambda>" : Str) := fun p hp _ => by rw [List.mem_singleton.mp hp]
def dT (K : PySem.W.Frag) (δb : XD → DE) : DE := dTold (He.ga K "BadArgument") "name" "" δb
theorem told {X : Cx} {T : List (Addr × Str)} {E : XK} {KE : XD} {params : Arguments} {body : Expr} {scope : Scope} {p lpos pos : Pos} {δb : XD → DE} {cl P : Addr} {k : Nat} {K : PySem.W.Frag} {mg : Str → Option Value} (M : Mod K mg) (hK : X.K = K) (hmg : X.mg = mg) (hg : Gl X "_law_refused") (TB : LamX.TabB X.base X.mg cl P) (hcode : X.env.code = .ref cl)
    (hmT : (P, X.env.qual ++ "<lambda>") ∈ T) (hu : ∀ p ∈ T, p.1 = P → p.2 = X.env.qual ++ "<lambda>") (hr : Room (k + 2) X.A) (L : LamX.LamS X.env.scope scope) (hdef : defaultsOf params X.env = ([], []))
    (hbind : ∀ (q : Str) (cl : List (Str × Addr)) (pm cv ctv : Value), bindArgs (PySem.W.kla_fn "<lambda>" q params body scope cl pm cv ctv) ⟨[], []⟩ = pure [])
    (hbody : ∀ (A : Around) (outer : List Env) (s : Shared) (H : Hp) (E : XK) (f c' : Addr) (KE : XD), Room k (A.deeper (LamX.lamEnv X scope s.heap.objs.size f c')) → PD T (LamX.lamCx X A outer s H E scope f c') E KE body (δb KE)) :
    PD T X E KE (.Call (.Name "_law_refused" p) [.Lambda params body scope lpos] [] pos) (dT K δb) := by
  subst hK hmg
  obtain ⟨fd, F⟩ := M.f__law_refused
  have F0 := F
  obtain ⟨oc, od, kV, doc, pm, an, cdv, ct, osl, rfl, lk, hcd⟩ := F.ex
  refine pd_told (Ng := ["call", "e"]) (a := "call") hg M.g__law_refused F0.kp lk hcd (fun_binds F0 fun _ _ _ _ _ _ us hl => match us, hl with | [_], _ => rfl) ⟨rfl, rfl, rfl, by decide +kernel, rfl, by decide +kernel, by decide +kernel⟩ rfl (.inl rfl) ?_ M.x_BadArgument.2.2 TB hcode hmT hu hr L hdef hbind hbody
  exact told_givesF (i := 1) (n := "e") (e := "BadArgument") (by decide +kernel) rfl rfl M.x_BadArgument.1 M.x_BadArgument.2.1 rfl M.e_BadArgument.gC (by decide) (by decide) (by decide) fun _ => rfl
section
variable {w : World} {K : PySem.W.Frag} {mg : Str → Option Value} {base : Heap}
theorem t_WIDTHS (M : Mod K mg) {τ : TD} {H : Hp} : DR K τ H c_WIDTHS (.ref (He.ga K "WIDTHS")) := ⟨_, _, rfl, .inr (M.u_WIDTHS H0), ⟨_, _, rfl, rfl, ⟨_, _, rfl, rfl, ⟨_, _, rfl, rfl, ⟨_, _, rfl, rfl, ⟨_, _, rfl, rfl, ⟨_, _, rfl, rfl, ⟨_, _, rfl, rfl, ⟨_, _, rfl, rfl, rfl⟩⟩⟩⟩⟩⟩⟩⟩⟩
/-! ### is_in -/
theorem sc_is_in : FnScope ["value", "low", "high"] ["value", "low", "high"] (defScope s_is_in) := ⟨rfl, rfl, rfl, by decide +kernel, rfl, by decide +kernel, by decide +kernel⟩
theorem bn_is_in (M : Mod K mg) : L2.Binds K M.f_is_in.choose ["value", "low", "high"] [] := fun_binds M.f_is_in.choose_spec fun _ _ _ _ _ _ us hl => match us, hl with | [_, _, _], _ => rfl
def isInD (v : D) (lo hi : Int) : Bool := match v with
  | .int i => decide (lo ≤ i) && decide (i ≤ hi)
  | _ => false
def sp_is_in : SpD := fun τ ds k KE => match ds with
  | [v, .int lo, .int hi] => ((tyN v).isSome = true) ∧ k τ (.bl (isInD v lo hi))
  | _ => False
theorem sp_is_in_eq {τ : TD} {k : DK} {KE : XD} {v : D} {lo hi : Int} : sp_is_in τ [v, .int lo, .int hi] k KE = (((tyN v).isSome = true) ∧ k τ (.bl (isInD v lo hi))) := rfl
theorem ok_is_in (M : Mod K mg) : FnD prog w K mg base (TT K) 2 (He.fAd K ("is_in", none)) M.f_is_in.choose ["value", "low", "high"] sp_is_in := by
  refine fnD_of M.f_is_in.choose_spec sc_is_in fun KE => ⟨_, fun cdv A outer s H E hr => (pdss_one (pds_ret (pd_and (pd_callB call_isi ok_isi rfl M.b_isinstance boot_isinstance (pda_cons (pd_var (pv 0)) (pda_cons (pd_bltn rfl M.b_int boot_int) pda_nil))) (pd_and (pd_not (pd_callB call_isi ok_isi rfl M.b_isinstance boot_isinstance (pda_cons (pd_var (pv 0)) (pda_cons (pd_bltn rfl M.b_bool boot_bool) pda_nil)))) (pd_one (pd_chain op_leU op_leU ok_cmp ok_cmp (pd_var (pv 1)) (pd_var (pv 0)) (pd_var (pv 2)) (nomark _) (nomark _) fun _ _ _ h1 h2 h3 => pe_chain op_leU op_leU h1 h2 h3)))))), ?_⟩
  intro τ ds k hl h
  unfold sp_is_in at h
  split at h
  case h_2 => exact h.elim
  rename_i v lo hi
  obtain ⟨hv, hk⟩ := h
  simp only [dVar, dC, dOp, dUn, dTest_eq, dAnd, dOr, dNot, dAndV_eq, dOrV_eq, dNotV_eq, dIf, dChain_eq, dNil, dCons, dTup, dLst, dLstM, dCB, dBM, dNoPart, dPart_eq, dSl, dCall, dCallK, dNext, dBrk, dCnt, dSeq, dDrop, dRet, dRetN, dIfS, γName, γNil, γCons, γSub, dAsg, dPar, dAug, ιSeq_eq, ιRng1_eq, ιRng2_eq, dFor, dLc, dLcM, dYes, dT, dTold, onBl_eq, onInt_eq, onSeq_lst, onSeq_tup, onSeq_str, onSome_eq, lstAt_same, dRaise, startD, List.map_cons, List.map_nil, List.length_cons, List.length_nil, List.replicate_succ, List.replicate_zero, List.cons_append, List.nil_append, List.append_nil, List.getElem?_cons_zero, List.getElem?_cons_succ, List.set_cons_zero, List.set_cons_succ, Nat.reduceAdd, Nat.reduceSub, Nat.zero_add, Nat.sub_self, ρEq_int, ρEq_str, ρEq_bl, ρNe_int, ρNe_str, ρNe_bl, ρEq_t3, ρNe_t3, ρEq_t2, ρNe_t2, intsOf_mapf, strsOf_mapf, blsOf_mapf, gK_01_0, gK_02_01, gK_02_10, gK_03_012, gK_03_021, gK_03_102, gK_03_120, gK_03_201, gK_03_210, gK_11_0, gK_12_01, gK_12_10, gK_13_012, gK_13_021, gK_13_102, gK_13_120, gK_13_201, gK_13_210, eq_self, Bool.not_true, Bool.not_false, decide_true, decide_false, strsOf_c0, strsOf_c1, strsOf_c2, strsOf_c3, strsOf_c4, strsOf_c5, strsOf_c6, strsOf_c7, strsOf_c8, intsOf_c0, intsOf_c1, intsOf_c2, intsOf_c3, intsOf_c4, intsOf_c5, intsOf_c6, intsOf_c7, intsOf_c8, blsOf_c0, blsOf_c1, blsOf_c2, blsOf_c3, blsOf_c4, blsOf_c5, blsOf_c6, blsOf_c7, blsOf_c8, ixN_30, ixN_31, ixN_32, wipeD, if_true, if_false, Bool.false_eq_true, Bool.true_eq_false, true_and, and_true, ρAdd_int, ρAdd_str, ρAdd_tup, ρAdd_lst, ρAdd_rl, ρI_int, ρI0_int, ρMul_int, ρMul_str, ρNeg_int, ρCmp_int, ρCmp_str, ρIsN_eq, ρNotN_eq, isNonD_bl, isNonD_int, isNonD_str, isNonD_tup, isNonD_lst, isNonD_ref, isNonD_non, ρSgn_one, ρAbs_int, ρMax_two, ρMin_two, ρMax_lst, ρMin_lst, ρInt_int, ρInt_bl, ρStr_int, ρLen_str, ρLen_tup, ρLen_lst, ρLen_ref, ρSum_lst, ρAll_lst, ρAny_lst, ρTupO_tup, ρTupO_lst, ρIsi_eq, is_non_int, is_non_bool, is_non_str, is_non_tuple, is_non_list, is_bl_int, is_bl_bool, is_bl_str, is_bl_tuple, is_bl_list, is_int_int, is_int_bool, is_int_str, is_int_tuple, is_int_list, is_str_int, is_str_bool, is_str_str, is_str_tuple, is_str_list, is_tup_int, is_tup_bool, is_tup_str, is_tup_tuple, is_tup_list, is_lst_int, is_lst_bool, is_lst_str, is_lst_tuple, is_lst_list, tyN_non, tyN_bl, tyN_int, tyN_str, tyN_tup, tyN_lst, ρIx_tup, ρIx_lst, ρIx_str, ρIx_ref, ρSl_str, ρSl_lst, ρSl_tup, ρApp_ref, θLst_ref, θStr_str, ςLst_ref, ρJoin_lst, γTup_tup, atI_0, atI_1, atI_2, atI_3, atI_4, atI_5, atI_6, atI_7, c_WIDTHS, sp_is_in_eq]
  cases v <;> (try simp only [dVar, dC, dOp, dUn, dTest_eq, dAnd, dOr, dNot, dAndV_eq, dOrV_eq, dNotV_eq, dIf, dChain_eq, dNil, dCons, dTup, dLst, dLstM, dCB, dBM, dNoPart, dPart_eq, dSl, dCall, dCallK, dNext, dBrk, dCnt, dSeq, dDrop, dRet, dRetN, dIfS, γName, γNil, γCons, γSub, dAsg, dPar, dAug, ιSeq_eq, ιRng1_eq, ιRng2_eq, dFor, dLc, dLcM, dYes, dT, dTold, onBl_eq, onInt_eq, onSeq_lst, onSeq_tup, onSeq_str, onSome_eq, lstAt_same, dRaise, startD, List.map_cons, List.map_nil, List.length_cons, List.length_nil, List.replicate_succ, List.replicate_zero, List.cons_append, List.nil_append, List.append_nil, List.getElem?_cons_zero, List.getElem?_cons_succ, List.set_cons_zero, List.set_cons_succ, Nat.reduceAdd, Nat.reduceSub, Nat.zero_add, Nat.sub_self, ρEq_int, ρEq_str, ρEq_bl, ρNe_int, ρNe_str, ρNe_bl, ρEq_t3, ρNe_t3, ρEq_t2, ρNe_t2, intsOf_mapf, strsOf_mapf, blsOf_mapf, gK_01_0, gK_02_01, gK_02_10, gK_03_012, gK_03_021, gK_03_102, gK_03_120, gK_03_201, gK_03_210, gK_11_0, gK_12_01, gK_12_10, gK_13_012, gK_13_021, gK_13_102, gK_13_120, gK_13_201, gK_13_210, eq_self, Bool.not_true, Bool.not_false, decide_true, decide_false, strsOf_c0, strsOf_c1, strsOf_c2, strsOf_c3, strsOf_c4, strsOf_c5, strsOf_c6, strsOf_c7, strsOf_c8, intsOf_c0, intsOf_c1, intsOf_c2, intsOf_c3, intsOf_c4, intsOf_c5, intsOf_c6, intsOf_c7, intsOf_c8, blsOf_c0, blsOf_c1, blsOf_c2, blsOf_c3, blsOf_c4, blsOf_c5, blsOf_c6, blsOf_c7, blsOf_c8, ixN_30, ixN_31, ixN_32, wipeD, if_true, if_false, Bool.false_eq_true, Bool.true_eq_false, true_and, and_true, ρAdd_int, ρAdd_str, ρAdd_tup, ρAdd_lst, ρAdd_rl, ρI_int, ρI0_int, ρMul_int, ρMul_str, ρNeg_int, ρCmp_int, ρCmp_str, ρIsN_eq, ρNotN_eq, isNonD_bl, isNonD_int, isNonD_str, isNonD_tup, isNonD_lst, isNonD_ref, isNonD_non, ρSgn_one, ρAbs_int, ρMax_two, ρMin_two, ρMax_lst, ρMin_lst, ρInt_int, ρInt_bl, ρStr_int, ρLen_str, ρLen_tup, ρLen_lst, ρLen_ref, ρSum_lst, ρAll_lst, ρAny_lst, ρTupO_tup, ρTupO_lst, ρIsi_eq, is_non_int, is_non_bool, is_non_str, is_non_tuple, is_non_list, is_bl_int, is_bl_bool, is_bl_str, is_bl_tuple, is_bl_list, is_int_int, is_int_bool, is_int_str, is_int_tuple, is_int_list, is_str_int, is_str_bool, is_str_str, is_str_tuple, is_str_list, is_tup_int, is_tup_bool, is_tup_str, is_tup_tuple, is_tup_list, is_lst_int, is_lst_bool, is_lst_str, is_lst_tuple, is_lst_list, tyN_non, tyN_bl, tyN_int, tyN_str, tyN_tup, tyN_lst, ρIx_tup, ρIx_lst, ρIx_str, ρIx_ref, ρSl_str, ρSl_lst, ρSl_tup, ρApp_ref, θLst_ref, θStr_str, ςLst_ref, ρJoin_lst, γTup_tup, atI_0, atI_1, atI_2, atI_3, atI_4, atI_5, atI_6, atI_7, c_WIDTHS, sp_is_in_eq, Bool.not_true, Bool.not_false]) <;> first | exact Fin.same hk | (cases hv; done) | skip
  rename_i i
  by_cases h1 : lo ≤ i
  · simp only [h1, decide_true, if_true]
    refine Fin.same ?_
    simpa only [isInD, h1, decide_true, Bool.true_and] using hk
  · simp only [h1, decide_false, Bool.false_eq_true, if_false]
    refine Fin.same ?_
    simpa only [isInD, h1, decide_false, Bool.false_and] using hk
/-! ### is_tuple -/
theorem sc_is_tuple : FnScope ["value", "least", "most"] ["value", "least", "most"] (defScope s_is_tuple) := ⟨rfl, rfl, rfl, by decide +kernel, rfl, by decide +kernel, by decide +kernel⟩
theorem bn_is_tuple (M : Mod K mg) : L2.Binds K M.f_is_tuple.choose ["value", "least", "most"] [] := fun_binds M.f_is_tuple.choose_spec fun _ _ _ _ _ _ us hl => match us, hl with | [_, _, _], _ => rfl
def isTupD (v : D) (lo hi : Int) : Bool := match v with
  | .tup xs => decide (lo ≤ (xs.length : Nat)) && decide (((xs.length : Nat) : Int) ≤ hi)
  | _ => false
def sp_is_tuple : SpD := fun τ ds k KE => match ds with
  | [v, .int lo, .int hi] => ((tyN v).isSome = true) ∧ k τ (.bl (isTupD v lo hi))
  | _ => False
theorem sp_is_tuple_eq {τ : TD} {k : DK} {KE : XD} {v : D} {lo hi : Int} : sp_is_tuple τ [v, .int lo, .int hi] k KE = (((tyN v).isSome = true) ∧ k τ (.bl (isTupD v lo hi))) := rfl
theorem ok_is_tuple (M : Mod K mg) : FnD prog w K mg base (TT K) 2 (He.fAd K ("is_tuple", none)) M.f_is_tuple.choose ["value", "least", "most"] sp_is_tuple := by
  refine fnD_of M.f_is_tuple.choose_spec sc_is_tuple fun KE => ⟨_, fun cdv A outer s H E hr => (pdss_one (pds_ret (pd_and (pd_callB call_isi ok_isi rfl M.b_isinstance boot_isinstance (pda_cons (pd_var (pv 0)) (pda_cons (pd_bltn rfl M.b_tuple boot_tuple) pda_nil))) (pd_one (pd_chain op_leU op_leU ok_cmp ok_cmp (pd_var (pv 1)) (pd_callB cr_len ok_len rfl M.b_len boot_len (pda_cons (pd_var (pv 0)) pda_nil)) (pd_var (pv 2)) (nomark _) (nomark _) fun _ _ _ h1 h2 h3 => pe_chain op_leU op_leU h1 h2 h3))))), ?_⟩
  intro τ ds k hl h
  unfold sp_is_tuple at h
  split at h
  case h_2 => exact h.elim
  rename_i v lo hi
  obtain ⟨hv, hk⟩ := h
  simp only [dVar, dC, dOp, dUn, dTest_eq, dAnd, dOr, dNot, dAndV_eq, dOrV_eq, dNotV_eq, dIf, dChain_eq, dNil, dCons, dTup, dLst, dLstM, dCB, dBM, dNoPart, dPart_eq, dSl, dCall, dCallK, dNext, dBrk, dCnt, dSeq, dDrop, dRet, dRetN, dIfS, γName, γNil, γCons, γSub, dAsg, dPar, dAug, ιSeq_eq, ιRng1_eq, ιRng2_eq, dFor, dLc, dLcM, dYes, dT, dTold, onBl_eq, onInt_eq, onSeq_lst, onSeq_tup, onSeq_str, onSome_eq, lstAt_same, dRaise, startD, List.map_cons, List.map_nil, List.length_cons, List.length_nil, List.replicate_succ, List.replicate_zero, List.cons_append, List.nil_append, List.append_nil, List.getElem?_cons_zero, List.getElem?_cons_succ, List.set_cons_zero, List.set_cons_succ, Nat.reduceAdd, Nat.reduceSub, Nat.zero_add, Nat.sub_self, ρEq_int, ρEq_str, ρEq_bl, ρNe_int, ρNe_str, ρNe_bl, ρEq_t3, ρNe_t3, ρEq_t2, ρNe_t2, intsOf_mapf, strsOf_mapf, blsOf_mapf, gK_01_0, gK_02_01, gK_02_10, gK_03_012, gK_03_021, gK_03_102, gK_03_120, gK_03_201, gK_03_210, gK_11_0, gK_12_01, gK_12_10, gK_13_012, gK_13_021, gK_13_102, gK_13_120, gK_13_201, gK_13_210, eq_self, Bool.not_true, Bool.not_false, decide_true, decide_false, strsOf_c0, strsOf_c1, strsOf_c2, strsOf_c3, strsOf_c4, strsOf_c5, strsOf_c6, strsOf_c7, strsOf_c8, intsOf_c0, intsOf_c1, intsOf_c2, intsOf_c3, intsOf_c4, intsOf_c5, intsOf_c6, intsOf_c7, intsOf_c8, blsOf_c0, blsOf_c1, blsOf_c2, blsOf_c3, blsOf_c4, blsOf_c5, blsOf_c6, blsOf_c7, blsOf_c8, ixN_30, ixN_31, ixN_32, wipeD, if_true, if_false, Bool.false_eq_true, Bool.true_eq_false, true_and, and_true, ρAdd_int, ρAdd_str, ρAdd_tup, ρAdd_lst, ρAdd_rl, ρI_int, ρI0_int, ρMul_int, ρMul_str, ρNeg_int, ρCmp_int, ρCmp_str, ρIsN_eq, ρNotN_eq, isNonD_bl, isNonD_int, isNonD_str, isNonD_tup, isNonD_lst, isNonD_ref, isNonD_non, ρSgn_one, ρAbs_int, ρMax_two, ρMin_two, ρMax_lst, ρMin_lst, ρInt_int, ρInt_bl, ρStr_int, ρLen_str, ρLen_tup, ρLen_lst, ρLen_ref, ρSum_lst, ρAll_lst, ρAny_lst, ρTupO_tup, ρTupO_lst, ρIsi_eq, is_non_int, is_non_bool, is_non_str, is_non_tuple, is_non_list, is_bl_int, is_bl_bool, is_bl_str, is_bl_tuple, is_bl_list, is_int_int, is_int_bool, is_int_str, is_int_tuple, is_int_list, is_str_int, is_str_bool, is_str_str, is_str_tuple, is_str_list, is_tup_int, is_tup_bool, is_tup_str, is_tup_tuple, is_tup_list, is_lst_int, is_lst_bool, is_lst_str, is_lst_tuple, is_lst_list, tyN_non, tyN_bl, tyN_int, tyN_str, tyN_tup, tyN_lst, ρIx_tup, ρIx_lst, ρIx_str, ρIx_ref, ρSl_str, ρSl_lst, ρSl_tup, ρApp_ref, θLst_ref, θStr_str, ςLst_ref, ρJoin_lst, γTup_tup, atI_0, atI_1, atI_2, atI_3, atI_4, atI_5, atI_6, atI_7, c_WIDTHS, sp_is_in_eq, sp_is_tuple_eq]
  cases v <;> (try simp only [dVar, dC, dOp, dUn, dTest_eq, dAnd, dOr, dNot, dAndV_eq, dOrV_eq, dNotV_eq, dIf, dChain_eq, dNil, dCons, dTup, dLst, dLstM, dCB, dBM, dNoPart, dPart_eq, dSl, dCall, dCallK, dNext, dBrk, dCnt, dSeq, dDrop, dRet, dRetN, dIfS, γName, γNil, γCons, γSub, dAsg, dPar, dAug, ιSeq_eq, ιRng1_eq, ιRng2_eq, dFor, dLc, dLcM, dYes, dT, dTold, onBl_eq, onInt_eq, onSeq_lst, onSeq_tup, onSeq_str, onSome_eq, lstAt_same, dRaise, startD, List.map_cons, List.map_nil, List.length_cons, List.length_nil, List.replicate_succ, List.replicate_zero, List.cons_append, List.nil_append, List.append_nil, List.getElem?_cons_zero, List.getElem?_cons_succ, List.set_cons_zero, List.set_cons_succ, Nat.reduceAdd, Nat.reduceSub, Nat.zero_add, Nat.sub_self, ρEq_int, ρEq_str, ρEq_bl, ρNe_int, ρNe_str, ρNe_bl, ρEq_t3, ρNe_t3, ρEq_t2, ρNe_t2, intsOf_mapf, strsOf_mapf, blsOf_mapf, gK_01_0, gK_02_01, gK_02_10, gK_03_012, gK_03_021, gK_03_102, gK_03_120, gK_03_201, gK_03_210, gK_11_0, gK_12_01, gK_12_10, gK_13_012, gK_13_021, gK_13_102, gK_13_120, gK_13_201, gK_13_210, eq_self, Bool.not_true, Bool.not_false, decide_true, decide_false, strsOf_c0, strsOf_c1, strsOf_c2, strsOf_c3, strsOf_c4, strsOf_c5, strsOf_c6, strsOf_c7, strsOf_c8, intsOf_c0, intsOf_c1, intsOf_c2, intsOf_c3, intsOf_c4, intsOf_c5, intsOf_c6, intsOf_c7, intsOf_c8, blsOf_c0, blsOf_c1, blsOf_c2, blsOf_c3, blsOf_c4, blsOf_c5, blsOf_c6, blsOf_c7, blsOf_c8, ixN_30, ixN_31, ixN_32, wipeD, if_true, if_false, Bool.false_eq_true, Bool.true_eq_false, true_and, and_true, ρAdd_int, ρAdd_str, ρAdd_tup, ρAdd_lst, ρAdd_rl, ρI_int, ρI0_int, ρMul_int, ρMul_str, ρNeg_int, ρCmp_int, ρCmp_str, ρIsN_eq, ρNotN_eq, isNonD_bl, isNonD_int, isNonD_str, isNonD_tup, isNonD_lst, isNonD_ref, isNonD_non, ρSgn_one, ρAbs_int, ρMax_two, ρMin_two, ρMax_lst, ρMin_lst, ρInt_int, ρInt_bl, ρStr_int, ρLen_str, ρLen_tup, ρLen_lst, ρLen_ref, ρSum_lst, ρAll_lst, ρAny_lst, ρTupO_tup, ρTupO_lst, ρIsi_eq, is_non_int, is_non_bool, is_non_str, is_non_tuple, is_non_list, is_bl_int, is_bl_bool, is_bl_str, is_bl_tuple, is_bl_list, is_int_int, is_int_bool, is_int_str, is_int_tuple, is_int_list, is_str_int, is_str_bool, is_str_str, is_str_tuple, is_str_list, is_tup_int, is_tup_bool, is_tup_str, is_tup_tuple, is_tup_list, is_lst_int, is_lst_bool, is_lst_str, is_lst_tuple, is_lst_list, tyN_non, tyN_bl, tyN_int, tyN_str, tyN_tup, tyN_lst, ρIx_tup, ρIx_lst, ρIx_str, ρIx_ref, ρSl_str, ρSl_lst, ρSl_tup, ρApp_ref, θLst_ref, θStr_str, ςLst_ref, ρJoin_lst, γTup_tup, atI_0, atI_1, atI_2, atI_3, atI_4, atI_5, atI_6, atI_7, c_WIDTHS, sp_is_in_eq, sp_is_tuple_eq]) <;> first | exact Fin.same hk | (cases hv; done) | skip
  rename_i xs
  by_cases h1 : lo ≤ (xs.length : Nat)
  · simp only [h1, decide_true, if_true]
    refine Fin.same ?_
    simpa only [isTupD, h1, decide_true, Bool.true_and] using hk
  · simp only [h1, decide_false, Bool.false_eq_true, if_false]
    refine Fin.same ?_
    simpa only [isTupD, h1, decide_false, Bool.false_and] using hk
/-! ### demand -/
theorem sc_demand : FnScope ["is_good", "name"] ["is_good", "name"] (defScope s_demand) := ⟨rfl, rfl, rfl, by decide +kernel, rfl, by decide +kernel, by decide +kernel⟩
theorem bn_demand (M : Mod K mg) : L2.Binds K M.f_demand.choose ["is_good", "name"] [] := fun_binds M.f_demand.choose_spec fun _ _ _ _ _ _ us hl => match us, hl with | [_, _], _ => rfl
def sp_demand (K : PySem.W.Frag) : SpD := fun τ ds k KE => match ds with
  | [.bl b, .str n] => if b = true then k τ .non else KE τ (He.ga K "BadArgument") "name" (.str n)
  | _ => False
theorem sp_demand_eq (K : PySem.W.Frag) {τ : TD} {k : DK} {KE : XD} {b : Bool} {n : Str} : sp_demand K τ [.bl b, .str n] k KE = (if b = true then k τ .non else KE τ (He.ga K "BadArgument") "name" (.str n)) := rfl
theorem ok_demand (M : Mod K mg) : FnD prog w K mg base (TT K) 2 (He.fAd K ("demand", none)) M.f_demand.choose ["is_good", "name"] (sp_demand K) := by
  refine fnD_of M.f_demand.choose_spec sc_demand fun KE => ⟨_, fun cdv A outer s H E hr => (pdss_one (pds_if (pdt_not (pdt_val (pd_var (pv 0)))) (pdss_one (pds_raise rfl .name M.e_BadArgument hr takeD rfl (pda_cons (pd_var (pv 1)) pda_nil))) pdss_nil)), ?_⟩
  intro τ ds k hl h
  unfold sp_demand at h
  split at h
  case h_2 => exact h.elim
  rename_i b n
  simp only [dVar, dC, dOp, dUn, dTest_eq, dAnd, dOr, dNot, dAndV_eq, dOrV_eq, dNotV_eq, dIf, dChain_eq, dNil, dCons, dTup, dLst, dLstM, dCB, dBM, dNoPart, dPart_eq, dSl, dCall, dCallK, dNext, dBrk, dCnt, dSeq, dDrop, dRet, dRetN, dIfS, γName, γNil, γCons, γSub, dAsg, dPar, dAug, ιSeq_eq, ιRng1_eq, ιRng2_eq, dFor, dLc, dLcM, dYes, dT, dTold, onBl_eq, onInt_eq, onSeq_lst, onSeq_tup, onSeq_str, onSome_eq, lstAt_same, dRaise, startD, List.map_cons, List.map_nil, List.length_cons, List.length_nil, List.replicate_succ, List.replicate_zero, List.cons_append, List.nil_append, List.append_nil, List.getElem?_cons_zero, List.getElem?_cons_succ, List.set_cons_zero, List.set_cons_succ, Nat.reduceAdd, Nat.reduceSub, Nat.zero_add, Nat.sub_self, ρEq_int, ρEq_str, ρEq_bl, ρNe_int, ρNe_str, ρNe_bl, ρEq_t3, ρNe_t3, ρEq_t2, ρNe_t2, intsOf_mapf, strsOf_mapf, blsOf_mapf, gK_01_0, gK_02_01, gK_02_10, gK_03_012, gK_03_021, gK_03_102, gK_03_120, gK_03_201, gK_03_210, gK_11_0, gK_12_01, gK_12_10, gK_13_012, gK_13_021, gK_13_102, gK_13_120, gK_13_201, gK_13_210, eq_self, Bool.not_true, Bool.not_false, decide_true, decide_false, strsOf_c0, strsOf_c1, strsOf_c2, strsOf_c3, strsOf_c4, strsOf_c5, strsOf_c6, strsOf_c7, strsOf_c8, intsOf_c0, intsOf_c1, intsOf_c2, intsOf_c3, intsOf_c4, intsOf_c5, intsOf_c6, intsOf_c7, intsOf_c8, blsOf_c0, blsOf_c1, blsOf_c2, blsOf_c3, blsOf_c4, blsOf_c5, blsOf_c6, blsOf_c7, blsOf_c8, ixN_30, ixN_31, ixN_32, wipeD, if_true, if_false, Bool.false_eq_true, Bool.true_eq_false, true_and, and_true, ρAdd_int, ρAdd_str, ρAdd_tup, ρAdd_lst, ρAdd_rl, ρI_int, ρI0_int, ρMul_int, ρMul_str, ρNeg_int, ρCmp_int, ρCmp_str, ρIsN_eq, ρNotN_eq, isNonD_bl, isNonD_int, isNonD_str, isNonD_tup, isNonD_lst, isNonD_ref, isNonD_non, ρSgn_one, ρAbs_int, ρMax_two, ρMin_two, ρMax_lst, ρMin_lst, ρInt_int, ρInt_bl, ρStr_int, ρLen_str, ρLen_tup, ρLen_lst, ρLen_ref, ρSum_lst, ρAll_lst, ρAny_lst, ρTupO_tup, ρTupO_lst, ρIsi_eq, is_non_int, is_non_bool, is_non_str, is_non_tuple, is_non_list, is_bl_int, is_bl_bool, is_bl_str, is_bl_tuple, is_bl_list, is_int_int, is_int_bool, is_int_str, is_int_tuple, is_int_list, is_str_int, is_str_bool, is_str_str, is_str_tuple, is_str_list, is_tup_int, is_tup_bool, is_tup_str, is_tup_tuple, is_tup_list, is_lst_int, is_lst_bool, is_lst_str, is_lst_tuple, is_lst_list, tyN_non, tyN_bl, tyN_int, tyN_str, tyN_tup, tyN_lst, ρIx_tup, ρIx_lst, ρIx_str, ρIx_ref, ρSl_str, ρSl_lst, ρSl_tup, ρApp_ref, θLst_ref, θStr_str, ςLst_ref, ρJoin_lst, γTup_tup, atI_0, atI_1, atI_2, atI_3, atI_4, atI_5, atI_6, atI_7, c_WIDTHS, sp_is_in_eq, sp_is_tuple_eq, sp_demand_eq]
  cases b
  · simp only [Bool.not_false, if_true]
    simp only [Bool.false_eq_true, if_false] at h
    exact FinX.same h
  · simp only [Bool.not_true, Bool.false_eq_true, if_false]
    exact Fin.same h
/-! ### is_bits -/
theorem sc_is_bits : FnScope ["value", "least", "most", "sign"] ["value", "least", "most"] (defScope s_is_bits) := ⟨rfl, rfl, rfl, by decide +kernel, rfl, by decide +kernel, by decide +kernel⟩
theorem bn_is_bits (M : Mod K mg) : L2.Binds K M.f_is_bits.choose ["value", "least", "most"] [] := fun_binds M.f_is_bits.choose_spec fun _ _ _ _ _ _ us hl => match us, hl with | [_, _, _], _ => rfl
def strOkD (v : D) : Bool := match v with
  | .str z => decide (z.length ≤ 1000)
  | _ => true
def isBitsD (v : D) (lo hi : Int) : Bool := match v with
  | .str z => decide (lo ≤ (z.length : Nat)) && decide (((z.length : Nat) : Int) ≤ hi) && (z.cps.toList.map fun c => false ^^ decide (c ∈ ("01" : Str).cps.toList)).all id
  | _ => false
theorem sz1000 {n : Nat} (h : n ≤ 1000) : n ≤ sizeLine := by rw [sizeLine_eq]; omega
def sp_is_bits : SpD := fun τ ds k KE => match ds with
  | [v, .int lo, .int hi] => ((tyN v).isSome = true ∧ strOkD v = true) ∧ k τ (.bl (isBitsD v lo hi))
  | _ => False
theorem sp_is_bits_eq {τ : TD} {k : DK} {KE : XD} {v : D} {lo hi : Int} : sp_is_bits τ [v, .int lo, .int hi] k KE = (((tyN v).isSome = true ∧ strOkD v = true) ∧ k τ (.bl (isBitsD v lo hi))) := rfl
theorem ok_is_bits (M : Mod K mg) : FnD prog w K mg base (TT K) 2 (He.fAd K ("is_bits", none)) M.f_is_bits.choose ["value", "least", "most"] sp_is_bits := by
  refine fnD_of M.f_is_bits.choose_spec sc_is_bits fun KE => ⟨_, fun cdv A outer s H E hr => (pdss_one (pds_ret (pd_and (pd_callB call_isi ok_isi rfl M.b_isinstance boot_isinstance (pda_cons (pd_var (pv 0)) (pda_cons (pd_bltn rfl M.b_str boot_str) pda_nil))) (pd_and (pd_chain op_leU op_leU ok_cmp ok_cmp (pd_var (pv 1)) (pd_callB cr_len ok_len rfl M.b_len boot_len (pda_cons (pd_var (pv 0)) pda_nil)) (pd_var (pv 2)) (nomark _) (nomark _) fun _ _ _ h1 h2 h3 => pe_chain op_leU op_leU h1 h2 h3) (pd_one (pd_callB (cr_all rfl) ok_all rfl M.b_all boot_all (pda_cons (pd_lc rfl sc_is_bits.nd (pdi_seq (pd_var (pv 0))) (show BlkOk ["value", "least", "most", "sign"] (defScope s_is_bits) _ [("sign", 3)] from blk_of (by decide +kernel)) (fun _ _ _ _ _ => pdn_name (i := 3) sc_is_bits.nd rfl (.inl rfl) (by decide)) (fun _ _ _ _ _ => pdts_nil) (fun _ _ _ _ _ => (pd_cmp op_sgn ok_sgn (pd_var (pv 3)) pd_str rfl))) pda_nil))))))), ?_⟩
  intro τ ds k hl h
  unfold sp_is_bits at h
  split at h
  case h_2 => exact h.elim
  rename_i v lo hi
  obtain ⟨⟨hv, hs⟩, hk⟩ := h
  simp only [dVar, dC, dOp, dUn, dTest_eq, dAnd, dOr, dNot, dAndV_eq, dOrV_eq, dNotV_eq, dIf, dChain_eq, dNil, dCons, dTup, dLst, dLstM, dCB, dBM, dNoPart, dPart_eq, dSl, dCall, dCallK, dNext, dBrk, dCnt, dSeq, dDrop, dRet, dRetN, dIfS, γName, γNil, γCons, γSub, dAsg, dPar, dAug, ιSeq_eq, ιRng1_eq, ιRng2_eq, dFor, dLc, dLcM, dYes, dT, dTold, onBl_eq, onInt_eq, onSeq_lst, onSeq_tup, onSeq_str, onSome_eq, lstAt_same, dRaise, startD, List.map_cons, List.map_nil, List.length_cons, List.length_nil, List.replicate_succ, List.replicate_zero, List.cons_append, List.nil_append, List.append_nil, List.getElem?_cons_zero, List.getElem?_cons_succ, List.set_cons_zero, List.set_cons_succ, Nat.reduceAdd, Nat.reduceSub, Nat.zero_add, Nat.sub_self, ρEq_int, ρEq_str, ρEq_bl, ρNe_int, ρNe_str, ρNe_bl, ρEq_t3, ρNe_t3, ρEq_t2, ρNe_t2, intsOf_mapf, strsOf_mapf, blsOf_mapf, gK_01_0, gK_02_01, gK_02_10, gK_03_012, gK_03_021, gK_03_102, gK_03_120, gK_03_201, gK_03_210, gK_11_0, gK_12_01, gK_12_10, gK_13_012, gK_13_021, gK_13_102, gK_13_120, gK_13_201, gK_13_210, eq_self, Bool.not_true, Bool.not_false, decide_true, decide_false, strsOf_c0, strsOf_c1, strsOf_c2, strsOf_c3, strsOf_c4, strsOf_c5, strsOf_c6, strsOf_c7, strsOf_c8, intsOf_c0, intsOf_c1, intsOf_c2, intsOf_c3, intsOf_c4, intsOf_c5, intsOf_c6, intsOf_c7, intsOf_c8, blsOf_c0, blsOf_c1, blsOf_c2, blsOf_c3, blsOf_c4, blsOf_c5, blsOf_c6, blsOf_c7, blsOf_c8, ixN_30, ixN_31, ixN_32, wipeD, if_true, if_false, Bool.false_eq_true, Bool.true_eq_false, true_and, and_true, ρAdd_int, ρAdd_str, ρAdd_tup, ρAdd_lst, ρAdd_rl, ρI_int, ρI0_int, ρMul_int, ρMul_str, ρNeg_int, ρCmp_int, ρCmp_str, ρIsN_eq, ρNotN_eq, isNonD_bl, isNonD_int, isNonD_str, isNonD_tup, isNonD_lst, isNonD_ref, isNonD_non, ρSgn_one, ρAbs_int, ρMax_two, ρMin_two, ρMax_lst, ρMin_lst, ρInt_int, ρInt_bl, ρStr_int, ρLen_str, ρLen_tup, ρLen_lst, ρLen_ref, ρSum_lst, ρAll_lst, ρAny_lst, ρTupO_tup, ρTupO_lst, ρIsi_eq, is_non_int, is_non_bool, is_non_str, is_non_tuple, is_non_list, is_bl_int, is_bl_bool, is_bl_str, is_bl_tuple, is_bl_list, is_int_int, is_int_bool, is_int_str, is_int_tuple, is_int_list, is_str_int, is_str_bool, is_str_str, is_str_tuple, is_str_list, is_tup_int, is_tup_bool, is_tup_str, is_tup_tuple, is_tup_list, is_lst_int, is_lst_bool, is_lst_str, is_lst_tuple, is_lst_list, tyN_non, tyN_bl, tyN_int, tyN_str, tyN_tup, tyN_lst, ρIx_tup, ρIx_lst, ρIx_str, ρIx_ref, ρSl_str, ρSl_lst, ρSl_tup, ρApp_ref, θLst_ref, θStr_str, ςLst_ref, ρJoin_lst, γTup_tup, atI_0, atI_1, atI_2, atI_3, atI_4, atI_5, atI_6, atI_7, c_WIDTHS, sp_is_in_eq, sp_is_tuple_eq, sp_demand_eq, sp_is_bits_eq]
  cases v <;> (try simp only [dVar, dC, dOp, dUn, dTest_eq, dAnd, dOr, dNot, dAndV_eq, dOrV_eq, dNotV_eq, dIf, dChain_eq, dNil, dCons, dTup, dLst, dLstM, dCB, dBM, dNoPart, dPart_eq, dSl, dCall, dCallK, dNext, dBrk, dCnt, dSeq, dDrop, dRet, dRetN, dIfS, γName, γNil, γCons, γSub, dAsg, dPar, dAug, ιSeq_eq, ιRng1_eq, ιRng2_eq, dFor, dLc, dLcM, dYes, dT, dTold, onBl_eq, onInt_eq, onSeq_lst, onSeq_tup, onSeq_str, onSome_eq, lstAt_same, dRaise, startD, List.map_cons, List.map_nil, List.length_cons, List.length_nil, List.replicate_succ, List.replicate_zero, List.cons_append, List.nil_append, List.append_nil, List.getElem?_cons_zero, List.getElem?_cons_succ, List.set_cons_zero, List.set_cons_succ, Nat.reduceAdd, Nat.reduceSub, Nat.zero_add, Nat.sub_self, ρEq_int, ρEq_str, ρEq_bl, ρNe_int, ρNe_str, ρNe_bl, ρEq_t3, ρNe_t3, ρEq_t2, ρNe_t2, intsOf_mapf, strsOf_mapf, blsOf_mapf, gK_01_0, gK_02_01, gK_02_10, gK_03_012, gK_03_021, gK_03_102, gK_03_120, gK_03_201, gK_03_210, gK_11_0, gK_12_01, gK_12_10, gK_13_012, gK_13_021, gK_13_102, gK_13_120, gK_13_201, gK_13_210, eq_self, Bool.not_true, Bool.not_false, decide_true, decide_false, strsOf_c0, strsOf_c1, strsOf_c2, strsOf_c3, strsOf_c4, strsOf_c5, strsOf_c6, strsOf_c7, strsOf_c8, intsOf_c0, intsOf_c1, intsOf_c2, intsOf_c3, intsOf_c4, intsOf_c5, intsOf_c6, intsOf_c7, intsOf_c8, blsOf_c0, blsOf_c1, blsOf_c2, blsOf_c3, blsOf_c4, blsOf_c5, blsOf_c6, blsOf_c7, blsOf_c8, ixN_30, ixN_31, ixN_32, wipeD, if_true, if_false, Bool.false_eq_true, Bool.true_eq_false, true_and, and_true, ρAdd_int, ρAdd_str, ρAdd_tup, ρAdd_lst, ρAdd_rl, ρI_int, ρI0_int, ρMul_int, ρMul_str, ρNeg_int, ρCmp_int, ρCmp_str, ρIsN_eq, ρNotN_eq, isNonD_bl, isNonD_int, isNonD_str, isNonD_tup, isNonD_lst, isNonD_ref, isNonD_non, ρSgn_one, ρAbs_int, ρMax_two, ρMin_two, ρMax_lst, ρMin_lst, ρInt_int, ρInt_bl, ρStr_int, ρLen_str, ρLen_tup, ρLen_lst, ρLen_ref, ρSum_lst, ρAll_lst, ρAny_lst, ρTupO_tup, ρTupO_lst, ρIsi_eq, is_non_int, is_non_bool, is_non_str, is_non_tuple, is_non_list, is_bl_int, is_bl_bool, is_bl_str, is_bl_tuple, is_bl_list, is_int_int, is_int_bool, is_int_str, is_int_tuple, is_int_list, is_str_int, is_str_bool, is_str_str, is_str_tuple, is_str_list, is_tup_int, is_tup_bool, is_tup_str, is_tup_tuple, is_tup_list, is_lst_int, is_lst_bool, is_lst_str, is_lst_tuple, is_lst_list, tyN_non, tyN_bl, tyN_int, tyN_str, tyN_tup, tyN_lst, ρIx_tup, ρIx_lst, ρIx_str, ρIx_ref, ρSl_str, ρSl_lst, ρSl_tup, ρApp_ref, θLst_ref, θStr_str, ςLst_ref, ρJoin_lst, γTup_tup, atI_0, atI_1, atI_2, atI_3, atI_4, atI_5, atI_6, atI_7, c_WIDTHS, sp_is_in_eq, sp_is_tuple_eq, sp_demand_eq, sp_is_bits_eq]) <;> first | exact Fin.same hk | (cases hv; done) | skip
  rename_i z
  have hz : z.length ≤ 1000 := of_decide_eq_true hs
  refine ⟨sz1000 hz, ?_⟩
  by_cases h1 : lo ≤ (z.length : Nat)
  · simp only [h1, decide_true, if_true]
    by_cases h2 : ((z.length : Nat) : Int) ≤ hi
    · simp only [h2, decide_true, if_true]
      intro L hL
      refine lc_map (l := z.cps.toList) (g := fun c => .str ⟨#[c]⟩) (fun c => .bl (false ^^ decide (c ∈ ("01" : Str).cps.toList))) (show z.cps.toList.length ≤ sizeLine by rw [Array.length_toList]; exact sz1000 hz) (fun c _ τ k hk => ?_) ?_
      · simp only [dVar, dC, dOp, dUn, dTest_eq, dAnd, dOr, dNot, dAndV_eq, dOrV_eq, dNotV_eq, dIf, dChain_eq, dNil, dCons, dTup, dLst, dLstM, dCB, dBM, dNoPart, dPart_eq, dSl, dCall, dCallK, dNext, dBrk, dCnt, dSeq, dDrop, dRet, dRetN, dIfS, γName, γNil, γCons, γSub, dAsg, dPar, dAug, ιSeq_eq, ιRng1_eq, ιRng2_eq, dFor, dLc, dLcM, dYes, dT, dTold, onBl_eq, onInt_eq, onSeq_lst, onSeq_tup, onSeq_str, onSome_eq, lstAt_same, dRaise, startD, List.map_cons, List.map_nil, List.length_cons, List.length_nil, List.replicate_succ, List.replicate_zero, List.cons_append, List.nil_append, List.append_nil, List.getElem?_cons_zero, List.getElem?_cons_succ, List.set_cons_zero, List.set_cons_succ, Nat.reduceAdd, Nat.reduceSub, Nat.zero_add, Nat.sub_self, ρEq_int, ρEq_str, ρEq_bl, ρNe_int, ρNe_str, ρNe_bl, ρEq_t3, ρNe_t3, ρEq_t2, ρNe_t2, intsOf_mapf, strsOf_mapf, blsOf_mapf, gK_01_0, gK_02_01, gK_02_10, gK_03_012, gK_03_021, gK_03_102, gK_03_120, gK_03_201, gK_03_210, gK_11_0, gK_12_01, gK_12_10, gK_13_012, gK_13_021, gK_13_102, gK_13_120, gK_13_201, gK_13_210, eq_self, Bool.not_true, Bool.not_false, decide_true, decide_false, strsOf_c0, strsOf_c1, strsOf_c2, strsOf_c3, strsOf_c4, strsOf_c5, strsOf_c6, strsOf_c7, strsOf_c8, intsOf_c0, intsOf_c1, intsOf_c2, intsOf_c3, intsOf_c4, intsOf_c5, intsOf_c6, intsOf_c7, intsOf_c8, blsOf_c0, blsOf_c1, blsOf_c2, blsOf_c3, blsOf_c4, blsOf_c5, blsOf_c6, blsOf_c7, blsOf_c8, ixN_30, ixN_31, ixN_32, wipeD, if_true, if_false, Bool.false_eq_true, Bool.true_eq_false, true_and, and_true, ρAdd_int, ρAdd_str, ρAdd_tup, ρAdd_lst, ρAdd_rl, ρI_int, ρI0_int, ρMul_int, ρMul_str, ρNeg_int, ρCmp_int, ρCmp_str, ρIsN_eq, ρNotN_eq, isNonD_bl, isNonD_int, isNonD_str, isNonD_tup, isNonD_lst, isNonD_ref, isNonD_non, ρSgn_one, ρAbs_int, ρMax_two, ρMin_two, ρMax_lst, ρMin_lst, ρInt_int, ρInt_bl, ρStr_int, ρLen_str, ρLen_tup, ρLen_lst, ρLen_ref, ρSum_lst, ρAll_lst, ρAny_lst, ρTupO_tup, ρTupO_lst, ρIsi_eq, is_non_int, is_non_bool, is_non_str, is_non_tuple, is_non_list, is_bl_int, is_bl_bool, is_bl_str, is_bl_tuple, is_bl_list, is_int_int, is_int_bool, is_int_str, is_int_tuple, is_int_list, is_str_int, is_str_bool, is_str_str, is_str_tuple, is_str_list, is_tup_int, is_tup_bool, is_tup_str, is_tup_tuple, is_tup_list, is_lst_int, is_lst_bool, is_lst_str, is_lst_tuple, is_lst_list, tyN_non, tyN_bl, tyN_int, tyN_str, tyN_tup, tyN_lst, ρIx_tup, ρIx_lst, ρIx_str, ρIx_ref, ρSl_str, ρSl_lst, ρSl_tup, ρApp_ref, θLst_ref, θStr_str, ςLst_ref, ρJoin_lst, γTup_tup, atI_0, atI_1, atI_2, atI_3, atI_4, atI_5, atI_6, atI_7, c_WIDTHS, sp_is_in_eq, sp_is_tuple_eq, sp_demand_eq, sp_is_bits_eq]
        exact hk
      · simp only [dVar, dC, dOp, dUn, dTest_eq, dAnd, dOr, dNot, dAndV_eq, dOrV_eq, dNotV_eq, dIf, dChain_eq, dNil, dCons, dTup, dLst, dLstM, dCB, dBM, dNoPart, dPart_eq, dSl, dCall, dCallK, dNext, dBrk, dCnt, dSeq, dDrop, dRet, dRetN, dIfS, γName, γNil, γCons, γSub, dAsg, dPar, dAug, ιSeq_eq, ιRng1_eq, ιRng2_eq, dFor, dLc, dLcM, dYes, dT, dTold, onBl_eq, onInt_eq, onSeq_lst, onSeq_tup, onSeq_str, onSome_eq, lstAt_same, dRaise, startD, List.map_cons, List.map_nil, List.length_cons, List.length_nil, List.replicate_succ, List.replicate_zero, List.cons_append, List.nil_append, List.append_nil, List.getElem?_cons_zero, List.getElem?_cons_succ, List.set_cons_zero, List.set_cons_succ, Nat.reduceAdd, Nat.reduceSub, Nat.zero_add, Nat.sub_self, ρEq_int, ρEq_str, ρEq_bl, ρNe_int, ρNe_str, ρNe_bl, ρEq_t3, ρNe_t3, ρEq_t2, ρNe_t2, intsOf_mapf, strsOf_mapf, blsOf_mapf, gK_01_0, gK_02_01, gK_02_10, gK_03_012, gK_03_021, gK_03_102, gK_03_120, gK_03_201, gK_03_210, gK_11_0, gK_12_01, gK_12_10, gK_13_012, gK_13_021, gK_13_102, gK_13_120, gK_13_201, gK_13_210, eq_self, Bool.not_true, Bool.not_false, decide_true, decide_false, strsOf_c0, strsOf_c1, strsOf_c2, strsOf_c3, strsOf_c4, strsOf_c5, strsOf_c6, strsOf_c7, strsOf_c8, intsOf_c0, intsOf_c1, intsOf_c2, intsOf_c3, intsOf_c4, intsOf_c5, intsOf_c6, intsOf_c7, intsOf_c8, blsOf_c0, blsOf_c1, blsOf_c2, blsOf_c3, blsOf_c4, blsOf_c5, blsOf_c6, blsOf_c7, blsOf_c8, ixN_30, ixN_31, ixN_32, wipeD, if_true, if_false, Bool.false_eq_true, Bool.true_eq_false, true_and, and_true, ρAdd_int, ρAdd_str, ρAdd_tup, ρAdd_lst, ρAdd_rl, ρI_int, ρI0_int, ρMul_int, ρMul_str, ρNeg_int, ρCmp_int, ρCmp_str, ρIsN_eq, ρNotN_eq, isNonD_bl, isNonD_int, isNonD_str, isNonD_tup, isNonD_lst, isNonD_ref, isNonD_non, ρSgn_one, ρAbs_int, ρMax_two, ρMin_two, ρMax_lst, ρMin_lst, ρInt_int, ρInt_bl, ρStr_int, ρLen_str, ρLen_tup, ρLen_lst, ρLen_ref, ρSum_lst, ρAll_lst, ρAny_lst, ρTupO_tup, ρTupO_lst, ρIsi_eq, is_non_int, is_non_bool, is_non_str, is_non_tuple, is_non_list, is_bl_int, is_bl_bool, is_bl_str, is_bl_tuple, is_bl_list, is_int_int, is_int_bool, is_int_str, is_int_tuple, is_int_list, is_str_int, is_str_bool, is_str_str, is_str_tuple, is_str_list, is_tup_int, is_tup_bool, is_tup_str, is_tup_tuple, is_tup_list, is_lst_int, is_lst_bool, is_lst_str, is_lst_tuple, is_lst_list, tyN_non, tyN_bl, tyN_int, tyN_str, tyN_tup, tyN_lst, ρIx_tup, ρIx_lst, ρIx_str, ρIx_ref, ρSl_str, ρSl_lst, ρSl_tup, ρApp_ref, θLst_ref, θStr_str, ςLst_ref, ρJoin_lst, γTup_tup, atI_0, atI_1, atI_2, atI_3, atI_4, atI_5, atI_6, atI_7, c_WIDTHS, sp_is_in_eq, sp_is_tuple_eq, sp_demand_eq, sp_is_bits_eq, tset_del hL]
        refine Fin.same ?_
        simpa only [isBitsD, h1, h2, decide_true, Bool.true_and] using hk
    · simp only [h2, decide_false, Bool.false_eq_true, if_false]
      refine Fin.same ?_
      simpa only [isBitsD, h1, h2, decide_false, decide_true, Bool.false_and, Bool.true_and] using hk
  · simp only [h1, decide_false, Bool.false_eq_true, if_false]
    refine Fin.same ?_
    simpa only [isBitsD, h1, decide_false, Bool.false_and] using hk
/-! ### number_of -/
theorem sc_number_of : FnScope ["bits", "found", "sign"] ["bits"] (defScope s_number_of) := ⟨rfl, rfl, rfl, by decide +kernel, rfl, by decide +kernel, by decide +kernel⟩
theorem bn_number_of (M : Mod K mg) : L2.Binds K M.f_number_of.choose ["bits"] [] := fun_binds M.f_number_of.choose_spec fun _ _ _ _ _ _ us hl => match us, hl with | [_], _ => rfl
def numStep (a : Int) (c : Nat) : Int := 2 * a + if decide ((⟨#[c]⟩ : Str) = "1") = true then 1 else 0
def numS (l : List Nat) : Int := l.foldl numStep 0
def sp_number_of : SpD := fun τ ds k KE => match ds with
  | [.str z] => k τ (.int (numS z.cps.toList))
  | _ => False
theorem sp_number_of_eq {τ : TD} {k : DK} {KE : XD} {z : Str} : sp_number_of τ [.str z] k KE = (k τ (.int (numS z.cps.toList))) := rfl
theorem ok_number_of (M : Mod K mg) : FnD prog w K mg base (TT K) 2 (He.fAd K ("number_of", none)) M.f_number_of.choose ["bits"] sp_number_of := by
  refine fnD_of M.f_number_of.choose_spec sc_number_of fun KE => ⟨_, fun cdv A outer s H E hr => (pdss_cons (pds_set (i := 1) sc_number_of.nd rfl (by first | exact .inl rfl | exact .inr rfl) pd_int) (pdss_cons (pds_for ownD rfl (pdi_seq (pd_var (pv 0))) (pdg_name (i := 2) sc_number_of.nd rfl (by first | exact .inl rfl | exact .inr rfl)) (pdss_one (pds_set (i := 1) sc_number_of.nd rfl (by first | exact .inl rfl | exact .inr rfl) (pd_op op_addU ok_add (pd_op op_mulU ok_mul pd_int (pd_var (pv 1))) (pd_callTy cr_int ok_int rfl M.b_int boot_int (pda_cons (pd_cmp (op_eqU (room_eq hr)) ok_eq (pd_var (pv 2)) pd_str (nomark _)) pda_nil)))))) (pdss_one (pds_ret (pd_var (pv 1)))))), ?_⟩
  intro τ ds k hl h
  unfold sp_number_of at h
  split at h
  case h_2 => exact h.elim
  rename_i z
  simp only [dVar, dC, dOp, dUn, dTest_eq, dAnd, dOr, dNot, dAndV_eq, dOrV_eq, dNotV_eq, dIf, dChain_eq, dNil, dCons, dTup, dLst, dLstM, dCB, dBM, dNoPart, dPart_eq, dSl, dCall, dCallK, dNext, dBrk, dCnt, dSeq, dDrop, dRet, dRetN, dIfS, γName, γNil, γCons, γSub, dAsg, dPar, dAug, ιSeq_eq, ιRng1_eq, ιRng2_eq, dFor, dLc, dLcM, dYes, dT, dTold, onBl_eq, onInt_eq, onSeq_lst, onSeq_tup, onSeq_str, onSome_eq, lstAt_same, dRaise, startD, List.map_cons, List.map_nil, List.length_cons, List.length_nil, List.replicate_succ, List.replicate_zero, List.cons_append, List.nil_append, List.append_nil, List.getElem?_cons_zero, List.getElem?_cons_succ, List.set_cons_zero, List.set_cons_succ, Nat.reduceAdd, Nat.reduceSub, Nat.zero_add, Nat.sub_self, ρEq_int, ρEq_str, ρEq_bl, ρNe_int, ρNe_str, ρNe_bl, ρEq_t3, ρNe_t3, ρEq_t2, ρNe_t2, intsOf_mapf, strsOf_mapf, blsOf_mapf, gK_01_0, gK_02_01, gK_02_10, gK_03_012, gK_03_021, gK_03_102, gK_03_120, gK_03_201, gK_03_210, gK_11_0, gK_12_01, gK_12_10, gK_13_012, gK_13_021, gK_13_102, gK_13_120, gK_13_201, gK_13_210, eq_self, Bool.not_true, Bool.not_false, decide_true, decide_false, strsOf_c0, strsOf_c1, strsOf_c2, strsOf_c3, strsOf_c4, strsOf_c5, strsOf_c6, strsOf_c7, strsOf_c8, intsOf_c0, intsOf_c1, intsOf_c2, intsOf_c3, intsOf_c4, intsOf_c5, intsOf_c6, intsOf_c7, intsOf_c8, blsOf_c0, blsOf_c1, blsOf_c2, blsOf_c3, blsOf_c4, blsOf_c5, blsOf_c6, blsOf_c7, blsOf_c8, ixN_30, ixN_31, ixN_32, wipeD, if_true, if_false, Bool.false_eq_true, Bool.true_eq_false, true_and, and_true, ρAdd_int, ρAdd_str, ρAdd_tup, ρAdd_lst, ρAdd_rl, ρI_int, ρI0_int, ρMul_int, ρMul_str, ρNeg_int, ρCmp_int, ρCmp_str, ρIsN_eq, ρNotN_eq, isNonD_bl, isNonD_int, isNonD_str, isNonD_tup, isNonD_lst, isNonD_ref, isNonD_non, ρSgn_one, ρAbs_int, ρMax_two, ρMin_two, ρMax_lst, ρMin_lst, ρInt_int, ρInt_bl, ρStr_int, ρLen_str, ρLen_tup, ρLen_lst, ρLen_ref, ρSum_lst, ρAll_lst, ρAny_lst, ρTupO_tup, ρTupO_lst, ρIsi_eq, is_non_int, is_non_bool, is_non_str, is_non_tuple, is_non_list, is_bl_int, is_bl_bool, is_bl_str, is_bl_tuple, is_bl_list, is_int_int, is_int_bool, is_int_str, is_int_tuple, is_int_list, is_str_int, is_str_bool, is_str_str, is_str_tuple, is_str_list, is_tup_int, is_tup_bool, is_tup_str, is_tup_tuple, is_tup_list, is_lst_int, is_lst_bool, is_lst_str, is_lst_tuple, is_lst_list, tyN_non, tyN_bl, tyN_int, tyN_str, tyN_tup, tyN_lst, ρIx_tup, ρIx_lst, ρIx_str, ρIx_ref, ρSl_str, ρSl_lst, ρSl_tup, ρApp_ref, θLst_ref, θStr_str, ςLst_ref, ρJoin_lst, γTup_tup, atI_0, atI_1, atI_2, atI_3, atI_4, atI_5, atI_6, atI_7, c_WIDTHS, sp_is_in_eq, sp_is_tuple_eq, sp_demand_eq, sp_is_bits_eq, sp_number_of_eq]
  refine loop_st (α := Nat) (g := fun c => .str ⟨#[c]⟩) (fun (s : Int) τ' ds => τ' = τ ∧ ∃ x, ds = [some (.str z), some (.int s), x]) numStep z.cps.toList (fun c _ s τ' ds hI G hG => ?_) ⟨rfl, none, rfl⟩ (fun τ' ds hI => ?_)
  · obtain ⟨rfl, x, rfl⟩ := hI
    simp only [dVar, dC, dOp, dUn, dTest_eq, dAnd, dOr, dNot, dAndV_eq, dOrV_eq, dNotV_eq, dIf, dChain_eq, dNil, dCons, dTup, dLst, dLstM, dCB, dBM, dNoPart, dPart_eq, dSl, dCall, dCallK, dNext, dBrk, dCnt, dSeq, dDrop, dRet, dRetN, dIfS, γName, γNil, γCons, γSub, dAsg, dPar, dAug, ιSeq_eq, ιRng1_eq, ιRng2_eq, dFor, dLc, dLcM, dYes, dT, dTold, onBl_eq, onInt_eq, onSeq_lst, onSeq_tup, onSeq_str, onSome_eq, lstAt_same, dRaise, startD, List.map_cons, List.map_nil, List.length_cons, List.length_nil, List.replicate_succ, List.replicate_zero, List.cons_append, List.nil_append, List.append_nil, List.getElem?_cons_zero, List.getElem?_cons_succ, List.set_cons_zero, List.set_cons_succ, Nat.reduceAdd, Nat.reduceSub, Nat.zero_add, Nat.sub_self, ρEq_int, ρEq_str, ρEq_bl, ρNe_int, ρNe_str, ρNe_bl, ρEq_t3, ρNe_t3, ρEq_t2, ρNe_t2, intsOf_mapf, strsOf_mapf, blsOf_mapf, gK_01_0, gK_02_01, gK_02_10, gK_03_012, gK_03_021, gK_03_102, gK_03_120, gK_03_201, gK_03_210, gK_11_0, gK_12_01, gK_12_10, gK_13_012, gK_13_021, gK_13_102, gK_13_120, gK_13_201, gK_13_210, eq_self, Bool.not_true, Bool.not_false, decide_true, decide_false, strsOf_c0, strsOf_c1, strsOf_c2, strsOf_c3, strsOf_c4, strsOf_c5, strsOf_c6, strsOf_c7, strsOf_c8, intsOf_c0, intsOf_c1, intsOf_c2, intsOf_c3, intsOf_c4, intsOf_c5, intsOf_c6, intsOf_c7, intsOf_c8, blsOf_c0, blsOf_c1, blsOf_c2, blsOf_c3, blsOf_c4, blsOf_c5, blsOf_c6, blsOf_c7, blsOf_c8, ixN_30, ixN_31, ixN_32, wipeD, if_true, if_false, Bool.false_eq_true, Bool.true_eq_false, true_and, and_true, ρAdd_int, ρAdd_str, ρAdd_tup, ρAdd_lst, ρAdd_rl, ρI_int, ρI0_int, ρMul_int, ρMul_str, ρNeg_int, ρCmp_int, ρCmp_str, ρIsN_eq, ρNotN_eq, isNonD_bl, isNonD_int, isNonD_str, isNonD_tup, isNonD_lst, isNonD_ref, isNonD_non, ρSgn_one, ρAbs_int, ρMax_two, ρMin_two, ρMax_lst, ρMin_lst, ρInt_int, ρInt_bl, ρStr_int, ρLen_str, ρLen_tup, ρLen_lst, ρLen_ref, ρSum_lst, ρAll_lst, ρAny_lst, ρTupO_tup, ρTupO_lst, ρIsi_eq, is_non_int, is_non_bool, is_non_str, is_non_tuple, is_non_list, is_bl_int, is_bl_bool, is_bl_str, is_bl_tuple, is_bl_list, is_int_int, is_int_bool, is_int_str, is_int_tuple, is_int_list, is_str_int, is_str_bool, is_str_str, is_str_tuple, is_str_list, is_tup_int, is_tup_bool, is_tup_str, is_tup_tuple, is_tup_list, is_lst_int, is_lst_bool, is_lst_str, is_lst_tuple, is_lst_list, tyN_non, tyN_bl, tyN_int, tyN_str, tyN_tup, tyN_lst, ρIx_tup, ρIx_lst, ρIx_str, ρIx_ref, ρSl_str, ρSl_lst, ρSl_tup, ρApp_ref, θLst_ref, θStr_str, ςLst_ref, ρJoin_lst, γTup_tup, atI_0, atI_1, atI_2, atI_3, atI_4, atI_5, atI_6, atI_7, c_WIDTHS, sp_is_in_eq, sp_is_tuple_eq, sp_demand_eq, sp_is_bits_eq, sp_number_of_eq]
    exact ⟨.inl (by decide), hG _ _ ⟨rfl, _, rfl⟩⟩
  · obtain ⟨rfl, x, rfl⟩ := hI
    simp only [dVar, dC, dOp, dUn, dTest_eq, dAnd, dOr, dNot, dAndV_eq, dOrV_eq, dNotV_eq, dIf, dChain_eq, dNil, dCons, dTup, dLst, dLstM, dCB, dBM, dNoPart, dPart_eq, dSl, dCall, dCallK, dNext, dBrk, dCnt, dSeq, dDrop, dRet, dRetN, dIfS, γName, γNil, γCons, γSub, dAsg, dPar, dAug, ιSeq_eq, ιRng1_eq, ιRng2_eq, dFor, dLc, dLcM, dYes, dT, dTold, onBl_eq, onInt_eq, onSeq_lst, onSeq_tup, onSeq_str, onSome_eq, lstAt_same, dRaise, startD, List.map_cons, List.map_nil, List.length_cons, List.length_nil, List.replicate_succ, List.replicate_zero, List.cons_append, List.nil_append, List.append_nil, List.getElem?_cons_zero, List.getElem?_cons_succ, List.set_cons_zero, List.set_cons_succ, Nat.reduceAdd, Nat.reduceSub, Nat.zero_add, Nat.sub_self, ρEq_int, ρEq_str, ρEq_bl, ρNe_int, ρNe_str, ρNe_bl, ρEq_t3, ρNe_t3, ρEq_t2, ρNe_t2, intsOf_mapf, strsOf_mapf, blsOf_mapf, gK_01_0, gK_02_01, gK_02_10, gK_03_012, gK_03_021, gK_03_102, gK_03_120, gK_03_201, gK_03_210, gK_11_0, gK_12_01, gK_12_10, gK_13_012, gK_13_021, gK_13_102, gK_13_120, gK_13_201, gK_13_210, eq_self, Bool.not_true, Bool.not_false, decide_true, decide_false, strsOf_c0, strsOf_c1, strsOf_c2, strsOf_c3, strsOf_c4, strsOf_c5, strsOf_c6, strsOf_c7, strsOf_c8, intsOf_c0, intsOf_c1, intsOf_c2, intsOf_c3, intsOf_c4, intsOf_c5, intsOf_c6, intsOf_c7, intsOf_c8, blsOf_c0, blsOf_c1, blsOf_c2, blsOf_c3, blsOf_c4, blsOf_c5, blsOf_c6, blsOf_c7, blsOf_c8, ixN_30, ixN_31, ixN_32, wipeD, if_true, if_false, Bool.false_eq_true, Bool.true_eq_false, true_and, and_true, ρAdd_int, ρAdd_str, ρAdd_tup, ρAdd_lst, ρAdd_rl, ρI_int, ρI0_int, ρMul_int, ρMul_str, ρNeg_int, ρCmp_int, ρCmp_str, ρIsN_eq, ρNotN_eq, isNonD_bl, isNonD_int, isNonD_str, isNonD_tup, isNonD_lst, isNonD_ref, isNonD_non, ρSgn_one, ρAbs_int, ρMax_two, ρMin_two, ρMax_lst, ρMin_lst, ρInt_int, ρInt_bl, ρStr_int, ρLen_str, ρLen_tup, ρLen_lst, ρLen_ref, ρSum_lst, ρAll_lst, ρAny_lst, ρTupO_tup, ρTupO_lst, ρIsi_eq, is_non_int, is_non_bool, is_non_str, is_non_tuple, is_non_list, is_bl_int, is_bl_bool, is_bl_str, is_bl_tuple, is_bl_list, is_int_int, is_int_bool, is_int_str, is_int_tuple, is_int_list, is_str_int, is_str_bool, is_str_str, is_str_tuple, is_str_list, is_tup_int, is_tup_bool, is_tup_str, is_tup_tuple, is_tup_list, is_lst_int, is_lst_bool, is_lst_str, is_lst_tuple, is_lst_list, tyN_non, tyN_bl, tyN_int, tyN_str, tyN_tup, tyN_lst, ρIx_tup, ρIx_lst, ρIx_str, ρIx_ref, ρSl_str, ρSl_lst, ρSl_tup, ρApp_ref, θLst_ref, θStr_str, ςLst_ref, ρJoin_lst, γTup_tup, atI_0, atI_1, atI_2, atI_3, atI_4, atI_5, atI_6, atI_7, c_WIDTHS, sp_is_in_eq, sp_is_tuple_eq, sp_demand_eq, sp_is_bits_eq, sp_number_of_eq]
    exact Fin.same h
/-! ### bits_of -/
theorem sc_bits_of : FnScope ["number", "many", "at"] ["number", "many"] (defScope s_bits_of) := ⟨rfl, rfl, rfl, by decide +kernel, rfl, by decide +kernel, by decide +kernel⟩
theorem bn_bits_of (M : Mod K mg) : L2.Binds K M.f_bits_of.choose ["number", "many"] [] := fun_binds M.f_bits_of.choose_spec fun _ _ _ _ _ _ us hl => match us, hl with | [_, _], _ => rfl
def bitsD (n m : Int) : Str := Txt.join "" ((List.range m.toNat).map fun (i : Nat) => strI (n / 2 ^ (m - 1 - (0 + (i : Int))).toNat % 2))
theorem strI01 {i : Int} (h : i = 0 ∨ i = 1) : (strI i).length = 1 := by
  rcases h with rfl | rfl <;> decide +kernel
def sp_bits_of : SpD := fun τ ds k KE => match ds with
  | [.int n, .int m] => (0 ≤ m ∧ m ≤ 100) ∧ k τ (.str (bitsD n m))
  | _ => False
theorem sp_bits_of_eq {τ : TD} {k : DK} {KE : XD} {n m : Int} : sp_bits_of τ [.int n, .int m] k KE = ((0 ≤ m ∧ m ≤ 100) ∧ k τ (.str (bitsD n m))) := rfl
theorem ok_bits_of (M : Mod K mg) : FnD prog w K mg base (TT K) 2 (He.fAd K ("bits_of", none)) M.f_bits_of.choose ["number", "many"] sp_bits_of := by
  refine fnD_of M.f_bits_of.choose_spec sc_bits_of fun KE => ⟨_, fun cdv A outer s H E hr => (pdss_one (pds_ret (pd_bm PySem.F.plainAttrs_str PySem.F.slot_str_join PySem.F.type_str_join mt_join ok_join ty_str pd_str (pda_cons (pd_lc rfl sc_bits_of.nd (pdi_range1 rfl M.b_range (pda_cons (pd_var (pv 1)) pda_nil)) (show BlkOk ["number", "many", "at"] (defScope s_bits_of) _ [("at", 2)] from blk_of (by decide +kernel)) (fun _ _ _ _ _ => pdn_name (i := 2) sc_bits_of.nd rfl (.inl rfl) (by decide)) (fun _ _ _ _ _ => pdts_nil) (fun _ _ _ _ _ => (pd_callTy cr_strI ok_str rfl M.b_str boot_str (pda_cons (pd_op op_mod ok_mod (pd_op op_shr ok_shr (pd_var (pv 0)) (pd_op op_sub ok_sub (pd_op op_sub ok_sub (pd_var (pv 1)) pd_int) (pd_var (pv 2)))) pd_int) pda_nil)))) pda_nil)))), ?_⟩
  intro τ ds k hl h
  unfold sp_bits_of at h
  split at h
  case h_2 => exact h.elim
  rename_i n m
  obtain ⟨⟨h0, h1⟩, hk⟩ := h
  simp only [dVar, dC, dOp, dUn, dTest_eq, dAnd, dOr, dNot, dAndV_eq, dOrV_eq, dNotV_eq, dIf, dChain_eq, dNil, dCons, dTup, dLst, dLstM, dCB, dBM, dNoPart, dPart_eq, dSl, dCall, dCallK, dNext, dBrk, dCnt, dSeq, dDrop, dRet, dRetN, dIfS, γName, γNil, γCons, γSub, dAsg, dPar, dAug, ιSeq_eq, ιRng1_eq, ιRng2_eq, dFor, dLc, dLcM, dYes, dT, dTold, onBl_eq, onInt_eq, onSeq_lst, onSeq_tup, onSeq_str, onSome_eq, lstAt_same, dRaise, startD, List.map_cons, List.map_nil, List.length_cons, List.length_nil, List.replicate_succ, List.replicate_zero, List.cons_append, List.nil_append, List.append_nil, List.getElem?_cons_zero, List.getElem?_cons_succ, List.set_cons_zero, List.set_cons_succ, Nat.reduceAdd, Nat.reduceSub, Nat.zero_add, Nat.sub_self, ρEq_int, ρEq_str, ρEq_bl, ρNe_int, ρNe_str, ρNe_bl, ρEq_t3, ρNe_t3, ρEq_t2, ρNe_t2, intsOf_mapf, strsOf_mapf, blsOf_mapf, gK_01_0, gK_02_01, gK_02_10, gK_03_012, gK_03_021, gK_03_102, gK_03_120, gK_03_201, gK_03_210, gK_11_0, gK_12_01, gK_12_10, gK_13_012, gK_13_021, gK_13_102, gK_13_120, gK_13_201, gK_13_210, eq_self, Bool.not_true, Bool.not_false, decide_true, decide_false, strsOf_c0, strsOf_c1, strsOf_c2, strsOf_c3, strsOf_c4, strsOf_c5, strsOf_c6, strsOf_c7, strsOf_c8, intsOf_c0, intsOf_c1, intsOf_c2, intsOf_c3, intsOf_c4, intsOf_c5, intsOf_c6, intsOf_c7, intsOf_c8, blsOf_c0, blsOf_c1, blsOf_c2, blsOf_c3, blsOf_c4, blsOf_c5, blsOf_c6, blsOf_c7, blsOf_c8, ixN_30, ixN_31, ixN_32, wipeD, if_true, if_false, Bool.false_eq_true, Bool.true_eq_false, true_and, and_true, ρAdd_int, ρAdd_str, ρAdd_tup, ρAdd_lst, ρAdd_rl, ρI_int, ρI0_int, ρMul_int, ρMul_str, ρNeg_int, ρCmp_int, ρCmp_str, ρIsN_eq, ρNotN_eq, isNonD_bl, isNonD_int, isNonD_str, isNonD_tup, isNonD_lst, isNonD_ref, isNonD_non, ρSgn_one, ρAbs_int, ρMax_two, ρMin_two, ρMax_lst, ρMin_lst, ρInt_int, ρInt_bl, ρStr_int, ρLen_str, ρLen_tup, ρLen_lst, ρLen_ref, ρSum_lst, ρAll_lst, ρAny_lst, ρTupO_tup, ρTupO_lst, ρIsi_eq, is_non_int, is_non_bool, is_non_str, is_non_tuple, is_non_list, is_bl_int, is_bl_bool, is_bl_str, is_bl_tuple, is_bl_list, is_int_int, is_int_bool, is_int_str, is_int_tuple, is_int_list, is_str_int, is_str_bool, is_str_str, is_str_tuple, is_str_list, is_tup_int, is_tup_bool, is_tup_str, is_tup_tuple, is_tup_list, is_lst_int, is_lst_bool, is_lst_str, is_lst_tuple, is_lst_list, tyN_non, tyN_bl, tyN_int, tyN_str, tyN_tup, tyN_lst, ρIx_tup, ρIx_lst, ρIx_str, ρIx_ref, ρSl_str, ρSl_lst, ρSl_tup, ρApp_ref, θLst_ref, θStr_str, ςLst_ref, ρJoin_lst, γTup_tup, atI_0, atI_1, atI_2, atI_3, atI_4, atI_5, atI_6, atI_7, c_WIDTHS, sp_is_in_eq, sp_is_tuple_eq, sp_demand_eq, sp_is_bits_eq, sp_number_of_eq, sp_bits_of_eq]
  have hp : ∀ i : Int, i % 2 = 0 ∨ i % 2 = 1 := fun i => by omega
  refine ⟨⟨by omega, by omega⟩, ?_⟩
  intro L hL
  refine lc_map (l := List.range m.toNat) (g := fun (i : Nat) => .int (0 + (i : Int))) (fun (i : Nat) => .str (strI (n / 2 ^ (m - 1 - (0 + (i : Int))).toNat % 2))) (by rw [List.length_range]; exact sz1000 (by omega)) (fun c hc τ k hk => ?_) ?_
  · have hc : c < m.toNat := by simpa using hc
    simp only [dVar, dC, dOp, dUn, dTest_eq, dAnd, dOr, dNot, dAndV_eq, dOrV_eq, dNotV_eq, dIf, dChain_eq, dNil, dCons, dTup, dLst, dLstM, dCB, dBM, dNoPart, dPart_eq, dSl, dCall, dCallK, dNext, dBrk, dCnt, dSeq, dDrop, dRet, dRetN, dIfS, γName, γNil, γCons, γSub, dAsg, dPar, dAug, ιSeq_eq, ιRng1_eq, ιRng2_eq, dFor, dLc, dLcM, dYes, dT, dTold, onBl_eq, onInt_eq, onSeq_lst, onSeq_tup, onSeq_str, onSome_eq, lstAt_same, dRaise, startD, List.map_cons, List.map_nil, List.length_cons, List.length_nil, List.replicate_succ, List.replicate_zero, List.cons_append, List.nil_append, List.append_nil, List.getElem?_cons_zero, List.getElem?_cons_succ, List.set_cons_zero, List.set_cons_succ, Nat.reduceAdd, Nat.reduceSub, Nat.zero_add, Nat.sub_self, ρEq_int, ρEq_str, ρEq_bl, ρNe_int, ρNe_str, ρNe_bl, ρEq_t3, ρNe_t3, ρEq_t2, ρNe_t2, intsOf_mapf, strsOf_mapf, blsOf_mapf, gK_01_0, gK_02_01, gK_02_10, gK_03_012, gK_03_021, gK_03_102, gK_03_120, gK_03_201, gK_03_210, gK_11_0, gK_12_01, gK_12_10, gK_13_012, gK_13_021, gK_13_102, gK_13_120, gK_13_201, gK_13_210, eq_self, Bool.not_true, Bool.not_false, decide_true, decide_false, strsOf_c0, strsOf_c1, strsOf_c2, strsOf_c3, strsOf_c4, strsOf_c5, strsOf_c6, strsOf_c7, strsOf_c8, intsOf_c0, intsOf_c1, intsOf_c2, intsOf_c3, intsOf_c4, intsOf_c5, intsOf_c6, intsOf_c7, intsOf_c8, blsOf_c0, blsOf_c1, blsOf_c2, blsOf_c3, blsOf_c4, blsOf_c5, blsOf_c6, blsOf_c7, blsOf_c8, ixN_30, ixN_31, ixN_32, wipeD, if_true, if_false, Bool.false_eq_true, Bool.true_eq_false, true_and, and_true, ρAdd_int, ρAdd_str, ρAdd_tup, ρAdd_lst, ρAdd_rl, ρI_int, ρI0_int, ρMul_int, ρMul_str, ρNeg_int, ρCmp_int, ρCmp_str, ρIsN_eq, ρNotN_eq, isNonD_bl, isNonD_int, isNonD_str, isNonD_tup, isNonD_lst, isNonD_ref, isNonD_non, ρSgn_one, ρAbs_int, ρMax_two, ρMin_two, ρMax_lst, ρMin_lst, ρInt_int, ρInt_bl, ρStr_int, ρLen_str, ρLen_tup, ρLen_lst, ρLen_ref, ρSum_lst, ρAll_lst, ρAny_lst, ρTupO_tup, ρTupO_lst, ρIsi_eq, is_non_int, is_non_bool, is_non_str, is_non_tuple, is_non_list, is_bl_int, is_bl_bool, is_bl_str, is_bl_tuple, is_bl_list, is_int_int, is_int_bool, is_int_str, is_int_tuple, is_int_list, is_str_int, is_str_bool, is_str_str, is_str_tuple, is_str_list, is_tup_int, is_tup_bool, is_tup_str, is_tup_tuple, is_tup_list, is_lst_int, is_lst_bool, is_lst_str, is_lst_tuple, is_lst_list, tyN_non, tyN_bl, tyN_int, tyN_str, tyN_tup, tyN_lst, ρIx_tup, ρIx_lst, ρIx_str, ρIx_ref, ρSl_str, ρSl_lst, ρSl_tup, ρApp_ref, θLst_ref, θStr_str, ςLst_ref, ρJoin_lst, γTup_tup, atI_0, atI_1, atI_2, atI_3, atI_4, atI_5, atI_6, atI_7, c_WIDTHS, sp_is_in_eq, sp_is_tuple_eq, sp_demand_eq, sp_is_bits_eq, sp_number_of_eq, sp_bits_of_eq]
    refine ⟨by omega, by omega, ?_, hk⟩
    rcases hp (n / 2 ^ (m - 1 - (0 + (c : Int))).toNat) with e | e <;> rw [e] <;> decide +kernel
  · simp only [dVar, dC, dOp, dUn, dTest_eq, dAnd, dOr, dNot, dAndV_eq, dOrV_eq, dNotV_eq, dIf, dChain_eq, dNil, dCons, dTup, dLst, dLstM, dCB, dBM, dNoPart, dPart_eq, dSl, dCall, dCallK, dNext, dBrk, dCnt, dSeq, dDrop, dRet, dRetN, dIfS, γName, γNil, γCons, γSub, dAsg, dPar, dAug, ιSeq_eq, ιRng1_eq, ιRng2_eq, dFor, dLc, dLcM, dYes, dT, dTold, onBl_eq, onInt_eq, onSeq_lst, onSeq_tup, onSeq_str, onSome_eq, lstAt_same, dRaise, startD, List.map_cons, List.map_nil, List.length_cons, List.length_nil, List.replicate_succ, List.replicate_zero, List.cons_append, List.nil_append, List.append_nil, List.getElem?_cons_zero, List.getElem?_cons_succ, List.set_cons_zero, List.set_cons_succ, Nat.reduceAdd, Nat.reduceSub, Nat.zero_add, Nat.sub_self, ρEq_int, ρEq_str, ρEq_bl, ρNe_int, ρNe_str, ρNe_bl, ρEq_t3, ρNe_t3, ρEq_t2, ρNe_t2, intsOf_mapf, strsOf_mapf, blsOf_mapf, gK_01_0, gK_02_01, gK_02_10, gK_03_012, gK_03_021, gK_03_102, gK_03_120, gK_03_201, gK_03_210, gK_11_0, gK_12_01, gK_12_10, gK_13_012, gK_13_021, gK_13_102, gK_13_120, gK_13_201, gK_13_210, eq_self, Bool.not_true, Bool.not_false, decide_true, decide_false, strsOf_c0, strsOf_c1, strsOf_c2, strsOf_c3, strsOf_c4, strsOf_c5, strsOf_c6, strsOf_c7, strsOf_c8, intsOf_c0, intsOf_c1, intsOf_c2, intsOf_c3, intsOf_c4, intsOf_c5, intsOf_c6, intsOf_c7, intsOf_c8, blsOf_c0, blsOf_c1, blsOf_c2, blsOf_c3, blsOf_c4, blsOf_c5, blsOf_c6, blsOf_c7, blsOf_c8, ixN_30, ixN_31, ixN_32, wipeD, if_true, if_false, Bool.false_eq_true, Bool.true_eq_false, true_and, and_true, ρAdd_int, ρAdd_str, ρAdd_tup, ρAdd_lst, ρAdd_rl, ρI_int, ρI0_int, ρMul_int, ρMul_str, ρNeg_int, ρCmp_int, ρCmp_str, ρIsN_eq, ρNotN_eq, isNonD_bl, isNonD_int, isNonD_str, isNonD_tup, isNonD_lst, isNonD_ref, isNonD_non, ρSgn_one, ρAbs_int, ρMax_two, ρMin_two, ρMax_lst, ρMin_lst, ρInt_int, ρInt_bl, ρStr_int, ρLen_str, ρLen_tup, ρLen_lst, ρLen_ref, ρSum_lst, ρAll_lst, ρAny_lst, ρTupO_tup, ρTupO_lst, ρIsi_eq, is_non_int, is_non_bool, is_non_str, is_non_tuple, is_non_list, is_bl_int, is_bl_bool, is_bl_str, is_bl_tuple, is_bl_list, is_int_int, is_int_bool, is_int_str, is_int_tuple, is_int_list, is_str_int, is_str_bool, is_str_str, is_str_tuple, is_str_list, is_tup_int, is_tup_bool, is_tup_str, is_tup_tuple, is_tup_list, is_lst_int, is_lst_bool, is_lst_str, is_lst_tuple, is_lst_list, tyN_non, tyN_bl, tyN_int, tyN_str, tyN_tup, tyN_lst, ρIx_tup, ρIx_lst, ρIx_str, ρIx_ref, ρSl_str, ρSl_lst, ρSl_tup, ρApp_ref, θLst_ref, θStr_str, ςLst_ref, ρJoin_lst, γTup_tup, atI_0, atI_1, atI_2, atI_3, atI_4, atI_5, atI_6, atI_7, c_WIDTHS, sp_is_in_eq, sp_is_tuple_eq, sp_demand_eq, sp_is_bits_eq, sp_number_of_eq, sp_bits_of_eq, tset_del hL]
    refine ⟨?_, Fin.same hk⟩
    have e : ∀ l : List Nat, ((l.map fun (i : Nat) => strI (n / 2 ^ (m - 1 - (0 + (i : Int))).toNat % 2)).map (·.length)).sum ≤ l.length := fun l => by
      induction l with
      | nil => exact Nat.le_refl _
      | cons a l ih =>
        simp only [List.map_cons, List.sum_cons, List.length_cons]
        rw [strI01 (hp _)]
        omega
    have e2 := e (List.range m.toNat)
    rw [List.length_range] at e2
    simp only [List.length_map, List.length_range]
    have e3 : ("" : Str).length = 0 := by decide +kernel
    rw [e3]
    omega
/-! ### least_of -/
theorem sc_least_of : FnScope ["segment"] ["segment"] (defScope s_least_of) := ⟨rfl, rfl, rfl, by decide +kernel, rfl, by decide +kernel, by decide +kernel⟩
theorem bn_least_of (M : Mod K mg) : L2.Binds K M.f_least_of.choose ["segment"] [] := fun_binds M.f_least_of.choose_spec fun _ _ _ _ _ _ us hl => match us, hl with | [_], _ => rfl
def widthI (s : Int) : Int := if s = 0 then 2 else if s = 1 then 2 else if s = 2 then 4 else if s = 3 then 8 else if s = 4 then 16 else if s = 5 then 32 else if s = 6 then 64 else 128
def leastI (s : Int) : Int := if s = 0 then 0 else if s = 1 then 32 else if s = 2 then 64 else if s = 3 then 128 else if s = 4 then 256 else if s = 5 then 512 else if s = 6 then 1024 else 2048
theorem widthI_ok (s : Int) : 2 ≤ widthI s ∧ widthI s ≤ 128 := by unfold widthI; repeat (first | omega | split)
theorem leastI_ok (s : Int) : 0 ≤ leastI s ∧ leastI s ≤ 2048 := by unfold leastI; repeat (first | omega | split)
theorem eight {s : Int} (h : 0 ≤ s ∧ s < 8) : s = 0 ∨ s = 1 ∨ s = 2 ∨ s = 3 ∨ s = 4 ∨ s = 5 ∨ s = 6 ∨ s = 7 := by omega
theorem at_width {s : Int} (h : 0 ≤ s ∧ s < 8) : atI [D.int 2, .int 2, .int 4, .int 8, .int 16, .int 32, .int 64, .int 128] s = some (.int (widthI s)) := by
  rcases eight h with rfl | rfl | rfl | rfl | rfl | rfl | rfl | rfl <;> rfl
theorem least_w {s : Int} (h : 0 ≤ s ∧ s < 8) (h0 : s ≠ 0) : 16 * widthI s = leastI s := by
  rcases eight h with rfl | rfl | rfl | rfl | rfl | rfl | rfl | rfl <;> first | rfl | exact absurd rfl h0
theorem mul_ok {i j : Int} (h : 0 ≤ i ∧ i ≤ 1000000) : CMul i j := .inl ⟨by omega, by omega⟩
theorem div_ok {i j : Int} (h : 0 < j ∧ j ≤ 1000000) : CDiv i j := ⟨h.1, by omega⟩
def sp_least_of : SpD := fun τ ds k KE => match ds with
  | [.int s] => (0 ≤ s ∧ s < 8) ∧ k τ (.int (leastI s))
  | _ => False
theorem sp_least_of_eq {τ : TD} {k : DK} {KE : XD} {s : Int} : sp_least_of τ [.int s] k KE = ((0 ≤ s ∧ s < 8) ∧ k τ (.int (leastI s))) := rfl
theorem ok_least_of (M : Mod K mg) : FnD prog w K mg base (TT K) 2 (He.fAd K ("least_of", none)) M.f_least_of.choose ["segment"] sp_least_of := by
  refine fnD_of M.f_least_of.choose_spec sc_least_of fun KE => ⟨_, fun cdv A outer s H E hr => (pdss_one (pds_ret (pd_if (pdt_cmp (op_eqU (room_eq hr)) ok_eq (pd_var (pv 0)) pd_int (nomark _)) pd_int (pd_op op_mulU ok_mul (pd_glob (d := .int 16) (v := .int 16) rfl M.c_STEPS.choose_spec ⟨_, rfl⟩ fun _ _ => rfl) (pd_ix ix_seq ok_ix (pd_glob (d := c_WIDTHS) (v := .ref (He.ga K "WIDTHS")) rfl M.g_WIDTHS rfl fun _ _ => t_WIDTHS M) (pd_var (pv 0))))))), ?_⟩
  intro τ ds k hl h
  unfold sp_least_of at h
  split at h
  case h_2 => exact h.elim
  rename_i s
  obtain ⟨h0, hk⟩ := h
  simp only [dVar, dC, dOp, dUn, dTest_eq, dAnd, dOr, dNot, dAndV_eq, dOrV_eq, dNotV_eq, dIf, dChain_eq, dNil, dCons, dTup, dLst, dLstM, dCB, dBM, dNoPart, dPart_eq, dSl, dCall, dCallK, dNext, dBrk, dCnt, dSeq, dDrop, dRet, dRetN, dIfS, γName, γNil, γCons, γSub, dAsg, dPar, dAug, ιSeq_eq, ιRng1_eq, ιRng2_eq, dFor, dLc, dLcM, dYes, dT, dTold, onBl_eq, onInt_eq, onSeq_lst, onSeq_tup, onSeq_str, onSome_eq, lstAt_same, dRaise, startD, List.map_cons, List.map_nil, List.length_cons, List.length_nil, List.replicate_succ, List.replicate_zero, List.cons_append, List.nil_append, List.append_nil, List.getElem?_cons_zero, List.getElem?_cons_succ, List.set_cons_zero, List.set_cons_succ, Nat.reduceAdd, Nat.reduceSub, Nat.zero_add, Nat.sub_self, ρEq_int, ρEq_str, ρEq_bl, ρNe_int, ρNe_str, ρNe_bl, ρEq_t3, ρNe_t3, ρEq_t2, ρNe_t2, intsOf_mapf, strsOf_mapf, blsOf_mapf, gK_01_0, gK_02_01, gK_02_10, gK_03_012, gK_03_021, gK_03_102, gK_03_120, gK_03_201, gK_03_210, gK_11_0, gK_12_01, gK_12_10, gK_13_012, gK_13_021, gK_13_102, gK_13_120, gK_13_201, gK_13_210, eq_self, Bool.not_true, Bool.not_false, decide_true, decide_false, strsOf_c0, strsOf_c1, strsOf_c2, strsOf_c3, strsOf_c4, strsOf_c5, strsOf_c6, strsOf_c7, strsOf_c8, intsOf_c0, intsOf_c1, intsOf_c2, intsOf_c3, intsOf_c4, intsOf_c5, intsOf_c6, intsOf_c7, intsOf_c8, blsOf_c0, blsOf_c1, blsOf_c2, blsOf_c3, blsOf_c4, blsOf_c5, blsOf_c6, blsOf_c7, blsOf_c8, ixN_30, ixN_31, ixN_32, wipeD, if_true, if_false, Bool.false_eq_true, Bool.true_eq_false, true_and, and_true, ρAdd_int, ρAdd_str, ρAdd_tup, ρAdd_lst, ρAdd_rl, ρI_int, ρI0_int, ρMul_int, ρMul_str, ρNeg_int, ρCmp_int, ρCmp_str, ρIsN_eq, ρNotN_eq, isNonD_bl, isNonD_int, isNonD_str, isNonD_tup, isNonD_lst, isNonD_ref, isNonD_non, ρSgn_one, ρAbs_int, ρMax_two, ρMin_two, ρMax_lst, ρMin_lst, ρInt_int, ρInt_bl, ρStr_int, ρLen_str, ρLen_tup, ρLen_lst, ρLen_ref, ρSum_lst, ρAll_lst, ρAny_lst, ρTupO_tup, ρTupO_lst, ρIsi_eq, is_non_int, is_non_bool, is_non_str, is_non_tuple, is_non_list, is_bl_int, is_bl_bool, is_bl_str, is_bl_tuple, is_bl_list, is_int_int, is_int_bool, is_int_str, is_int_tuple, is_int_list, is_str_int, is_str_bool, is_str_str, is_str_tuple, is_str_list, is_tup_int, is_tup_bool, is_tup_str, is_tup_tuple, is_tup_list, is_lst_int, is_lst_bool, is_lst_str, is_lst_tuple, is_lst_list, tyN_non, tyN_bl, tyN_int, tyN_str, tyN_tup, tyN_lst, ρIx_tup, ρIx_lst, ρIx_str, ρIx_ref, ρSl_str, ρSl_lst, ρSl_tup, ρApp_ref, θLst_ref, θStr_str, ςLst_ref, ρJoin_lst, γTup_tup, atI_0, atI_1, atI_2, atI_3, atI_4, atI_5, atI_6, atI_7, c_WIDTHS, sp_is_in_eq, sp_is_tuple_eq, sp_demand_eq, sp_is_bits_eq, sp_number_of_eq, sp_bits_of_eq, sp_least_of_eq, at_width h0]
  by_cases e : s = 0
  · subst e
    simp only [decide_true, if_true]
    exact Fin.same hk
  · simp only [e, decide_false, Bool.false_eq_true, if_false]
    refine ⟨mul_ok ⟨by decide, by decide⟩, Fin.same ?_⟩
    rw [least_w h0 e]
    exact hk
/-! ### code_of -/
theorem sc_code_of : FnScope ["sample", "size", "segment", "at"] ["sample"] (defScope s_code_of) := ⟨rfl, rfl, rfl, by decide +kernel, rfl, by decide +kernel, by decide +kernel⟩
theorem bn_code_of (M : Mod K mg) : L2.Binds K M.f_code_of.choose ["sample"] [] := fun_binds M.f_code_of.choose_spec fun _ _ _ _ _ _ us hl => match us, hl with | [_], _ => rfl
def absI (s : Int) : Int := if s < 0 then -s else s
def segI (z : Int) : Int := if 2048 ≤ z then 7 else if 1024 ≤ z then 6 else if 512 ≤ z then 5 else if 256 ≤ z then 4 else if 128 ≤ z then 3 else if 64 ≤ z then 2 else if 32 ≤ z then 1 else 0
def stepI (z : Int) : Int := (z - leastI (segI z)) / widthI (segI z)
def sgnI (s : Int) : Int := if decide (s < 0) = true then 1 else 0
theorem segI_ok (z : Int) : 0 ≤ segI z ∧ segI z < 8 := by unfold segI; repeat (first | omega | split)
def segF (z : Int) (i : Nat) : Option D := if decide (leastI (0 + (i : Int)) ≤ z) = true then some (.int (0 + (i : Int))) else none
theorem seg_list {z : Int} (h0 : 0 ≤ z) : ∃ ns, intsOf ((List.range 8).filterMap (segF z)) = some ns ∧ maxL ns = some (segI z) := by
  have hr : List.range 8 = [0, 1, 2, 3, 4, 5, 6, 7] := rfl
  have hs : (List.range 8).filterMap (segF z) = ([0, 1, 2, 3, 4, 5, 6, 7] : List Nat).filterMap (segF z) := by rw [hr]
  have f0 : segF z 0 = if (0 : Int) ≤ z then some (.int 0) else none := by unfold segF; simp [leastI]
  have f1 : segF z 1 = if (32 : Int) ≤ z then some (.int 1) else none := by unfold segF; simp [leastI]
  have f2 : segF z 2 = if (64 : Int) ≤ z then some (.int 2) else none := by unfold segF; simp [leastI]
  have f3 : segF z 3 = if (128 : Int) ≤ z then some (.int 3) else none := by unfold segF; simp [leastI]
  have f4 : segF z 4 = if (256 : Int) ≤ z then some (.int 4) else none := by unfold segF; simp [leastI]
  have f5 : segF z 5 = if (512 : Int) ≤ z then some (.int 5) else none := by unfold segF; simp [leastI]
  have f6 : segF z 6 = if (1024 : Int) ≤ z then some (.int 6) else none := by unfold segF; simp [leastI]
  have f7 : segF z 7 = if (2048 : Int) ≤ z then some (.int 7) else none := by unfold segF; simp [leastI]
  rw [hs]
  simp only [List.filterMap_cons, List.filterMap_nil, f0, f1, f2, f3, f4, f5, f6, f7, h0, if_true]
  have hz : z < 32 ∨ (32 ≤ z ∧ z < 64) ∨ (64 ≤ z ∧ z < 128) ∨ (128 ≤ z ∧ z < 256) ∨ (256 ≤ z ∧ z < 512) ∨ (512 ≤ z ∧ z < 1024) ∨ (1024 ≤ z ∧ z < 2048) ∨ 2048 ≤ z := by omega
  rcases hz with hz | hz | hz | hz | hz | hz | hz | hz
  · simp only [show ¬ (32 : Int) ≤ z from by omega, show ¬ (64 : Int) ≤ z from by omega, show ¬ (128 : Int) ≤ z from by omega, show ¬ (256 : Int) ≤ z from by omega, show ¬ (512 : Int) ≤ z from by omega, show ¬ (1024 : Int) ≤ z from by omega, show ¬ (2048 : Int) ≤ z from by omega, if_true, if_false]
    refine ⟨[0], rfl, ?_⟩
    have e : segI z = 0 := by unfold segI; (repeat (first | rw [if_pos (by omega)] | rw [if_neg (by omega)]))
    rw [e]
    rfl
  · simp only [show (32 : Int) ≤ z from by omega, show ¬ (64 : Int) ≤ z from by omega, show ¬ (128 : Int) ≤ z from by omega, show ¬ (256 : Int) ≤ z from by omega, show ¬ (512 : Int) ≤ z from by omega, show ¬ (1024 : Int) ≤ z from by omega, show ¬ (2048 : Int) ≤ z from by omega, if_true, if_false]
    refine ⟨[0, 1], rfl, ?_⟩
    have e : segI z = 1 := by unfold segI; (repeat (first | rw [if_pos (by omega)] | rw [if_neg (by omega)]))
    rw [e]
    rfl
  · simp only [show (32 : Int) ≤ z from by omega, show (64 : Int) ≤ z from by omega, show ¬ (128 : Int) ≤ z from by omega, show ¬ (256 : Int) ≤ z from by omega, show ¬ (512 : Int) ≤ z from by omega, show ¬ (1024 : Int) ≤ z from by omega, show ¬ (2048 : Int) ≤ z from by omega, if_true, if_false]
    refine ⟨[0, 1, 2], rfl, ?_⟩
    have e : segI z = 2 := by unfold segI; (repeat (first | rw [if_pos (by omega)] | rw [if_neg (by omega)]))
    rw [e]
    rfl
  · simp only [show (32 : Int) ≤ z from by omega, show (64 : Int) ≤ z from by omega, show (128 : Int) ≤ z from by omega, show ¬ (256 : Int) ≤ z from by omega, show ¬ (512 : Int) ≤ z from by omega, show ¬ (1024 : Int) ≤ z from by omega, show ¬ (2048 : Int) ≤ z from by omega, if_true, if_false]
    refine ⟨[0, 1, 2, 3], rfl, ?_⟩
    have e : segI z = 3 := by unfold segI; (repeat (first | rw [if_pos (by omega)] | rw [if_neg (by omega)]))
    rw [e]
    rfl
  · simp only [show (32 : Int) ≤ z from by omega, show (64 : Int) ≤ z from by omega, show (128 : Int) ≤ z from by omega, show (256 : Int) ≤ z from by omega, show ¬ (512 : Int) ≤ z from by omega, show ¬ (1024 : Int) ≤ z from by omega, show ¬ (2048 : Int) ≤ z from by omega, if_true, if_false]
    refine ⟨[0, 1, 2, 3, 4], rfl, ?_⟩
    have e : segI z = 4 := by unfold segI; (repeat (first | rw [if_pos (by omega)] | rw [if_neg (by omega)]))
    rw [e]
    rfl
  · simp only [show (32 : Int) ≤ z from by omega, show (64 : Int) ≤ z from by omega, show (128 : Int) ≤ z from by omega, show (256 : Int) ≤ z from by omega, show (512 : Int) ≤ z from by omega, show ¬ (1024 : Int) ≤ z from by omega, show ¬ (2048 : Int) ≤ z from by omega, if_true, if_false]
    refine ⟨[0, 1, 2, 3, 4, 5], rfl, ?_⟩
    have e : segI z = 5 := by unfold segI; (repeat (first | rw [if_pos (by omega)] | rw [if_neg (by omega)]))
    rw [e]
    rfl
  · simp only [show (32 : Int) ≤ z from by omega, show (64 : Int) ≤ z from by omega, show (128 : Int) ≤ z from by omega, show (256 : Int) ≤ z from by omega, show (512 : Int) ≤ z from by omega, show (1024 : Int) ≤ z from by omega, show ¬ (2048 : Int) ≤ z from by omega, if_true, if_false]
    refine ⟨[0, 1, 2, 3, 4, 5, 6], rfl, ?_⟩
    have e : segI z = 6 := by unfold segI; (repeat (first | rw [if_pos (by omega)] | rw [if_neg (by omega)]))
    rw [e]
    rfl
  · simp only [show (32 : Int) ≤ z from by omega, show (64 : Int) ≤ z from by omega, show (128 : Int) ≤ z from by omega, show (256 : Int) ≤ z from by omega, show (512 : Int) ≤ z from by omega, show (1024 : Int) ≤ z from by omega, show (2048 : Int) ≤ z from by omega, if_true, if_false]
    refine ⟨[0, 1, 2, 3, 4, 5, 6, 7], rfl, ?_⟩
    have e : segI z = 7 := by unfold segI; (repeat (first | rw [if_pos (by omega)] | rw [if_neg (by omega)]))
    rw [e]
    rfl
def sp_code_of : SpD := fun τ ds k KE => match ds with
  | [.int s] => (-4095 ≤ s ∧ s ≤ 4095) ∧ k τ (.tup [.int (sgnI s), .int (segI (absI s)), .int (stepI (absI s))])
  | _ => False
theorem sp_code_of_eq {τ : TD} {k : DK} {KE : XD} {s : Int} : sp_code_of τ [.int s] k KE = ((-4095 ≤ s ∧ s ≤ 4095) ∧ k τ (.tup [.int (sgnI s), .int (segI (absI s)), .int (stepI (absI s))])) := rfl
theorem ok_code_of (M : Mod K mg) : FnD prog w K mg base (TT K) 3 (He.fAd K ("code_of", none)) M.f_code_of.choose ["sample"] sp_code_of := by
  refine fnD_of M.f_code_of.choose_spec sc_code_of fun KE => ⟨_, fun cdv A outer s H E hr => (pdss_cons (pds_set (i := 1) sc_code_of.nd rfl (by first | exact .inl rfl | exact .inr rfl) (pd_callB cr_abs ok_abs rfl M.b_abs boot_abs (pda_cons (pd_var (pv 0)) pda_nil))) (pdss_cons (pds_set (i := 2) sc_code_of.nd rfl (by first | exact .inl rfl | exact .inr rfl) (pd_callB (cr_maxU rfl) ok_max rfl M.b_max boot_max (pda_cons (pd_lc rfl sc_code_of.nd (pdi_range1 rfl M.b_range (pda_cons (pd_callB cr_len ok_len rfl M.b_len boot_len (pda_cons (pd_glob (d := c_WIDTHS) (v := .ref (He.ga K "WIDTHS")) rfl M.g_WIDTHS rfl fun _ _ => t_WIDTHS M) pda_nil)) pda_nil)) (show BlkOk ["sample", "size", "segment", "at"] (defScope s_code_of) _ [("at", 3)] from blk_of (by decide +kernel)) (fun _ _ _ _ _ => pdn_name (i := 3) sc_code_of.nd rfl (.inl rfl) (by decide)) (fun _ _ _ _ _ => pdts_one (pdt_cmp op_leU ok_cmp (pd_call (ok_least_of M) (hr.mono (by decide)) rfl M.g_least_of M.f_least_of.choose_spec.kp (bn_least_of M) .nil .nil passL (pda_cons (pd_var (pv 3)) pda_nil)) (pd_var (pv 1)) (nomark _))) (fun _ _ _ _ _ => (pd_var (pv 3)))) pda_nil))) (pdss_one (pds_ret (pd_tup (pda_cons (pd_callTy cr_int ok_int rfl M.b_int boot_int (pda_cons (pd_cmp op_ltU ok_cmp (pd_var (pv 0)) pd_int (nomark _)) pda_nil)) (pda_cons (pd_var (pv 2)) (pda_cons (pd_op op_fdiv ok_div (pd_op op_sub ok_sub (pd_var (pv 1)) (pd_call (ok_least_of M) (hr.mono (by decide)) rfl M.g_least_of M.f_least_of.choose_spec.kp (bn_least_of M) .nil .nil passD (pda_cons (pd_var (pv 2)) pda_nil))) (pd_ix ix_seq ok_ix (pd_glob (d := c_WIDTHS) (v := .ref (He.ga K "WIDTHS")) rfl M.g_WIDTHS rfl fun _ _ => t_WIDTHS M) (pd_var (pv 2)))) pda_nil)))))))), ?_⟩
  intro τ ds k hl h
  unfold sp_code_of at h
  split at h
  case h_2 => exact h.elim
  rename_i s
  obtain ⟨h0, hk⟩ := h
  simp only [dVar, dC, dOp, dUn, dTest_eq, dAnd, dOr, dNot, dAndV_eq, dOrV_eq, dNotV_eq, dIf, dChain_eq, dNil, dCons, dTup, dLst, dLstM, dCB, dBM, dNoPart, dPart_eq, dSl, dCall, dCallK, dNext, dBrk, dCnt, dSeq, dDrop, dRet, dRetN, dIfS, γName, γNil, γCons, γSub, dAsg, dPar, dAug, ιSeq_eq, ιRng1_eq, ιRng2_eq, dFor, dLc, dLcM, dYes, dT, dTold, onBl_eq, onInt_eq, onSeq_lst, onSeq_tup, onSeq_str, onSome_eq, lstAt_same, dRaise, startD, List.map_cons, List.map_nil, List.length_cons, List.length_nil, List.replicate_succ, List.replicate_zero, List.cons_append, List.nil_append, List.append_nil, List.getElem?_cons_zero, List.getElem?_cons_succ, List.set_cons_zero, List.set_cons_succ, Nat.reduceAdd, Nat.reduceSub, Nat.zero_add, Nat.sub_self, ρEq_int, ρEq_str, ρEq_bl, ρNe_int, ρNe_str, ρNe_bl, ρEq_t3, ρNe_t3, ρEq_t2, ρNe_t2, intsOf_mapf, strsOf_mapf, blsOf_mapf, gK_01_0, gK_02_01, gK_02_10, gK_03_012, gK_03_021, gK_03_102, gK_03_120, gK_03_201, gK_03_210, gK_11_0, gK_12_01, gK_12_10, gK_13_012, gK_13_021, gK_13_102, gK_13_120, gK_13_201, gK_13_210, eq_self, Bool.not_true, Bool.not_false, decide_true, decide_false, strsOf_c0, strsOf_c1, strsOf_c2, strsOf_c3, strsOf_c4, strsOf_c5, strsOf_c6, strsOf_c7, strsOf_c8, intsOf_c0, intsOf_c1, intsOf_c2, intsOf_c3, intsOf_c4, intsOf_c5, intsOf_c6, intsOf_c7, intsOf_c8, blsOf_c0, blsOf_c1, blsOf_c2, blsOf_c3, blsOf_c4, blsOf_c5, blsOf_c6, blsOf_c7, blsOf_c8, ixN_30, ixN_31, ixN_32, wipeD, if_true, if_false, Bool.false_eq_true, Bool.true_eq_false, true_and, and_true, ρAdd_int, ρAdd_str, ρAdd_tup, ρAdd_lst, ρAdd_rl, ρI_int, ρI0_int, ρMul_int, ρMul_str, ρNeg_int, ρCmp_int, ρCmp_str, ρIsN_eq, ρNotN_eq, isNonD_bl, isNonD_int, isNonD_str, isNonD_tup, isNonD_lst, isNonD_ref, isNonD_non, ρSgn_one, ρAbs_int, ρMax_two, ρMin_two, ρMax_lst, ρMin_lst, ρInt_int, ρInt_bl, ρStr_int, ρLen_str, ρLen_tup, ρLen_lst, ρLen_ref, ρSum_lst, ρAll_lst, ρAny_lst, ρTupO_tup, ρTupO_lst, ρIsi_eq, is_non_int, is_non_bool, is_non_str, is_non_tuple, is_non_list, is_bl_int, is_bl_bool, is_bl_str, is_bl_tuple, is_bl_list, is_int_int, is_int_bool, is_int_str, is_int_tuple, is_int_list, is_str_int, is_str_bool, is_str_str, is_str_tuple, is_str_list, is_tup_int, is_tup_bool, is_tup_str, is_tup_tuple, is_tup_list, is_lst_int, is_lst_bool, is_lst_str, is_lst_tuple, is_lst_list, tyN_non, tyN_bl, tyN_int, tyN_str, tyN_tup, tyN_lst, ρIx_tup, ρIx_lst, ρIx_str, ρIx_ref, ρSl_str, ρSl_lst, ρSl_tup, ρApp_ref, θLst_ref, θStr_str, ςLst_ref, ρJoin_lst, γTup_tup, atI_0, atI_1, atI_2, atI_3, atI_4, atI_5, atI_6, atI_7, c_WIDTHS, sp_is_in_eq, sp_is_tuple_eq, sp_demand_eq, sp_is_bits_eq, sp_number_of_eq, sp_bits_of_eq, sp_least_of_eq, sp_code_of_eq]
  refine ⟨⟨by decide, by decide⟩, fun L hL => ?_⟩
  have ha : (if s < 0 then -s else s) = absI s := rfl
  have h1 : 0 ≤ absI s ∧ absI s ≤ 4095 := by unfold absI; split <;> omega
  rw [ha]
  refine lc_fm (l := List.range 8) (g := fun (i : Nat) => .int (0 + (i : Int))) (segF (absI s)) (by rw [List.length_range]; exact sz1000 (by decide)) (fun c hc τ' k' hk' => ?_) ?_
  · have hc : c < 8 := by simpa using hc
    simp only [dVar, dC, dOp, dUn, dTest_eq, dAnd, dOr, dNot, dAndV_eq, dOrV_eq, dNotV_eq, dIf, dChain_eq, dNil, dCons, dTup, dLst, dLstM, dCB, dBM, dNoPart, dPart_eq, dSl, dCall, dCallK, dNext, dBrk, dCnt, dSeq, dDrop, dRet, dRetN, dIfS, γName, γNil, γCons, γSub, dAsg, dPar, dAug, ιSeq_eq, ιRng1_eq, ιRng2_eq, dFor, dLc, dLcM, dYes, dT, dTold, onBl_eq, onInt_eq, onSeq_lst, onSeq_tup, onSeq_str, onSome_eq, lstAt_same, dRaise, startD, List.map_cons, List.map_nil, List.length_cons, List.length_nil, List.replicate_succ, List.replicate_zero, List.cons_append, List.nil_append, List.append_nil, List.getElem?_cons_zero, List.getElem?_cons_succ, List.set_cons_zero, List.set_cons_succ, Nat.reduceAdd, Nat.reduceSub, Nat.zero_add, Nat.sub_self, ρEq_int, ρEq_str, ρEq_bl, ρNe_int, ρNe_str, ρNe_bl, ρEq_t3, ρNe_t3, ρEq_t2, ρNe_t2, intsOf_mapf, strsOf_mapf, blsOf_mapf, gK_01_0, gK_02_01, gK_02_10, gK_03_012, gK_03_021, gK_03_102, gK_03_120, gK_03_201, gK_03_210, gK_11_0, gK_12_01, gK_12_10, gK_13_012, gK_13_021, gK_13_102, gK_13_120, gK_13_201, gK_13_210, eq_self, Bool.not_true, Bool.not_false, decide_true, decide_false, strsOf_c0, strsOf_c1, strsOf_c2, strsOf_c3, strsOf_c4, strsOf_c5, strsOf_c6, strsOf_c7, strsOf_c8, intsOf_c0, intsOf_c1, intsOf_c2, intsOf_c3, intsOf_c4, intsOf_c5, intsOf_c6, intsOf_c7, intsOf_c8, blsOf_c0, blsOf_c1, blsOf_c2, blsOf_c3, blsOf_c4, blsOf_c5, blsOf_c6, blsOf_c7, blsOf_c8, ixN_30, ixN_31, ixN_32, wipeD, if_true, if_false, Bool.false_eq_true, Bool.true_eq_false, true_and, and_true, ρAdd_int, ρAdd_str, ρAdd_tup, ρAdd_lst, ρAdd_rl, ρI_int, ρI0_int, ρMul_int, ρMul_str, ρNeg_int, ρCmp_int, ρCmp_str, ρIsN_eq, ρNotN_eq, isNonD_bl, isNonD_int, isNonD_str, isNonD_tup, isNonD_lst, isNonD_ref, isNonD_non, ρSgn_one, ρAbs_int, ρMax_two, ρMin_two, ρMax_lst, ρMin_lst, ρInt_int, ρInt_bl, ρStr_int, ρLen_str, ρLen_tup, ρLen_lst, ρLen_ref, ρSum_lst, ρAll_lst, ρAny_lst, ρTupO_tup, ρTupO_lst, ρIsi_eq, is_non_int, is_non_bool, is_non_str, is_non_tuple, is_non_list, is_bl_int, is_bl_bool, is_bl_str, is_bl_tuple, is_bl_list, is_int_int, is_int_bool, is_int_str, is_int_tuple, is_int_list, is_str_int, is_str_bool, is_str_str, is_str_tuple, is_str_list, is_tup_int, is_tup_bool, is_tup_str, is_tup_tuple, is_tup_list, is_lst_int, is_lst_bool, is_lst_str, is_lst_tuple, is_lst_list, tyN_non, tyN_bl, tyN_int, tyN_str, tyN_tup, tyN_lst, ρIx_tup, ρIx_lst, ρIx_str, ρIx_ref, ρSl_str, ρSl_lst, ρSl_tup, ρApp_ref, θLst_ref, θStr_str, ςLst_ref, ρJoin_lst, γTup_tup, atI_0, atI_1, atI_2, atI_3, atI_4, atI_5, atI_6, atI_7, c_WIDTHS, sp_is_in_eq, sp_is_tuple_eq, sp_demand_eq, sp_is_bits_eq, sp_number_of_eq, sp_bits_of_eq, sp_least_of_eq, sp_code_of_eq]
    refine ⟨⟨by omega, by omega⟩, ?_⟩
    unfold segF at hk'
    split
    · rename_i e
      rw [if_pos e] at hk'
      exact hk'
    · rename_i e
      rw [if_neg e] at hk'
      exact hk'
  · obtain ⟨ns, e1, e2⟩ := seg_list h1.1
    have h2 := segI_ok (absI s)
    have h3 := widthI_ok (segI (absI s))
    simp only [dVar, dC, dOp, dUn, dTest_eq, dAnd, dOr, dNot, dAndV_eq, dOrV_eq, dNotV_eq, dIf, dChain_eq, dNil, dCons, dTup, dLst, dLstM, dCB, dBM, dNoPart, dPart_eq, dSl, dCall, dCallK, dNext, dBrk, dCnt, dSeq, dDrop, dRet, dRetN, dIfS, γName, γNil, γCons, γSub, dAsg, dPar, dAug, ιSeq_eq, ιRng1_eq, ιRng2_eq, dFor, dLc, dLcM, dYes, dT, dTold, onBl_eq, onInt_eq, onSeq_lst, onSeq_tup, onSeq_str, onSome_eq, lstAt_same, dRaise, startD, List.map_cons, List.map_nil, List.length_cons, List.length_nil, List.replicate_succ, List.replicate_zero, List.cons_append, List.nil_append, List.append_nil, List.getElem?_cons_zero, List.getElem?_cons_succ, List.set_cons_zero, List.set_cons_succ, Nat.reduceAdd, Nat.reduceSub, Nat.zero_add, Nat.sub_self, ρEq_int, ρEq_str, ρEq_bl, ρNe_int, ρNe_str, ρNe_bl, ρEq_t3, ρNe_t3, ρEq_t2, ρNe_t2, intsOf_mapf, strsOf_mapf, blsOf_mapf, gK_01_0, gK_02_01, gK_02_10, gK_03_012, gK_03_021, gK_03_102, gK_03_120, gK_03_201, gK_03_210, gK_11_0, gK_12_01, gK_12_10, gK_13_012, gK_13_021, gK_13_102, gK_13_120, gK_13_201, gK_13_210, eq_self, Bool.not_true, Bool.not_false, decide_true, decide_false, strsOf_c0, strsOf_c1, strsOf_c2, strsOf_c3, strsOf_c4, strsOf_c5, strsOf_c6, strsOf_c7, strsOf_c8, intsOf_c0, intsOf_c1, intsOf_c2, intsOf_c3, intsOf_c4, intsOf_c5, intsOf_c6, intsOf_c7, intsOf_c8, blsOf_c0, blsOf_c1, blsOf_c2, blsOf_c3, blsOf_c4, blsOf_c5, blsOf_c6, blsOf_c7, blsOf_c8, ixN_30, ixN_31, ixN_32, wipeD, if_true, if_false, Bool.false_eq_true, Bool.true_eq_false, true_and, and_true, ρAdd_int, ρAdd_str, ρAdd_tup, ρAdd_lst, ρAdd_rl, ρI_int, ρI0_int, ρMul_int, ρMul_str, ρNeg_int, ρCmp_int, ρCmp_str, ρIsN_eq, ρNotN_eq, isNonD_bl, isNonD_int, isNonD_str, isNonD_tup, isNonD_lst, isNonD_ref, isNonD_non, ρSgn_one, ρAbs_int, ρMax_two, ρMin_two, ρMax_lst, ρMin_lst, ρInt_int, ρInt_bl, ρStr_int, ρLen_str, ρLen_tup, ρLen_lst, ρLen_ref, ρSum_lst, ρAll_lst, ρAny_lst, ρTupO_tup, ρTupO_lst, ρIsi_eq, is_non_int, is_non_bool, is_non_str, is_non_tuple, is_non_list, is_bl_int, is_bl_bool, is_bl_str, is_bl_tuple, is_bl_list, is_int_int, is_int_bool, is_int_str, is_int_tuple, is_int_list, is_str_int, is_str_bool, is_str_str, is_str_tuple, is_str_list, is_tup_int, is_tup_bool, is_tup_str, is_tup_tuple, is_tup_list, is_lst_int, is_lst_bool, is_lst_str, is_lst_tuple, is_lst_list, tyN_non, tyN_bl, tyN_int, tyN_str, tyN_tup, tyN_lst, ρIx_tup, ρIx_lst, ρIx_str, ρIx_ref, ρSl_str, ρSl_lst, ρSl_tup, ρApp_ref, θLst_ref, θStr_str, ςLst_ref, ρJoin_lst, γTup_tup, atI_0, atI_1, atI_2, atI_3, atI_4, atI_5, atI_6, atI_7, c_WIDTHS, sp_is_in_eq, sp_is_tuple_eq, sp_demand_eq, sp_is_bits_eq, sp_number_of_eq, sp_bits_of_eq, sp_least_of_eq, sp_code_of_eq, tset_del hL, e1, e2, at_width h2]
    refine ⟨h2, div_ok ⟨by omega, by omega⟩, by rw [sizeLine_eq]; decide, Fin.same hk⟩
/-! ### code -/
theorem sc_code : FnScope ["sample"] ["sample"] (defScope s_code) := ⟨rfl, rfl, rfl, by decide +kernel, rfl, by decide +kernel, by decide +kernel⟩
theorem bn_code (M : Mod K mg) : L2.Binds K M.f_code.choose ["sample"] [] := fun_binds M.f_code.choose_spec fun _ _ _ _ _ _ us hl => match us, hl with | [_], _ => rfl
def codeD (v : D) : D := match v with
  | .int s => .tup [.int (sgnI s), .int (segI (absI s)), .int (stepI (absI s))]
  | _ => .non
theorem isInD_int {v : D} {lo hi : Int} (h : isInD v lo hi = true) : ∃ i, v = .int i ∧ lo ≤ i ∧ i ≤ hi := by
  cases v <;> first | (cases h; done) | skip
  rename_i i
  simp only [isInD, Bool.and_eq_true, decide_eq_true_eq] at h
  exact ⟨i, rfl, h.1, h.2⟩
def sp_code (K : PySem.W.Frag) : SpD := fun τ ds k KE => match ds with
  | [v] => (tyN v).isSome = true ∧ (if isInD v (-4095) 4095 = true then k τ (codeD v) else KE τ (He.ga K "BadArgument") "name" (.str "sample"))
  | _ => False
theorem sp_code_eq (K : PySem.W.Frag) {τ : TD} {k : DK} {KE : XD} {v : D} : sp_code K τ [v] k KE = ((tyN v).isSome = true ∧ (if isInD v (-4095) 4095 = true then k τ (codeD v) else KE τ (He.ga K "BadArgument") "name" (.str "sample"))) := rfl
theorem ok_code (M : Mod K mg) : FnD prog w K mg base (TT K) 4 (He.fAd K ("code", none)) M.f_code.choose ["sample"] (sp_code K) := by
  refine fnD_of M.f_code.choose_spec sc_code fun KE => ⟨_, fun cdv A outer s H E hr => (pdss_cons (pds_expr (pd_call (ok_demand M) (hr.mono (by decide)) rfl M.g_demand M.f_demand.choose_spec.kp (bn_demand M) .nil .nil passD (pda_cons (pd_call (ok_is_in M) (hr.mono (by decide)) rfl M.g_is_in M.f_is_in.choose_spec.kp (bn_is_in M) .nil .nil passD (pda_cons (pd_var (pv 0)) (pda_cons (pd_un un_neg ok_neg (pd_glob (d := .int 4095) (v := .int 4095) rfl M.c_MOST_SAMPLE.choose_spec ⟨_, rfl⟩ fun _ _ => rfl)) (pda_cons (pd_glob (d := .int 4095) (v := .int 4095) rfl M.c_MOST_SAMPLE.choose_spec ⟨_, rfl⟩ fun _ _ => rfl) pda_nil)))) (pda_cons pd_str pda_nil)))) (pdss_one (pds_ret (pd_call (ok_code_of M) (hr.mono (by decide)) rfl M.g_code_of M.f_code_of.choose_spec.kp (bn_code_of M) .nil .nil passD (pda_cons (pd_var (pv 0)) pda_nil))))), ?_⟩
  intro τ ds k hl h
  unfold sp_code at h
  split at h
  case h_2 => exact h.elim
  rename_i v
  obtain ⟨hv, hk⟩ := h
  simp only [dVar, dC, dOp, dUn, dTest_eq, dAnd, dOr, dNot, dAndV_eq, dOrV_eq, dNotV_eq, dIf, dChain_eq, dNil, dCons, dTup, dLst, dLstM, dCB, dBM, dNoPart, dPart_eq, dSl, dCall, dCallK, dNext, dBrk, dCnt, dSeq, dDrop, dRet, dRetN, dIfS, γName, γNil, γCons, γSub, dAsg, dPar, dAug, ιSeq_eq, ιRng1_eq, ιRng2_eq, dFor, dLc, dLcM, dYes, dT, dTold, onBl_eq, onInt_eq, onSeq_lst, onSeq_tup, onSeq_str, onSome_eq, lstAt_same, dRaise, startD, List.map_cons, List.map_nil, List.length_cons, List.length_nil, List.replicate_succ, List.replicate_zero, List.cons_append, List.nil_append, List.append_nil, List.getElem?_cons_zero, List.getElem?_cons_succ, List.set_cons_zero, List.set_cons_succ, Nat.reduceAdd, Nat.reduceSub, Nat.zero_add, Nat.sub_self, ρEq_int, ρEq_str, ρEq_bl, ρNe_int, ρNe_str, ρNe_bl, ρEq_t3, ρNe_t3, ρEq_t2, ρNe_t2, intsOf_mapf, strsOf_mapf, blsOf_mapf, gK_01_0, gK_02_01, gK_02_10, gK_03_012, gK_03_021, gK_03_102, gK_03_120, gK_03_201, gK_03_210, gK_11_0, gK_12_01, gK_12_10, gK_13_012, gK_13_021, gK_13_102, gK_13_120, gK_13_201, gK_13_210, eq_self, Bool.not_true, Bool.not_false, decide_true, decide_false, strsOf_c0, strsOf_c1, strsOf_c2, strsOf_c3, strsOf_c4, strsOf_c5, strsOf_c6, strsOf_c7, strsOf_c8, intsOf_c0, intsOf_c1, intsOf_c2, intsOf_c3, intsOf_c4, intsOf_c5, intsOf_c6, intsOf_c7, intsOf_c8, blsOf_c0, blsOf_c1, blsOf_c2, blsOf_c3, blsOf_c4, blsOf_c5, blsOf_c6, blsOf_c7, blsOf_c8, ixN_30, ixN_31, ixN_32, wipeD, if_true, if_false, Bool.false_eq_true, Bool.true_eq_false, true_and, and_true, ρAdd_int, ρAdd_str, ρAdd_tup, ρAdd_lst, ρAdd_rl, ρI_int, ρI0_int, ρMul_int, ρMul_str, ρNeg_int, ρCmp_int, ρCmp_str, ρIsN_eq, ρNotN_eq, isNonD_bl, isNonD_int, isNonD_str, isNonD_tup, isNonD_lst, isNonD_ref, isNonD_non, ρSgn_one, ρAbs_int, ρMax_two, ρMin_two, ρMax_lst, ρMin_lst, ρInt_int, ρInt_bl, ρStr_int, ρLen_str, ρLen_tup, ρLen_lst, ρLen_ref, ρSum_lst, ρAll_lst, ρAny_lst, ρTupO_tup, ρTupO_lst, ρIsi_eq, is_non_int, is_non_bool, is_non_str, is_non_tuple, is_non_list, is_bl_int, is_bl_bool, is_bl_str, is_bl_tuple, is_bl_list, is_int_int, is_int_bool, is_int_str, is_int_tuple, is_int_list, is_str_int, is_str_bool, is_str_str, is_str_tuple, is_str_list, is_tup_int, is_tup_bool, is_tup_str, is_tup_tuple, is_tup_list, is_lst_int, is_lst_bool, is_lst_str, is_lst_tuple, is_lst_list, tyN_non, tyN_bl, tyN_int, tyN_str, tyN_tup, tyN_lst, ρIx_tup, ρIx_lst, ρIx_str, ρIx_ref, ρSl_str, ρSl_lst, ρSl_tup, ρApp_ref, θLst_ref, θStr_str, ςLst_ref, ρJoin_lst, γTup_tup, atI_0, atI_1, atI_2, atI_3, atI_4, atI_5, atI_6, atI_7, c_WIDTHS, sp_is_in_eq, sp_is_tuple_eq, sp_demand_eq, sp_is_bits_eq, sp_number_of_eq, sp_bits_of_eq, sp_least_of_eq, sp_code_of_eq, sp_code_eq]
  refine ⟨hv, ?_⟩
  by_cases e : isInD v (-4095) 4095 = true
  · rw [if_pos e] at hk ⊢
    obtain ⟨s, rfl, h1, h2⟩ := isInD_int e
    simp only [dVar, dC, dOp, dUn, dTest_eq, dAnd, dOr, dNot, dAndV_eq, dOrV_eq, dNotV_eq, dIf, dChain_eq, dNil, dCons, dTup, dLst, dLstM, dCB, dBM, dNoPart, dPart_eq, dSl, dCall, dCallK, dNext, dBrk, dCnt, dSeq, dDrop, dRet, dRetN, dIfS, γName, γNil, γCons, γSub, dAsg, dPar, dAug, ιSeq_eq, ιRng1_eq, ιRng2_eq, dFor, dLc, dLcM, dYes, dT, dTold, onBl_eq, onInt_eq, onSeq_lst, onSeq_tup, onSeq_str, onSome_eq, lstAt_same, dRaise, startD, List.map_cons, List.map_nil, List.length_cons, List.length_nil, List.replicate_succ, List.replicate_zero, List.cons_append, List.nil_append, List.append_nil, List.getElem?_cons_zero, List.getElem?_cons_succ, List.set_cons_zero, List.set_cons_succ, Nat.reduceAdd, Nat.reduceSub, Nat.zero_add, Nat.sub_self, ρEq_int, ρEq_str, ρEq_bl, ρNe_int, ρNe_str, ρNe_bl, ρEq_t3, ρNe_t3, ρEq_t2, ρNe_t2, intsOf_mapf, strsOf_mapf, blsOf_mapf, gK_01_0, gK_02_01, gK_02_10, gK_03_012, gK_03_021, gK_03_102, gK_03_120, gK_03_201, gK_03_210, gK_11_0, gK_12_01, gK_12_10, gK_13_012, gK_13_021, gK_13_102, gK_13_120, gK_13_201, gK_13_210, eq_self, Bool.not_true, Bool.not_false, decide_true, decide_false, strsOf_c0, strsOf_c1, strsOf_c2, strsOf_c3, strsOf_c4, strsOf_c5, strsOf_c6, strsOf_c7, strsOf_c8, intsOf_c0, intsOf_c1, intsOf_c2, intsOf_c3, intsOf_c4, intsOf_c5, intsOf_c6, intsOf_c7, intsOf_c8, blsOf_c0, blsOf_c1, blsOf_c2, blsOf_c3, blsOf_c4, blsOf_c5, blsOf_c6, blsOf_c7, blsOf_c8, ixN_30, ixN_31, ixN_32, wipeD, if_true, if_false, Bool.false_eq_true, Bool.true_eq_false, true_and, and_true, ρAdd_int, ρAdd_str, ρAdd_tup, ρAdd_lst, ρAdd_rl, ρI_int, ρI0_int, ρMul_int, ρMul_str, ρNeg_int, ρCmp_int, ρCmp_str, ρIsN_eq, ρNotN_eq, isNonD_bl, isNonD_int, isNonD_str, isNonD_tup, isNonD_lst, isNonD_ref, isNonD_non, ρSgn_one, ρAbs_int, ρMax_two, ρMin_two, ρMax_lst, ρMin_lst, ρInt_int, ρInt_bl, ρStr_int, ρLen_str, ρLen_tup, ρLen_lst, ρLen_ref, ρSum_lst, ρAll_lst, ρAny_lst, ρTupO_tup, ρTupO_lst, ρIsi_eq, is_non_int, is_non_bool, is_non_str, is_non_tuple, is_non_list, is_bl_int, is_bl_bool, is_bl_str, is_bl_tuple, is_bl_list, is_int_int, is_int_bool, is_int_str, is_int_tuple, is_int_list, is_str_int, is_str_bool, is_str_str, is_str_tuple, is_str_list, is_tup_int, is_tup_bool, is_tup_str, is_tup_tuple, is_tup_list, is_lst_int, is_lst_bool, is_lst_str, is_lst_tuple, is_lst_list, tyN_non, tyN_bl, tyN_int, tyN_str, tyN_tup, tyN_lst, ρIx_tup, ρIx_lst, ρIx_str, ρIx_ref, ρSl_str, ρSl_lst, ρSl_tup, ρApp_ref, θLst_ref, θStr_str, ςLst_ref, ρJoin_lst, γTup_tup, atI_0, atI_1, atI_2, atI_3, atI_4, atI_5, atI_6, atI_7, c_WIDTHS, sp_is_in_eq, sp_is_tuple_eq, sp_demand_eq, sp_is_bits_eq, sp_number_of_eq, sp_bits_of_eq, sp_least_of_eq, sp_code_of_eq, sp_code_eq]
    exact ⟨⟨h1, h2⟩, Fin.same hk⟩
  · rw [if_neg e] at hk ⊢
    exact FinX.same hk
/-! ### is_code -/
theorem sc_is_code : FnScope ["value"] ["value"] (defScope s_is_code) := ⟨rfl, rfl, rfl, by decide +kernel, rfl, by decide +kernel, by decide +kernel⟩
theorem bn_is_code (M : Mod K mg) : L2.Binds K M.f_is_code.choose ["value"] [] := fun_binds M.f_is_code.choose_spec fun _ _ _ _ _ _ us hl => match us, hl with | [_], _ => rfl
def okC (v : D) : Bool := (tyN v).isSome && match v with
  | .tup [a, b, c] => (tyN a).isSome && (tyN b).isSome && (tyN c).isSome
  | _ => true
def isCodeD (v : D) : Bool := match v with
  | .tup [a, b, c] => isInD a 0 1 && isInD b 0 7 && isInD c 0 15
  | _ => false
theorem isCodeD_not {v : D} (h : isTupD v 3 3 = false) : isCodeD v = false := by
  cases v <;> first | rfl | skip
  rename_i xs
  match xs, h with
  | [], _ => rfl
  | [_], _ => rfl
  | [_, _], _ => rfl
  | [_, _, _], h => cases h
  | _ :: _ :: _ :: _ :: _, _ => rfl
theorem isTupD_3 {v : D} (h : isTupD v 3 3 = true) : ∃ a b c, v = .tup [a, b, c] := by
  cases v <;> first | (cases h; done) | skip
  rename_i xs
  match xs, h with
  | [], h => cases h
  | [_], h => cases h
  | [_, _], h => cases h
  | [a, b, c], _ => exact ⟨a, b, c, rfl⟩
  | _ :: _ :: _ :: _ :: r, h =>
    simp only [isTupD, Bool.and_eq_true, decide_eq_true_eq, List.length_cons] at h
    omega
def sp_is_code : SpD := fun τ ds k KE => match ds with
  | [v] => (okC v = true) ∧ k τ (.bl (isCodeD v))
  | _ => False
theorem sp_is_code_eq {τ : TD} {k : DK} {KE : XD} {v : D} : sp_is_code τ [v] k KE = ((okC v = true) ∧ k τ (.bl (isCodeD v))) := rfl
theorem ok_is_code (M : Mod K mg) : FnD prog w K mg base (TT K) 3 (He.fAd K ("is_code", none)) M.f_is_code.choose ["value"] sp_is_code := by
  refine fnD_of M.f_is_code.choose_spec sc_is_code fun KE => ⟨_, fun cdv A outer s H E hr => (pdss_cons (pds_if (PDW.pt (pdw_or (pdt_not (pdt_val (pd_call (ok_is_tuple M) (hr.mono (by decide)) rfl M.g_is_tuple M.f_is_tuple.choose_spec.kp (bn_is_tuple M) .nil .nil passD (pda_cons (pd_var (pv 0)) (pda_cons pd_int (pda_cons pd_int pda_nil)))))) (pdw_or (pdt_not (pdt_val (pd_call (ok_is_in M) (hr.mono (by decide)) rfl M.g_is_in M.f_is_in.choose_spec.kp (bn_is_in M) .nil .nil passD (pda_cons (pd_ix ix_seq ok_ix (pd_var (pv 0)) pd_int) (pda_cons pd_int (pda_cons pd_int pda_nil)))))) (pdw_or1 (pdt_not (pdt_val (pd_call (ok_is_in M) (hr.mono (by decide)) rfl M.g_is_in M.f_is_in.choose_spec.kp (bn_is_in M) .nil .nil passD (pda_cons (pd_ix ix_seq ok_ix (pd_var (pv 0)) pd_int) (pda_cons pd_int (pda_cons (pd_glob (d := .int 7) (v := .int 7) rfl M.c_MOST_SEGMENT.choose_spec ⟨_, rfl⟩ fun _ _ => rfl) pda_nil)))))))))) (pdss_one (pds_ret pd_bl)) pdss_nil) (pdss_one (pds_ret (pd_call (ok_is_in M) (hr.mono (by decide)) rfl M.g_is_in M.f_is_in.choose_spec.kp (bn_is_in M) .nil .nil passD (pda_cons (pd_ix ix_seq ok_ix (pd_var (pv 0)) pd_int) (pda_cons pd_int (pda_cons (pd_glob (d := .int 15) (v := .int 15) rfl M.c_MOST_STEP.choose_spec ⟨_, rfl⟩ fun _ _ => rfl) pda_nil))))))), ?_⟩
  intro τ ds k hl h
  unfold sp_is_code at h
  split at h
  case h_2 => exact h.elim
  rename_i v
  obtain ⟨hv, hk⟩ := h
  have hv1 : (tyN v).isSome = true := (Bool.and_eq_true_iff.mp hv).1
  simp only [dVar, dC, dOp, dUn, dTest_eq, dAnd, dOr, dNot, dAndV_eq, dOrV_eq, dNotV_eq, dIf, dChain_eq, dNil, dCons, dTup, dLst, dLstM, dCB, dBM, dNoPart, dPart_eq, dSl, dCall, dCallK, dNext, dBrk, dCnt, dSeq, dDrop, dRet, dRetN, dIfS, γName, γNil, γCons, γSub, dAsg, dPar, dAug, ιSeq_eq, ιRng1_eq, ιRng2_eq, dFor, dLc, dLcM, dYes, dT, dTold, onBl_eq, onInt_eq, onSeq_lst, onSeq_tup, onSeq_str, onSome_eq, lstAt_same, dRaise, startD, List.map_cons, List.map_nil, List.length_cons, List.length_nil, List.replicate_succ, List.replicate_zero, List.cons_append, List.nil_append, List.append_nil, List.getElem?_cons_zero, List.getElem?_cons_succ, List.set_cons_zero, List.set_cons_succ, Nat.reduceAdd, Nat.reduceSub, Nat.zero_add, Nat.sub_self, ρEq_int, ρEq_str, ρEq_bl, ρNe_int, ρNe_str, ρNe_bl, ρEq_t3, ρNe_t3, ρEq_t2, ρNe_t2, intsOf_mapf, strsOf_mapf, blsOf_mapf, gK_01_0, gK_02_01, gK_02_10, gK_03_012, gK_03_021, gK_03_102, gK_03_120, gK_03_201, gK_03_210, gK_11_0, gK_12_01, gK_12_10, gK_13_012, gK_13_021, gK_13_102, gK_13_120, gK_13_201, gK_13_210, eq_self, Bool.not_true, Bool.not_false, decide_true, decide_false, strsOf_c0, strsOf_c1, strsOf_c2, strsOf_c3, strsOf_c4, strsOf_c5, strsOf_c6, strsOf_c7, strsOf_c8, intsOf_c0, intsOf_c1, intsOf_c2, intsOf_c3, intsOf_c4, intsOf_c5, intsOf_c6, intsOf_c7, intsOf_c8, blsOf_c0, blsOf_c1, blsOf_c2, blsOf_c3, blsOf_c4, blsOf_c5, blsOf_c6, blsOf_c7, blsOf_c8, ixN_30, ixN_31, ixN_32, wipeD, if_true, if_false, Bool.false_eq_true, Bool.true_eq_false, true_and, and_true, ρAdd_int, ρAdd_str, ρAdd_tup, ρAdd_lst, ρAdd_rl, ρI_int, ρI0_int, ρMul_int, ρMul_str, ρNeg_int, ρCmp_int, ρCmp_str, ρIsN_eq, ρNotN_eq, isNonD_bl, isNonD_int, isNonD_str, isNonD_tup, isNonD_lst, isNonD_ref, isNonD_non, ρSgn_one, ρAbs_int, ρMax_two, ρMin_two, ρMax_lst, ρMin_lst, ρInt_int, ρInt_bl, ρStr_int, ρLen_str, ρLen_tup, ρLen_lst, ρLen_ref, ρSum_lst, ρAll_lst, ρAny_lst, ρTupO_tup, ρTupO_lst, ρIsi_eq, is_non_int, is_non_bool, is_non_str, is_non_tuple, is_non_list, is_bl_int, is_bl_bool, is_bl_str, is_bl_tuple, is_bl_list, is_int_int, is_int_bool, is_int_str, is_int_tuple, is_int_list, is_str_int, is_str_bool, is_str_str, is_str_tuple, is_str_list, is_tup_int, is_tup_bool, is_tup_str, is_tup_tuple, is_tup_list, is_lst_int, is_lst_bool, is_lst_str, is_lst_tuple, is_lst_list, tyN_non, tyN_bl, tyN_int, tyN_str, tyN_tup, tyN_lst, ρIx_tup, ρIx_lst, ρIx_str, ρIx_ref, ρSl_str, ρSl_lst, ρSl_tup, ρApp_ref, θLst_ref, θStr_str, ςLst_ref, ρJoin_lst, γTup_tup, atI_0, atI_1, atI_2, atI_3, atI_4, atI_5, atI_6, atI_7, c_WIDTHS, sp_is_in_eq, sp_is_tuple_eq, sp_demand_eq, sp_is_bits_eq, sp_number_of_eq, sp_bits_of_eq, sp_least_of_eq, sp_code_of_eq, sp_code_eq, sp_is_code_eq]
  refine ⟨hv1, ?_⟩
  cases e : isTupD v 3 3 with
  | false =>
    simp only [Bool.not_false, if_true]
    rw [isCodeD_not e] at hk
    exact Fin.same hk
  | true =>
    obtain ⟨a, b, c, rfl⟩ := isTupD_3 e
    have hv2 := (Bool.and_eq_true_iff.mp hv).2
    simp only [Bool.and_eq_true] at hv2
    obtain ⟨⟨ha, hb⟩, hc⟩ := hv2
    simp only [Bool.not_true, Bool.false_eq_true, if_false]
    simp only [dVar, dC, dOp, dUn, dTest_eq, dAnd, dOr, dNot, dAndV_eq, dOrV_eq, dNotV_eq, dIf, dChain_eq, dNil, dCons, dTup, dLst, dLstM, dCB, dBM, dNoPart, dPart_eq, dSl, dCall, dCallK, dNext, dBrk, dCnt, dSeq, dDrop, dRet, dRetN, dIfS, γName, γNil, γCons, γSub, dAsg, dPar, dAug, ιSeq_eq, ιRng1_eq, ιRng2_eq, dFor, dLc, dLcM, dYes, dT, dTold, onBl_eq, onInt_eq, onSeq_lst, onSeq_tup, onSeq_str, onSome_eq, lstAt_same, dRaise, startD, List.map_cons, List.map_nil, List.length_cons, List.length_nil, List.replicate_succ, List.replicate_zero, List.cons_append, List.nil_append, List.append_nil, List.getElem?_cons_zero, List.getElem?_cons_succ, List.set_cons_zero, List.set_cons_succ, Nat.reduceAdd, Nat.reduceSub, Nat.zero_add, Nat.sub_self, ρEq_int, ρEq_str, ρEq_bl, ρNe_int, ρNe_str, ρNe_bl, ρEq_t3, ρNe_t3, ρEq_t2, ρNe_t2, intsOf_mapf, strsOf_mapf, blsOf_mapf, gK_01_0, gK_02_01, gK_02_10, gK_03_012, gK_03_021, gK_03_102, gK_03_120, gK_03_201, gK_03_210, gK_11_0, gK_12_01, gK_12_10, gK_13_012, gK_13_021, gK_13_102, gK_13_120, gK_13_201, gK_13_210, eq_self, Bool.not_true, Bool.not_false, decide_true, decide_false, strsOf_c0, strsOf_c1, strsOf_c2, strsOf_c3, strsOf_c4, strsOf_c5, strsOf_c6, strsOf_c7, strsOf_c8, intsOf_c0, intsOf_c1, intsOf_c2, intsOf_c3, intsOf_c4, intsOf_c5, intsOf_c6, intsOf_c7, intsOf_c8, blsOf_c0, blsOf_c1, blsOf_c2, blsOf_c3, blsOf_c4, blsOf_c5, blsOf_c6, blsOf_c7, blsOf_c8, ixN_30, ixN_31, ixN_32, wipeD, if_true, if_false, Bool.false_eq_true, Bool.true_eq_false, true_and, and_true, ρAdd_int, ρAdd_str, ρAdd_tup, ρAdd_lst, ρAdd_rl, ρI_int, ρI0_int, ρMul_int, ρMul_str, ρNeg_int, ρCmp_int, ρCmp_str, ρIsN_eq, ρNotN_eq, isNonD_bl, isNonD_int, isNonD_str, isNonD_tup, isNonD_lst, isNonD_ref, isNonD_non, ρSgn_one, ρAbs_int, ρMax_two, ρMin_two, ρMax_lst, ρMin_lst, ρInt_int, ρInt_bl, ρStr_int, ρLen_str, ρLen_tup, ρLen_lst, ρLen_ref, ρSum_lst, ρAll_lst, ρAny_lst, ρTupO_tup, ρTupO_lst, ρIsi_eq, is_non_int, is_non_bool, is_non_str, is_non_tuple, is_non_list, is_bl_int, is_bl_bool, is_bl_str, is_bl_tuple, is_bl_list, is_int_int, is_int_bool, is_int_str, is_int_tuple, is_int_list, is_str_int, is_str_bool, is_str_str, is_str_tuple, is_str_list, is_tup_int, is_tup_bool, is_tup_str, is_tup_tuple, is_tup_list, is_lst_int, is_lst_bool, is_lst_str, is_lst_tuple, is_lst_list, tyN_non, tyN_bl, tyN_int, tyN_str, tyN_tup, tyN_lst, ρIx_tup, ρIx_lst, ρIx_str, ρIx_ref, ρSl_str, ρSl_lst, ρSl_tup, ρApp_ref, θLst_ref, θStr_str, ςLst_ref, ρJoin_lst, γTup_tup, atI_0, atI_1, atI_2, atI_3, atI_4, atI_5, atI_6, atI_7, c_WIDTHS, sp_is_in_eq, sp_is_tuple_eq, sp_demand_eq, sp_is_bits_eq, sp_number_of_eq, sp_bits_of_eq, sp_least_of_eq, sp_code_of_eq, sp_code_eq, sp_is_code_eq]
    refine ⟨ha, ?_⟩
    cases e1 : isInD a 0 1 with
    | false =>
      simp only [Bool.not_false, if_true]
      refine Fin.same ?_
      simpa only [isCodeD, e1, Bool.false_and] using hk
    | true =>
      simp only [Bool.not_true, Bool.false_eq_true, if_false]
      refine ⟨hb, ?_⟩
      cases e2 : isInD b 0 7 with
      | false =>
        simp only [Bool.not_false, if_true]
        refine Fin.same ?_
        simpa only [isCodeD, e1, e2, Bool.false_and, Bool.true_and] using hk
      | true =>
        simp only [Bool.not_true, Bool.false_eq_true, if_false]
        refine ⟨hc, Fin.same ?_⟩
        simpa only [isCodeD, e1, e2, Bool.true_and] using hk
/-! ### decoded_of -/
theorem sc_decoded_of : FnScope ["told", "sign", "segment", "step", "size"] ["told"] (defScope s_decoded_of) := ⟨rfl, rfl, rfl, by decide +kernel, rfl, by decide +kernel, by decide +kernel⟩
theorem bn_decoded_of (M : Mod K mg) : L2.Binds K M.f_decoded_of.choose ["told"] [] := fun_binds M.f_decoded_of.choose_spec fun _ _ _ _ _ _ us hl => match us, hl with | [_], _ => rfl
def sizI (s t : Int) : Int := leastI s + t * widthI s + widthI s / 2
def decI (a s t : Int) : Int := if decide (a = 1) = true then -sizI s t else sizI s t
theorem mul_okr {i j : Int} (h : 0 ≤ j ∧ j ≤ 1000000) : CMul i j := .inr ⟨by omega, by omega⟩
def sp_decoded_of : SpD := fun τ ds k KE => match ds with
  | [.tup [.int a, .int s, .int t]] => (0 ≤ s ∧ s < 8) ∧ k τ (.int (decI a s t))
  | _ => False
theorem sp_decoded_of_eq {τ : TD} {k : DK} {KE : XD} {a s t : Int} : sp_decoded_of τ [.tup [.int a, .int s, .int t]] k KE = ((0 ≤ s ∧ s < 8) ∧ k τ (.int (decI a s t))) := rfl
theorem ok_decoded_of (M : Mod K mg) : FnD prog w K mg base (TT K) 3 (He.fAd K ("decoded_of", none)) M.f_decoded_of.choose ["told"] sp_decoded_of := by
  refine fnD_of M.f_decoded_of.choose_spec sc_decoded_of fun KE => ⟨_, fun cdv A outer s H E hr => (pdss_cons (pds_asg (pd_var (pv 0)) (pdg_tup (n := 3) rfl (pdgs_cons (pdg_name (i := 1) sc_decoded_of.nd rfl (by first | exact .inl rfl | exact .inr rfl)) (pdgs_cons (pdg_name (i := 2) sc_decoded_of.nd rfl (by first | exact .inl rfl | exact .inr rfl)) (pdgs_cons (pdg_name (i := 3) sc_decoded_of.nd rfl (by first | exact .inl rfl | exact .inr rfl)) pdgs_nil))))) (pdss_cons (pds_set (i := 4) sc_decoded_of.nd rfl (by first | exact .inl rfl | exact .inr rfl) (pd_op op_addU ok_add (pd_op op_addU ok_add (pd_call (ok_least_of M) (hr.mono (by decide)) rfl M.g_least_of M.f_least_of.choose_spec.kp (bn_least_of M) .nil .nil passD (pda_cons (pd_var (pv 2)) pda_nil)) (pd_op op_mulU ok_mul (pd_var (pv 3)) (pd_ix ix_seq ok_ix (pd_glob (d := c_WIDTHS) (v := .ref (He.ga K "WIDTHS")) rfl M.g_WIDTHS rfl fun _ _ => t_WIDTHS M) (pd_var (pv 2))))) (pd_op op_fdiv ok_div (pd_ix ix_seq ok_ix (pd_glob (d := c_WIDTHS) (v := .ref (He.ga K "WIDTHS")) rfl M.g_WIDTHS rfl fun _ _ => t_WIDTHS M) (pd_var (pv 2))) pd_int))) (pdss_one (pds_ret (pd_if (pdt_cmp (op_eqU (room_eq hr)) ok_eq (pd_var (pv 1)) pd_int (nomark _)) (pd_un un_neg ok_neg (pd_var (pv 4))) (pd_var (pv 4))))))), ?_⟩
  intro τ ds k hl h
  unfold sp_decoded_of at h
  split at h
  case h_2 => exact h.elim
  rename_i a s t
  obtain ⟨h0, hk⟩ := h
  have h3 := widthI_ok s
  simp only [dVar, dC, dOp, dUn, dTest_eq, dAnd, dOr, dNot, dAndV_eq, dOrV_eq, dNotV_eq, dIf, dChain_eq, dNil, dCons, dTup, dLst, dLstM, dCB, dBM, dNoPart, dPart_eq, dSl, dCall, dCallK, dNext, dBrk, dCnt, dSeq, dDrop, dRet, dRetN, dIfS, γName, γNil, γCons, γSub, dAsg, dPar, dAug, ιSeq_eq, ιRng1_eq, ιRng2_eq, dFor, dLc, dLcM, dYes, dT, dTold, onBl_eq, onInt_eq, onSeq_lst, onSeq_tup, onSeq_str, onSome_eq, lstAt_same, dRaise, startD, List.map_cons, List.map_nil, List.length_cons, List.length_nil, List.replicate_succ, List.replicate_zero, List.cons_append, List.nil_append, List.append_nil, List.getElem?_cons_zero, List.getElem?_cons_succ, List.set_cons_zero, List.set_cons_succ, Nat.reduceAdd, Nat.reduceSub, Nat.zero_add, Nat.sub_self, ρEq_int, ρEq_str, ρEq_bl, ρNe_int, ρNe_str, ρNe_bl, ρEq_t3, ρNe_t3, ρEq_t2, ρNe_t2, intsOf_mapf, strsOf_mapf, blsOf_mapf, gK_01_0, gK_02_01, gK_02_10, gK_03_012, gK_03_021, gK_03_102, gK_03_120, gK_03_201, gK_03_210, gK_11_0, gK_12_01, gK_12_10, gK_13_012, gK_13_021, gK_13_102, gK_13_120, gK_13_201, gK_13_210, eq_self, Bool.not_true, Bool.not_false, decide_true, decide_false, strsOf_c0, strsOf_c1, strsOf_c2, strsOf_c3, strsOf_c4, strsOf_c5, strsOf_c6, strsOf_c7, strsOf_c8, intsOf_c0, intsOf_c1, intsOf_c2, intsOf_c3, intsOf_c4, intsOf_c5, intsOf_c6, intsOf_c7, intsOf_c8, blsOf_c0, blsOf_c1, blsOf_c2, blsOf_c3, blsOf_c4, blsOf_c5, blsOf_c6, blsOf_c7, blsOf_c8, ixN_30, ixN_31, ixN_32, wipeD, if_true, if_false, Bool.false_eq_true, Bool.true_eq_false, true_and, and_true, ρAdd_int, ρAdd_str, ρAdd_tup, ρAdd_lst, ρAdd_rl, ρI_int, ρI0_int, ρMul_int, ρMul_str, ρNeg_int, ρCmp_int, ρCmp_str, ρIsN_eq, ρNotN_eq, isNonD_bl, isNonD_int, isNonD_str, isNonD_tup, isNonD_lst, isNonD_ref, isNonD_non, ρSgn_one, ρAbs_int, ρMax_two, ρMin_two, ρMax_lst, ρMin_lst, ρInt_int, ρInt_bl, ρStr_int, ρLen_str, ρLen_tup, ρLen_lst, ρLen_ref, ρSum_lst, ρAll_lst, ρAny_lst, ρTupO_tup, ρTupO_lst, ρIsi_eq, is_non_int, is_non_bool, is_non_str, is_non_tuple, is_non_list, is_bl_int, is_bl_bool, is_bl_str, is_bl_tuple, is_bl_list, is_int_int, is_int_bool, is_int_str, is_int_tuple, is_int_list, is_str_int, is_str_bool, is_str_str, is_str_tuple, is_str_list, is_tup_int, is_tup_bool, is_tup_str, is_tup_tuple, is_tup_list, is_lst_int, is_lst_bool, is_lst_str, is_lst_tuple, is_lst_list, tyN_non, tyN_bl, tyN_int, tyN_str, tyN_tup, tyN_lst, ρIx_tup, ρIx_lst, ρIx_str, ρIx_ref, ρSl_str, ρSl_lst, ρSl_tup, ρApp_ref, θLst_ref, θStr_str, ςLst_ref, ρJoin_lst, γTup_tup, atI_0, atI_1, atI_2, atI_3, atI_4, atI_5, atI_6, atI_7, c_WIDTHS, sp_is_in_eq, sp_is_tuple_eq, sp_demand_eq, sp_is_bits_eq, sp_number_of_eq, sp_bits_of_eq, sp_least_of_eq, sp_code_of_eq, sp_code_eq, sp_is_code_eq, sp_decoded_of_eq, at_width h0]
  refine ⟨h0, mul_okr ⟨by omega, by omega⟩, div_ok ⟨by decide, by decide⟩, ?_⟩
  by_cases e : a = 1
  · simp only [e, decide_true, if_true]
    refine Fin.same ?_
    simpa only [decI, sizI, e, decide_true, if_true] using hk
  · simp only [e, decide_false, Bool.false_eq_true, if_false]
    refine Fin.same ?_
    simpa only [decI, sizI, e, decide_false, Bool.false_eq_true, if_false] using hk
/-! ### decoded -/
theorem sc_decoded : FnScope ["code"] ["code"] (defScope s_decoded) := ⟨rfl, rfl, rfl, by decide +kernel, rfl, by decide +kernel, by decide +kernel⟩
theorem bn_decoded (M : Mod K mg) : L2.Binds K M.f_decoded.choose ["code"] [] := fun_binds M.f_decoded.choose_spec fun _ _ _ _ _ _ us hl => match us, hl with | [_], _ => rfl
def decD (v : D) : D := match v with
  | .tup [.int a, .int s, .int t] => .int (decI a s t)
  | _ => .non
theorem isCodeD_ok {v : D} (h : isCodeD v = true) : ∃ a s t, v = .tup [.int a, .int s, .int t] ∧ (0 ≤ a ∧ a ≤ 1) ∧ (0 ≤ s ∧ s < 8) ∧ (0 ≤ t ∧ t ≤ 15) := by
  cases v <;> first | (cases h; done) | skip
  rename_i xs
  match xs, h with
  | [], h => cases h
  | [_], h => cases h
  | [_, _], h => cases h
  | _ :: _ :: _ :: _ :: _, h => cases h
  | [a, b, c], h =>
    simp only [isCodeD, Bool.and_eq_true] at h
    obtain ⟨⟨h1, h2⟩, h3⟩ := h
    obtain ⟨i, rfl, a1, a2⟩ := isInD_int h1
    obtain ⟨j, rfl, b1, b2⟩ := isInD_int h2
    obtain ⟨k, rfl, c1, c2⟩ := isInD_int h3
    exact ⟨i, j, k, rfl, ⟨a1, a2⟩, ⟨b1, by omega⟩, c1, c2⟩
def sp_decoded (K : PySem.W.Frag) : SpD := fun τ ds k KE => match ds with
  | [v] => okC v = true ∧ (if isCodeD v = true then k τ (decD v) else KE τ (He.ga K "BadArgument") "name" (.str "code"))
  | _ => False
theorem sp_decoded_eq (K : PySem.W.Frag) {τ : TD} {k : DK} {KE : XD} {v : D} : sp_decoded K τ [v] k KE = (okC v = true ∧ (if isCodeD v = true then k τ (decD v) else KE τ (He.ga K "BadArgument") "name" (.str "code"))) := rfl
theorem ok_decoded (M : Mod K mg) : FnD prog w K mg base (TT K) 4 (He.fAd K ("decoded", none)) M.f_decoded.choose ["code"] (sp_decoded K) := by
  refine fnD_of M.f_decoded.choose_spec sc_decoded fun KE => ⟨_, fun cdv A outer s H E hr => (pdss_cons (pds_expr (pd_call (ok_demand M) (hr.mono (by decide)) rfl M.g_demand M.f_demand.choose_spec.kp (bn_demand M) .nil .nil passD (pda_cons (pd_call (ok_is_code M) (hr.mono (by decide)) rfl M.g_is_code M.f_is_code.choose_spec.kp (bn_is_code M) .nil .nil passD (pda_cons (pd_var (pv 0)) pda_nil)) (pda_cons pd_str pda_nil)))) (pdss_one (pds_ret (pd_call (ok_decoded_of M) (hr.mono (by decide)) rfl M.g_decoded_of M.f_decoded_of.choose_spec.kp (bn_decoded_of M) .nil .nil passD (pda_cons (pd_var (pv 0)) pda_nil))))), ?_⟩
  intro τ ds k hl h
  unfold sp_decoded at h
  split at h
  case h_2 => exact h.elim
  rename_i v
  obtain ⟨hv, hk⟩ := h
  simp only [dVar, dC, dOp, dUn, dTest_eq, dAnd, dOr, dNot, dAndV_eq, dOrV_eq, dNotV_eq, dIf, dChain_eq, dNil, dCons, dTup, dLst, dLstM, dCB, dBM, dNoPart, dPart_eq, dSl, dCall, dCallK, dNext, dBrk, dCnt, dSeq, dDrop, dRet, dRetN, dIfS, γName, γNil, γCons, γSub, dAsg, dPar, dAug, ιSeq_eq, ιRng1_eq, ιRng2_eq, dFor, dLc, dLcM, dYes, dT, dTold, onBl_eq, onInt_eq, onSeq_lst, onSeq_tup, onSeq_str, onSome_eq, lstAt_same, dRaise, startD, List.map_cons, List.map_nil, List.length_cons, List.length_nil, List.replicate_succ, List.replicate_zero, List.cons_append, List.nil_append, List.append_nil, List.getElem?_cons_zero, List.getElem?_cons_succ, List.set_cons_zero, List.set_cons_succ, Nat.reduceAdd, Nat.reduceSub, Nat.zero_add, Nat.sub_self, ρEq_int, ρEq_str, ρEq_bl, ρNe_int, ρNe_str, ρNe_bl, ρEq_t3, ρNe_t3, ρEq_t2, ρNe_t2, intsOf_mapf, strsOf_mapf, blsOf_mapf, gK_01_0, gK_02_01, gK_02_10, gK_03_012, gK_03_021, gK_03_102, gK_03_120, gK_03_201, gK_03_210, gK_11_0, gK_12_01, gK_12_10, gK_13_012, gK_13_021, gK_13_102, gK_13_120, gK_13_201, gK_13_210, eq_self, Bool.not_true, Bool.not_false, decide_true, decide_false, strsOf_c0, strsOf_c1, strsOf_c2, strsOf_c3, strsOf_c4, strsOf_c5, strsOf_c6, strsOf_c7, strsOf_c8, intsOf_c0, intsOf_c1, intsOf_c2, intsOf_c3, intsOf_c4, intsOf_c5, intsOf_c6, intsOf_c7, intsOf_c8, blsOf_c0, blsOf_c1, blsOf_c2, blsOf_c3, blsOf_c4, blsOf_c5, blsOf_c6, blsOf_c7, blsOf_c8, ixN_30, ixN_31, ixN_32, wipeD, if_true, if_false, Bool.false_eq_true, Bool.true_eq_false, true_and, and_true, ρAdd_int, ρAdd_str, ρAdd_tup, ρAdd_lst, ρAdd_rl, ρI_int, ρI0_int, ρMul_int, ρMul_str, ρNeg_int, ρCmp_int, ρCmp_str, ρIsN_eq, ρNotN_eq, isNonD_bl, isNonD_int, isNonD_str, isNonD_tup, isNonD_lst, isNonD_ref, isNonD_non, ρSgn_one, ρAbs_int, ρMax_two, ρMin_two, ρMax_lst, ρMin_lst, ρInt_int, ρInt_bl, ρStr_int, ρLen_str, ρLen_tup, ρLen_lst, ρLen_ref, ρSum_lst, ρAll_lst, ρAny_lst, ρTupO_tup, ρTupO_lst, ρIsi_eq, is_non_int, is_non_bool, is_non_str, is_non_tuple, is_non_list, is_bl_int, is_bl_bool, is_bl_str, is_bl_tuple, is_bl_list, is_int_int, is_int_bool, is_int_str, is_int_tuple, is_int_list, is_str_int, is_str_bool, is_str_str, is_str_tuple, is_str_list, is_tup_int, is_tup_bool, is_tup_str, is_tup_tuple, is_tup_list, is_lst_int, is_lst_bool, is_lst_str, is_lst_tuple, is_lst_list, tyN_non, tyN_bl, tyN_int, tyN_str, tyN_tup, tyN_lst, ρIx_tup, ρIx_lst, ρIx_str, ρIx_ref, ρSl_str, ρSl_lst, ρSl_tup, ρApp_ref, θLst_ref, θStr_str, ςLst_ref, ρJoin_lst, γTup_tup, atI_0, atI_1, atI_2, atI_3, atI_4, atI_5, atI_6, atI_7, c_WIDTHS, sp_is_in_eq, sp_is_tuple_eq, sp_demand_eq, sp_is_bits_eq, sp_number_of_eq, sp_bits_of_eq, sp_least_of_eq, sp_code_of_eq, sp_code_eq, sp_is_code_eq, sp_decoded_of_eq, sp_decoded_eq]
  refine ⟨hv, ?_⟩
  by_cases e : isCodeD v = true
  · rw [if_pos e] at hk ⊢
    obtain ⟨a, s, t, rfl, h1, h2, h3⟩ := isCodeD_ok e
    simp only [dVar, dC, dOp, dUn, dTest_eq, dAnd, dOr, dNot, dAndV_eq, dOrV_eq, dNotV_eq, dIf, dChain_eq, dNil, dCons, dTup, dLst, dLstM, dCB, dBM, dNoPart, dPart_eq, dSl, dCall, dCallK, dNext, dBrk, dCnt, dSeq, dDrop, dRet, dRetN, dIfS, γName, γNil, γCons, γSub, dAsg, dPar, dAug, ιSeq_eq, ιRng1_eq, ιRng2_eq, dFor, dLc, dLcM, dYes, dT, dTold, onBl_eq, onInt_eq, onSeq_lst, onSeq_tup, onSeq_str, onSome_eq, lstAt_same, dRaise, startD, List.map_cons, List.map_nil, List.length_cons, List.length_nil, List.replicate_succ, List.replicate_zero, List.cons_append, List.nil_append, List.append_nil, List.getElem?_cons_zero, List.getElem?_cons_succ, List.set_cons_zero, List.set_cons_succ, Nat.reduceAdd, Nat.reduceSub, Nat.zero_add, Nat.sub_self, ρEq_int, ρEq_str, ρEq_bl, ρNe_int, ρNe_str, ρNe_bl, ρEq_t3, ρNe_t3, ρEq_t2, ρNe_t2, intsOf_mapf, strsOf_mapf, blsOf_mapf, gK_01_0, gK_02_01, gK_02_10, gK_03_012, gK_03_021, gK_03_102, gK_03_120, gK_03_201, gK_03_210, gK_11_0, gK_12_01, gK_12_10, gK_13_012, gK_13_021, gK_13_102, gK_13_120, gK_13_201, gK_13_210, eq_self, Bool.not_true, Bool.not_false, decide_true, decide_false, strsOf_c0, strsOf_c1, strsOf_c2, strsOf_c3, strsOf_c4, strsOf_c5, strsOf_c6, strsOf_c7, strsOf_c8, intsOf_c0, intsOf_c1, intsOf_c2, intsOf_c3, intsOf_c4, intsOf_c5, intsOf_c6, intsOf_c7, intsOf_c8, blsOf_c0, blsOf_c1, blsOf_c2, blsOf_c3, blsOf_c4, blsOf_c5, blsOf_c6, blsOf_c7, blsOf_c8, ixN_30, ixN_31, ixN_32, wipeD, if_true, if_false, Bool.false_eq_true, Bool.true_eq_false, true_and, and_true, ρAdd_int, ρAdd_str, ρAdd_tup, ρAdd_lst, ρAdd_rl, ρI_int, ρI0_int, ρMul_int, ρMul_str, ρNeg_int, ρCmp_int, ρCmp_str, ρIsN_eq, ρNotN_eq, isNonD_bl, isNonD_int, isNonD_str, isNonD_tup, isNonD_lst, isNonD_ref, isNonD_non, ρSgn_one, ρAbs_int, ρMax_two, ρMin_two, ρMax_lst, ρMin_lst, ρInt_int, ρInt_bl, ρStr_int, ρLen_str, ρLen_tup, ρLen_lst, ρLen_ref, ρSum_lst, ρAll_lst, ρAny_lst, ρTupO_tup, ρTupO_lst, ρIsi_eq, is_non_int, is_non_bool, is_non_str, is_non_tuple, is_non_list, is_bl_int, is_bl_bool, is_bl_str, is_bl_tuple, is_bl_list, is_int_int, is_int_bool, is_int_str, is_int_tuple, is_int_list, is_str_int, is_str_bool, is_str_str, is_str_tuple, is_str_list, is_tup_int, is_tup_bool, is_tup_str, is_tup_tuple, is_tup_list, is_lst_int, is_lst_bool, is_lst_str, is_lst_tuple, is_lst_list, tyN_non, tyN_bl, tyN_int, tyN_str, tyN_tup, tyN_lst, ρIx_tup, ρIx_lst, ρIx_str, ρIx_ref, ρSl_str, ρSl_lst, ρSl_tup, ρApp_ref, θLst_ref, θStr_str, ςLst_ref, ρJoin_lst, γTup_tup, atI_0, atI_1, atI_2, atI_3, atI_4, atI_5, atI_6, atI_7, c_WIDTHS, sp_is_in_eq, sp_is_tuple_eq, sp_demand_eq, sp_is_bits_eq, sp_number_of_eq, sp_bits_of_eq, sp_least_of_eq, sp_code_of_eq, sp_code_eq, sp_is_code_eq, sp_decoded_of_eq, sp_decoded_eq]
    exact ⟨h2, Fin.same hk⟩
  · rw [if_neg e] at hk ⊢
    exact FinX.same hk
/-! ### worst_error -/
theorem sc_worst_error : FnScope ["segment"] ["segment"] (defScope s_worst_error) := ⟨rfl, rfl, rfl, by decide +kernel, rfl, by decide +kernel, by decide +kernel⟩
theorem bn_worst_error (M : Mod K mg) : L2.Binds K M.f_worst_error.choose ["segment"] [] := fun_binds M.f_worst_error.choose_spec fun _ _ _ _ _ _ us hl => match us, hl with | [_], _ => rfl
def worD (v : D) : D := match v with
  | .int s => .int (widthI s / 2)
  | _ => .non
def sp_worst_error (K : PySem.W.Frag) : SpD := fun τ ds k KE => match ds with
  | [v] => (tyN v).isSome = true ∧ (if isInD v 0 7 = true then k τ (worD v) else KE τ (He.ga K "BadArgument") "name" (.str "segment"))
  | _ => False
theorem sp_worst_error_eq (K : PySem.W.Frag) {τ : TD} {k : DK} {KE : XD} {v : D} : sp_worst_error K τ [v] k KE = ((tyN v).isSome = true ∧ (if isInD v 0 7 = true then k τ (worD v) else KE τ (He.ga K "BadArgument") "name" (.str "segment"))) := rfl
theorem ok_worst_error (M : Mod K mg) : FnD prog w K mg base (TT K) 3 (He.fAd K ("worst_error", none)) M.f_worst_error.choose ["segment"] (sp_worst_error K) := by
  refine fnD_of M.f_worst_error.choose_spec sc_worst_error fun KE => ⟨_, fun cdv A outer s H E hr => (pdss_cons (pds_expr (pd_call (ok_demand M) (hr.mono (by decide)) rfl M.g_demand M.f_demand.choose_spec.kp (bn_demand M) .nil .nil passD (pda_cons (pd_call (ok_is_in M) (hr.mono (by decide)) rfl M.g_is_in M.f_is_in.choose_spec.kp (bn_is_in M) .nil .nil passD (pda_cons (pd_var (pv 0)) (pda_cons pd_int (pda_cons (pd_glob (d := .int 7) (v := .int 7) rfl M.c_MOST_SEGMENT.choose_spec ⟨_, rfl⟩ fun _ _ => rfl) pda_nil)))) (pda_cons pd_str pda_nil)))) (pdss_one (pds_ret (pd_op op_fdiv ok_div (pd_ix ix_seq ok_ix (pd_glob (d := c_WIDTHS) (v := .ref (He.ga K "WIDTHS")) rfl M.g_WIDTHS rfl fun _ _ => t_WIDTHS M) (pd_var (pv 0))) pd_int)))), ?_⟩
  intro τ ds k hl h
  unfold sp_worst_error at h
  split at h
  case h_2 => exact h.elim
  rename_i v
  obtain ⟨hv, hk⟩ := h
  simp only [dVar, dC, dOp, dUn, dTest_eq, dAnd, dOr, dNot, dAndV_eq, dOrV_eq, dNotV_eq, dIf, dChain_eq, dNil, dCons, dTup, dLst, dLstM, dCB, dBM, dNoPart, dPart_eq, dSl, dCall, dCallK, dNext, dBrk, dCnt, dSeq, dDrop, dRet, dRetN, dIfS, γName, γNil, γCons, γSub, dAsg, dPar, dAug, ιSeq_eq, ιRng1_eq, ιRng2_eq, dFor, dLc, dLcM, dYes, dT, dTold, onBl_eq, onInt_eq, onSeq_lst, onSeq_tup, onSeq_str, onSome_eq, lstAt_same, dRaise, startD, List.map_cons, List.map_nil, List.length_cons, List.length_nil, List.replicate_succ, List.replicate_zero, List.cons_append, List.nil_append, List.append_nil, List.getElem?_cons_zero, List.getElem?_cons_succ, List.set_cons_zero, List.set_cons_succ, Nat.reduceAdd, Nat.reduceSub, Nat.zero_add, Nat.sub_self, ρEq_int, ρEq_str, ρEq_bl, ρNe_int, ρNe_str, ρNe_bl, ρEq_t3, ρNe_t3, ρEq_t2, ρNe_t2, intsOf_mapf, strsOf_mapf, blsOf_mapf, gK_01_0, gK_02_01, gK_02_10, gK_03_012, gK_03_021, gK_03_102, gK_03_120, gK_03_201, gK_03_210, gK_11_0, gK_12_01, gK_12_10, gK_13_012, gK_13_021, gK_13_102, gK_13_120, gK_13_201, gK_13_210, eq_self, Bool.not_true, Bool.not_false, decide_true, decide_false, strsOf_c0, strsOf_c1, strsOf_c2, strsOf_c3, strsOf_c4, strsOf_c5, strsOf_c6, strsOf_c7, strsOf_c8, intsOf_c0, intsOf_c1, intsOf_c2, intsOf_c3, intsOf_c4, intsOf_c5, intsOf_c6, intsOf_c7, intsOf_c8, blsOf_c0, blsOf_c1, blsOf_c2, blsOf_c3, blsOf_c4, blsOf_c5, blsOf_c6, blsOf_c7, blsOf_c8, ixN_30, ixN_31, ixN_32, wipeD, if_true, if_false, Bool.false_eq_true, Bool.true_eq_false, true_and, and_true, ρAdd_int, ρAdd_str, ρAdd_tup, ρAdd_lst, ρAdd_rl, ρI_int, ρI0_int, ρMul_int, ρMul_str, ρNeg_int, ρCmp_int, ρCmp_str, ρIsN_eq, ρNotN_eq, isNonD_bl, isNonD_int, isNonD_str, isNonD_tup, isNonD_lst, isNonD_ref, isNonD_non, ρSgn_one, ρAbs_int, ρMax_two, ρMin_two, ρMax_lst, ρMin_lst, ρInt_int, ρInt_bl, ρStr_int, ρLen_str, ρLen_tup, ρLen_lst, ρLen_ref, ρSum_lst, ρAll_lst, ρAny_lst, ρTupO_tup, ρTupO_lst, ρIsi_eq, is_non_int, is_non_bool, is_non_str, is_non_tuple, is_non_list, is_bl_int, is_bl_bool, is_bl_str, is_bl_tuple, is_bl_list, is_int_int, is_int_bool, is_int_str, is_int_tuple, is_int_list, is_str_int, is_str_bool, is_str_str, is_str_tuple, is_str_list, is_tup_int, is_tup_bool, is_tup_str, is_tup_tuple, is_tup_list, is_lst_int, is_lst_bool, is_lst_str, is_lst_tuple, is_lst_list, tyN_non, tyN_bl, tyN_int, tyN_str, tyN_tup, tyN_lst, ρIx_tup, ρIx_lst, ρIx_str, ρIx_ref, ρSl_str, ρSl_lst, ρSl_tup, ρApp_ref, θLst_ref, θStr_str, ςLst_ref, ρJoin_lst, γTup_tup, atI_0, atI_1, atI_2, atI_3, atI_4, atI_5, atI_6, atI_7, c_WIDTHS, sp_is_in_eq, sp_is_tuple_eq, sp_demand_eq, sp_is_bits_eq, sp_number_of_eq, sp_bits_of_eq, sp_least_of_eq, sp_code_of_eq, sp_code_eq, sp_is_code_eq, sp_decoded_of_eq, sp_decoded_eq, sp_worst_error_eq]
  refine ⟨hv, ?_⟩
  by_cases e : isInD v 0 7 = true
  · rw [if_pos e] at hk ⊢
    obtain ⟨s, rfl, h1, h2⟩ := isInD_int e
    have h0 : 0 ≤ s ∧ s < 8 := ⟨h1, by omega⟩
    simp only [dVar, dC, dOp, dUn, dTest_eq, dAnd, dOr, dNot, dAndV_eq, dOrV_eq, dNotV_eq, dIf, dChain_eq, dNil, dCons, dTup, dLst, dLstM, dCB, dBM, dNoPart, dPart_eq, dSl, dCall, dCallK, dNext, dBrk, dCnt, dSeq, dDrop, dRet, dRetN, dIfS, γName, γNil, γCons, γSub, dAsg, dPar, dAug, ιSeq_eq, ιRng1_eq, ιRng2_eq, dFor, dLc, dLcM, dYes, dT, dTold, onBl_eq, onInt_eq, onSeq_lst, onSeq_tup, onSeq_str, onSome_eq, lstAt_same, dRaise, startD, List.map_cons, List.map_nil, List.length_cons, List.length_nil, List.replicate_succ, List.replicate_zero, List.cons_append, List.nil_append, List.append_nil, List.getElem?_cons_zero, List.getElem?_cons_succ, List.set_cons_zero, List.set_cons_succ, Nat.reduceAdd, Nat.reduceSub, Nat.zero_add, Nat.sub_self, ρEq_int, ρEq_str, ρEq_bl, ρNe_int, ρNe_str, ρNe_bl, ρEq_t3, ρNe_t3, ρEq_t2, ρNe_t2, intsOf_mapf, strsOf_mapf, blsOf_mapf, gK_01_0, gK_02_01, gK_02_10, gK_03_012, gK_03_021, gK_03_102, gK_03_120, gK_03_201, gK_03_210, gK_11_0, gK_12_01, gK_12_10, gK_13_012, gK_13_021, gK_13_102, gK_13_120, gK_13_201, gK_13_210, eq_self, Bool.not_true, Bool.not_false, decide_true, decide_false, strsOf_c0, strsOf_c1, strsOf_c2, strsOf_c3, strsOf_c4, strsOf_c5, strsOf_c6, strsOf_c7, strsOf_c8, intsOf_c0, intsOf_c1, intsOf_c2, intsOf_c3, intsOf_c4, intsOf_c5, intsOf_c6, intsOf_c7, intsOf_c8, blsOf_c0, blsOf_c1, blsOf_c2, blsOf_c3, blsOf_c4, blsOf_c5, blsOf_c6, blsOf_c7, blsOf_c8, ixN_30, ixN_31, ixN_32, wipeD, if_true, if_false, Bool.false_eq_true, Bool.true_eq_false, true_and, and_true, ρAdd_int, ρAdd_str, ρAdd_tup, ρAdd_lst, ρAdd_rl, ρI_int, ρI0_int, ρMul_int, ρMul_str, ρNeg_int, ρCmp_int, ρCmp_str, ρIsN_eq, ρNotN_eq, isNonD_bl, isNonD_int, isNonD_str, isNonD_tup, isNonD_lst, isNonD_ref, isNonD_non, ρSgn_one, ρAbs_int, ρMax_two, ρMin_two, ρMax_lst, ρMin_lst, ρInt_int, ρInt_bl, ρStr_int, ρLen_str, ρLen_tup, ρLen_lst, ρLen_ref, ρSum_lst, ρAll_lst, ρAny_lst, ρTupO_tup, ρTupO_lst, ρIsi_eq, is_non_int, is_non_bool, is_non_str, is_non_tuple, is_non_list, is_bl_int, is_bl_bool, is_bl_str, is_bl_tuple, is_bl_list, is_int_int, is_int_bool, is_int_str, is_int_tuple, is_int_list, is_str_int, is_str_bool, is_str_str, is_str_tuple, is_str_list, is_tup_int, is_tup_bool, is_tup_str, is_tup_tuple, is_tup_list, is_lst_int, is_lst_bool, is_lst_str, is_lst_tuple, is_lst_list, tyN_non, tyN_bl, tyN_int, tyN_str, tyN_tup, tyN_lst, ρIx_tup, ρIx_lst, ρIx_str, ρIx_ref, ρSl_str, ρSl_lst, ρSl_tup, ρApp_ref, θLst_ref, θStr_str, ςLst_ref, ρJoin_lst, γTup_tup, atI_0, atI_1, atI_2, atI_3, atI_4, atI_5, atI_6, atI_7, c_WIDTHS, sp_is_in_eq, sp_is_tuple_eq, sp_demand_eq, sp_is_bits_eq, sp_number_of_eq, sp_bits_of_eq, sp_least_of_eq, sp_code_of_eq, sp_code_eq, sp_is_code_eq, sp_decoded_of_eq, sp_decoded_eq, sp_worst_error_eq, at_width h0]
    exact ⟨div_ok ⟨by decide, by decide⟩, Fin.same hk⟩
  · rw [if_neg e] at hk ⊢
    exact FinX.same hk
/-! ### as_bits -/
theorem sc_as_bits : FnScope ["code"] ["code"] (defScope s_as_bits) := ⟨rfl, rfl, rfl, by decide +kernel, rfl, by decide +kernel, by decide +kernel⟩
theorem bn_as_bits (M : Mod K mg) : L2.Binds K M.f_as_bits.choose ["code"] [] := fun_binds M.f_as_bits.choose_spec fun _ _ _ _ _ _ us hl => match us, hl with | [_], _ => rfl
def asbS (a s t : Int) : Str := (bitsD a 1 ++ bitsD s 3) ++ bitsD t 4
def asbD (v : D) : D := match v with
  | .tup [.int a, .int s, .int t] => .str (asbS a s t)
  | _ => .non
theorem bitsD_le (n m : Int) (h : 0 ≤ m ∧ m ≤ 100) : (bitsD n m).length ≤ 100 := by
  have hp : ∀ i : Int, i % 2 = 0 ∨ i % 2 = 1 := fun i => by omega
  have e : ∀ l : List Nat, ((l.map fun (i : Nat) => strI (n / 2 ^ (m - 1 - (0 + (i : Int))).toNat % 2)).map (·.length)).sum ≤ l.length := fun l => by
    induction l with
    | nil => exact Nat.le_refl _
    | cons a l ih =>
      simp only [List.map_cons, List.sum_cons, List.length_cons]
      rw [strI01 (hp _)]
      omega
  have e2 := e (List.range m.toNat)
  rw [List.length_range] at e2
  have e3 : ("" : Str).length = 0 := by decide +kernel
  have e4 := StrLaws.join_length_le ("" : Str) ((List.range m.toNat).map fun (i : Nat) => strI (n / 2 ^ (m - 1 - (0 + (i : Int))).toNat % 2))
  rw [e3, Nat.mul_zero, Nat.add_zero, ← StrLaws.glued_eq_join] at e4
  have e5 : (bitsD n m).length ≤ _ := e4
  omega
def sp_as_bits (K : PySem.W.Frag) : SpD := fun τ ds k KE => match ds with
  | [v] => okC v = true ∧ (if isCodeD v = true then k τ (asbD v) else KE τ (He.ga K "BadArgument") "name" (.str "code"))
  | _ => False
theorem sp_as_bits_eq (K : PySem.W.Frag) {τ : TD} {k : DK} {KE : XD} {v : D} : sp_as_bits K τ [v] k KE = (okC v = true ∧ (if isCodeD v = true then k τ (asbD v) else KE τ (He.ga K "BadArgument") "name" (.str "code"))) := rfl
theorem ok_as_bits (M : Mod K mg) : FnD prog w K mg base (TT K) 4 (He.fAd K ("as_bits", none)) M.f_as_bits.choose ["code"] (sp_as_bits K) := by
  refine fnD_of M.f_as_bits.choose_spec sc_as_bits fun KE => ⟨_, fun cdv A outer s H E hr => (pdss_cons (pds_expr (pd_call (ok_demand M) (hr.mono (by decide)) rfl M.g_demand M.f_demand.choose_spec.kp (bn_demand M) .nil .nil passD (pda_cons (pd_call (ok_is_code M) (hr.mono (by decide)) rfl M.g_is_code M.f_is_code.choose_spec.kp (bn_is_code M) .nil .nil passD (pda_cons (pd_var (pv 0)) pda_nil)) (pda_cons pd_str pda_nil)))) (pdss_one (pds_ret (pd_op op_addU ok_add (pd_op op_addU ok_add (pd_call (ok_bits_of M) (hr.mono (by decide)) rfl M.g_bits_of M.f_bits_of.choose_spec.kp (bn_bits_of M) .nil .nil passD (pda_cons (pd_ix ix_seq ok_ix (pd_var (pv 0)) pd_int) (pda_cons pd_int pda_nil))) (pd_call (ok_bits_of M) (hr.mono (by decide)) rfl M.g_bits_of M.f_bits_of.choose_spec.kp (bn_bits_of M) .nil .nil passD (pda_cons (pd_ix ix_seq ok_ix (pd_var (pv 0)) pd_int) (pda_cons pd_int pda_nil)))) (pd_call (ok_bits_of M) (hr.mono (by decide)) rfl M.g_bits_of M.f_bits_of.choose_spec.kp (bn_bits_of M) .nil .nil passD (pda_cons (pd_ix ix_seq ok_ix (pd_var (pv 0)) pd_int) (pda_cons pd_int pda_nil))))))), ?_⟩
  intro τ ds k hl h
  unfold sp_as_bits at h
  split at h
  case h_2 => exact h.elim
  rename_i v
  obtain ⟨hv, hk⟩ := h
  simp only [dVar, dC, dOp, dUn, dTest_eq, dAnd, dOr, dNot, dAndV_eq, dOrV_eq, dNotV_eq, dIf, dChain_eq, dNil, dCons, dTup, dLst, dLstM, dCB, dBM, dNoPart, dPart_eq, dSl, dCall, dCallK, dNext, dBrk, dCnt, dSeq, dDrop, dRet, dRetN, dIfS, γName, γNil, γCons, γSub, dAsg, dPar, dAug, ιSeq_eq, ιRng1_eq, ιRng2_eq, dFor, dLc, dLcM, dYes, dT, dTold, onBl_eq, onInt_eq, onSeq_lst, onSeq_tup, onSeq_str, onSome_eq, lstAt_same, dRaise, startD, List.map_cons, List.map_nil, List.length_cons, List.length_nil, List.replicate_succ, List.replicate_zero, List.cons_append, List.nil_append, List.append_nil, List.getElem?_cons_zero, List.getElem?_cons_succ, List.set_cons_zero, List.set_cons_succ, Nat.reduceAdd, Nat.reduceSub, Nat.zero_add, Nat.sub_self, ρEq_int, ρEq_str, ρEq_bl, ρNe_int, ρNe_str, ρNe_bl, ρEq_t3, ρNe_t3, ρEq_t2, ρNe_t2, intsOf_mapf, strsOf_mapf, blsOf_mapf, gK_01_0, gK_02_01, gK_02_10, gK_03_012, gK_03_021, gK_03_102, gK_03_120, gK_03_201, gK_03_210, gK_11_0, gK_12_01, gK_12_10, gK_13_012, gK_13_021, gK_13_102, gK_13_120, gK_13_201, gK_13_210, eq_self, Bool.not_true, Bool.not_false, decide_true, decide_false, strsOf_c0, strsOf_c1, strsOf_c2, strsOf_c3, strsOf_c4, strsOf_c5, strsOf_c6, strsOf_c7, strsOf_c8, intsOf_c0, intsOf_c1, intsOf_c2, intsOf_c3, intsOf_c4, intsOf_c5, intsOf_c6, intsOf_c7, intsOf_c8, blsOf_c0, blsOf_c1, blsOf_c2, blsOf_c3, blsOf_c4, blsOf_c5, blsOf_c6, blsOf_c7, blsOf_c8, ixN_30, ixN_31, ixN_32, wipeD, if_true, if_false, Bool.false_eq_true, Bool.true_eq_false, true_and, and_true, ρAdd_int, ρAdd_str, ρAdd_tup, ρAdd_lst, ρAdd_rl, ρI_int, ρI0_int, ρMul_int, ρMul_str, ρNeg_int, ρCmp_int, ρCmp_str, ρIsN_eq, ρNotN_eq, isNonD_bl, isNonD_int, isNonD_str, isNonD_tup, isNonD_lst, isNonD_ref, isNonD_non, ρSgn_one, ρAbs_int, ρMax_two, ρMin_two, ρMax_lst, ρMin_lst, ρInt_int, ρInt_bl, ρStr_int, ρLen_str, ρLen_tup, ρLen_lst, ρLen_ref, ρSum_lst, ρAll_lst, ρAny_lst, ρTupO_tup, ρTupO_lst, ρIsi_eq, is_non_int, is_non_bool, is_non_str, is_non_tuple, is_non_list, is_bl_int, is_bl_bool, is_bl_str, is_bl_tuple, is_bl_list, is_int_int, is_int_bool, is_int_str, is_int_tuple, is_int_list, is_str_int, is_str_bool, is_str_str, is_str_tuple, is_str_list, is_tup_int, is_tup_bool, is_tup_str, is_tup_tuple, is_tup_list, is_lst_int, is_lst_bool, is_lst_str, is_lst_tuple, is_lst_list, tyN_non, tyN_bl, tyN_int, tyN_str, tyN_tup, tyN_lst, ρIx_tup, ρIx_lst, ρIx_str, ρIx_ref, ρSl_str, ρSl_lst, ρSl_tup, ρApp_ref, θLst_ref, θStr_str, ςLst_ref, ρJoin_lst, γTup_tup, atI_0, atI_1, atI_2, atI_3, atI_4, atI_5, atI_6, atI_7, c_WIDTHS, sp_is_in_eq, sp_is_tuple_eq, sp_demand_eq, sp_is_bits_eq, sp_number_of_eq, sp_bits_of_eq, sp_least_of_eq, sp_code_of_eq, sp_code_eq, sp_is_code_eq, sp_decoded_of_eq, sp_decoded_eq, sp_worst_error_eq, sp_as_bits_eq]
  refine ⟨hv, ?_⟩
  by_cases e : isCodeD v = true
  · rw [if_pos e] at hk ⊢
    obtain ⟨a, s, t, rfl, h1, h2, h3⟩ := isCodeD_ok e
    have l1 := bitsD_le a 1 (by decide)
    have l2 := bitsD_le s 3 (by decide)
    have l3 := bitsD_le t 4 (by decide)
    simp only [dVar, dC, dOp, dUn, dTest_eq, dAnd, dOr, dNot, dAndV_eq, dOrV_eq, dNotV_eq, dIf, dChain_eq, dNil, dCons, dTup, dLst, dLstM, dCB, dBM, dNoPart, dPart_eq, dSl, dCall, dCallK, dNext, dBrk, dCnt, dSeq, dDrop, dRet, dRetN, dIfS, γName, γNil, γCons, γSub, dAsg, dPar, dAug, ιSeq_eq, ιRng1_eq, ιRng2_eq, dFor, dLc, dLcM, dYes, dT, dTold, onBl_eq, onInt_eq, onSeq_lst, onSeq_tup, onSeq_str, onSome_eq, lstAt_same, dRaise, startD, List.map_cons, List.map_nil, List.length_cons, List.length_nil, List.replicate_succ, List.replicate_zero, List.cons_append, List.nil_append, List.append_nil, List.getElem?_cons_zero, List.getElem?_cons_succ, List.set_cons_zero, List.set_cons_succ, Nat.reduceAdd, Nat.reduceSub, Nat.zero_add, Nat.sub_self, ρEq_int, ρEq_str, ρEq_bl, ρNe_int, ρNe_str, ρNe_bl, ρEq_t3, ρNe_t3, ρEq_t2, ρNe_t2, intsOf_mapf, strsOf_mapf, blsOf_mapf, gK_01_0, gK_02_01, gK_02_10, gK_03_012, gK_03_021, gK_03_102, gK_03_120, gK_03_201, gK_03_210, gK_11_0, gK_12_01, gK_12_10, gK_13_012, gK_13_021, gK_13_102, gK_13_120, gK_13_201, gK_13_210, eq_self, Bool.not_true, Bool.not_false, decide_true, decide_false, strsOf_c0, strsOf_c1, strsOf_c2, strsOf_c3, strsOf_c4, strsOf_c5, strsOf_c6, strsOf_c7, strsOf_c8, intsOf_c0, intsOf_c1, intsOf_c2, intsOf_c3, intsOf_c4, intsOf_c5, intsOf_c6, intsOf_c7, intsOf_c8, blsOf_c0, blsOf_c1, blsOf_c2, blsOf_c3, blsOf_c4, blsOf_c5, blsOf_c6, blsOf_c7, blsOf_c8, ixN_30, ixN_31, ixN_32, wipeD, if_true, if_false, Bool.false_eq_true, Bool.true_eq_false, true_and, and_true, ρAdd_int, ρAdd_str, ρAdd_tup, ρAdd_lst, ρAdd_rl, ρI_int, ρI0_int, ρMul_int, ρMul_str, ρNeg_int, ρCmp_int, ρCmp_str, ρIsN_eq, ρNotN_eq, isNonD_bl, isNonD_int, isNonD_str, isNonD_tup, isNonD_lst, isNonD_ref, isNonD_non, ρSgn_one, ρAbs_int, ρMax_two, ρMin_two, ρMax_lst, ρMin_lst, ρInt_int, ρInt_bl, ρStr_int, ρLen_str, ρLen_tup, ρLen_lst, ρLen_ref, ρSum_lst, ρAll_lst, ρAny_lst, ρTupO_tup, ρTupO_lst, ρIsi_eq, is_non_int, is_non_bool, is_non_str, is_non_tuple, is_non_list, is_bl_int, is_bl_bool, is_bl_str, is_bl_tuple, is_bl_list, is_int_int, is_int_bool, is_int_str, is_int_tuple, is_int_list, is_str_int, is_str_bool, is_str_str, is_str_tuple, is_str_list, is_tup_int, is_tup_bool, is_tup_str, is_tup_tuple, is_tup_list, is_lst_int, is_lst_bool, is_lst_str, is_lst_tuple, is_lst_list, tyN_non, tyN_bl, tyN_int, tyN_str, tyN_tup, tyN_lst, ρIx_tup, ρIx_lst, ρIx_str, ρIx_ref, ρSl_str, ρSl_lst, ρSl_tup, ρApp_ref, θLst_ref, θStr_str, ςLst_ref, ρJoin_lst, γTup_tup, atI_0, atI_1, atI_2, atI_3, atI_4, atI_5, atI_6, atI_7, c_WIDTHS, sp_is_in_eq, sp_is_tuple_eq, sp_demand_eq, sp_is_bits_eq, sp_number_of_eq, sp_bits_of_eq, sp_least_of_eq, sp_code_of_eq, sp_code_eq, sp_is_code_eq, sp_decoded_of_eq, sp_decoded_eq, sp_worst_error_eq, sp_as_bits_eq]
    refine ⟨by decide, by decide, sz1000 (by omega), by decide, ?_, Fin.same hk⟩
    rw [Str.length_append]
    exact sz1000 (by omega)
  · rw [if_neg e] at hk ⊢
    exact FinX.same hk
/-! ### of_bits -/
theorem sc_of_bits : FnScope ["bits"] ["bits"] (defScope s_of_bits) := ⟨rfl, rfl, rfl, by decide +kernel, rfl, by decide +kernel, by decide +kernel⟩
theorem bn_of_bits (M : Mod K mg) : L2.Binds K M.f_of_bits.choose ["bits"] [] := fun_binds M.f_of_bits.choose_spec fun _ _ _ _ _ _ us hl => match us, hl with | [_], _ => rfl
def ofbD (v : D) : D := match v with
  | .str z => .tup [.int (numS (cutS z none (some 1)).cps.toList), .int (numS (cutS z (some 1) (some 4)).cps.toList), .int (numS (cutS z (some 4) none).cps.toList)]
  | _ => .non
theorem isBitsD_str {v : D} {lo hi : Int} (h : isBitsD v lo hi = true) : ∃ z, v = .str z ∧ ((z.length : Nat) : Int) ≤ hi := by
  cases v <;> first | (cases h; done) | skip
  rename_i z
  simp only [isBitsD, Bool.and_eq_true, decide_eq_true_eq] at h
  exact ⟨z, rfl, h.1.2⟩
def sp_of_bits (K : PySem.W.Frag) : SpD := fun τ ds k KE => match ds with
  | [v] => ((tyN v).isSome = true ∧ strOkD v = true) ∧ (if isBitsD v 8 8 = true then k τ (ofbD v) else KE τ (He.ga K "BadArgument") "name" (.str "bits"))
  | _ => False
theorem sp_of_bits_eq (K : PySem.W.Frag) {τ : TD} {k : DK} {KE : XD} {v : D} : sp_of_bits K τ [v] k KE = (((tyN v).isSome = true ∧ strOkD v = true) ∧ (if isBitsD v 8 8 = true then k τ (ofbD v) else KE τ (He.ga K "BadArgument") "name" (.str "bits"))) := rfl
theorem ok_of_bits (M : Mod K mg) : FnD prog w K mg base (TT K) 3 (He.fAd K ("of_bits", none)) M.f_of_bits.choose ["bits"] (sp_of_bits K) := by
  refine fnD_of M.f_of_bits.choose_spec sc_of_bits fun KE => ⟨_, fun cdv A outer s H E hr => (pdss_cons (pds_expr (pd_call (ok_demand M) (hr.mono (by decide)) rfl M.g_demand M.f_demand.choose_spec.kp (bn_demand M) .nil .nil passD (pda_cons (pd_call (ok_is_bits M) (hr.mono (by decide)) rfl M.g_is_bits M.f_is_bits.choose_spec.kp (bn_is_bits M) .nil .nil passD (pda_cons (pd_var (pv 0)) (pda_cons pd_int (pda_cons pd_int pda_nil)))) (pda_cons pd_str pda_nil)))) (pdss_one (pds_ret (pd_tup (pda_cons (pd_call (ok_number_of M) (hr.mono (by decide)) rfl M.g_number_of M.f_number_of.choose_spec.kp (bn_number_of M) .nil .nil passD (pda_cons (pd_slice sl_U ok_sl (pd_var (pv 0)) pdo_none (pdo_some pd_int)) pda_nil)) (pda_cons (pd_call (ok_number_of M) (hr.mono (by decide)) rfl M.g_number_of M.f_number_of.choose_spec.kp (bn_number_of M) .nil .nil passD (pda_cons (pd_slice sl_U ok_sl (pd_var (pv 0)) (pdo_some pd_int) (pdo_some pd_int)) pda_nil)) (pda_cons (pd_call (ok_number_of M) (hr.mono (by decide)) rfl M.g_number_of M.f_number_of.choose_spec.kp (bn_number_of M) .nil .nil passD (pda_cons (pd_slice sl_U ok_sl (pd_var (pv 0)) (pdo_some pd_int) pdo_none) pda_nil)) pda_nil))))))), ?_⟩
  intro τ ds k hl h
  unfold sp_of_bits at h
  split at h
  case h_2 => exact h.elim
  rename_i v
  obtain ⟨hv, hk⟩ := h
  simp only [dVar, dC, dOp, dUn, dTest_eq, dAnd, dOr, dNot, dAndV_eq, dOrV_eq, dNotV_eq, dIf, dChain_eq, dNil, dCons, dTup, dLst, dLstM, dCB, dBM, dNoPart, dPart_eq, dSl, dCall, dCallK, dNext, dBrk, dCnt, dSeq, dDrop, dRet, dRetN, dIfS, γName, γNil, γCons, γSub, dAsg, dPar, dAug, ιSeq_eq, ιRng1_eq, ιRng2_eq, dFor, dLc, dLcM, dYes, dT, dTold, onBl_eq, onInt_eq, onSeq_lst, onSeq_tup, onSeq_str, onSome_eq, lstAt_same, dRaise, startD, List.map_cons, List.map_nil, List.length_cons, List.length_nil, List.replicate_succ, List.replicate_zero, List.cons_append, List.nil_append, List.append_nil, List.getElem?_cons_zero, List.getElem?_cons_succ, List.set_cons_zero, List.set_cons_succ, Nat.reduceAdd, Nat.reduceSub, Nat.zero_add, Nat.sub_self, ρEq_int, ρEq_str, ρEq_bl, ρNe_int, ρNe_str, ρNe_bl, ρEq_t3, ρNe_t3, ρEq_t2, ρNe_t2, intsOf_mapf, strsOf_mapf, blsOf_mapf, gK_01_0, gK_02_01, gK_02_10, gK_03_012, gK_03_021, gK_03_102, gK_03_120, gK_03_201, gK_03_210, gK_11_0, gK_12_01, gK_12_10, gK_13_012, gK_13_021, gK_13_102, gK_13_120, gK_13_201, gK_13_210, eq_self, Bool.not_true, Bool.not_false, decide_true, decide_false, strsOf_c0, strsOf_c1, strsOf_c2, strsOf_c3, strsOf_c4, strsOf_c5, strsOf_c6, strsOf_c7, strsOf_c8, intsOf_c0, intsOf_c1, intsOf_c2, intsOf_c3, intsOf_c4, intsOf_c5, intsOf_c6, intsOf_c7, intsOf_c8, blsOf_c0, blsOf_c1, blsOf_c2, blsOf_c3, blsOf_c4, blsOf_c5, blsOf_c6, blsOf_c7, blsOf_c8, ixN_30, ixN_31, ixN_32, wipeD, if_true, if_false, Bool.false_eq_true, Bool.true_eq_false, true_and, and_true, ρAdd_int, ρAdd_str, ρAdd_tup, ρAdd_lst, ρAdd_rl, ρI_int, ρI0_int, ρMul_int, ρMul_str, ρNeg_int, ρCmp_int, ρCmp_str, ρIsN_eq, ρNotN_eq, isNonD_bl, isNonD_int, isNonD_str, isNonD_tup, isNonD_lst, isNonD_ref, isNonD_non, ρSgn_one, ρAbs_int, ρMax_two, ρMin_two, ρMax_lst, ρMin_lst, ρInt_int, ρInt_bl, ρStr_int, ρLen_str, ρLen_tup, ρLen_lst, ρLen_ref, ρSum_lst, ρAll_lst, ρAny_lst, ρTupO_tup, ρTupO_lst, ρIsi_eq, is_non_int, is_non_bool, is_non_str, is_non_tuple, is_non_list, is_bl_int, is_bl_bool, is_bl_str, is_bl_tuple, is_bl_list, is_int_int, is_int_bool, is_int_str, is_int_tuple, is_int_list, is_str_int, is_str_bool, is_str_str, is_str_tuple, is_str_list, is_tup_int, is_tup_bool, is_tup_str, is_tup_tuple, is_tup_list, is_lst_int, is_lst_bool, is_lst_str, is_lst_tuple, is_lst_list, tyN_non, tyN_bl, tyN_int, tyN_str, tyN_tup, tyN_lst, ρIx_tup, ρIx_lst, ρIx_str, ρIx_ref, ρSl_str, ρSl_lst, ρSl_tup, ρApp_ref, θLst_ref, θStr_str, ςLst_ref, ρJoin_lst, γTup_tup, atI_0, atI_1, atI_2, atI_3, atI_4, atI_5, atI_6, atI_7, c_WIDTHS, sp_is_in_eq, sp_is_tuple_eq, sp_demand_eq, sp_is_bits_eq, sp_number_of_eq, sp_bits_of_eq, sp_least_of_eq, sp_code_of_eq, sp_code_eq, sp_is_code_eq, sp_decoded_of_eq, sp_decoded_eq, sp_worst_error_eq, sp_as_bits_eq, sp_of_bits_eq]
  refine ⟨hv, ?_⟩
  by_cases e : isBitsD v 8 8 = true
  · rw [if_pos e] at hk ⊢
    obtain ⟨z, rfl, h1⟩ := isBitsD_str e
    have h2 : z.length ≤ sizeLine := sz1000 (by omega)
    simp only [dVar, dC, dOp, dUn, dTest_eq, dAnd, dOr, dNot, dAndV_eq, dOrV_eq, dNotV_eq, dIf, dChain_eq, dNil, dCons, dTup, dLst, dLstM, dCB, dBM, dNoPart, dPart_eq, dSl, dCall, dCallK, dNext, dBrk, dCnt, dSeq, dDrop, dRet, dRetN, dIfS, γName, γNil, γCons, γSub, dAsg, dPar, dAug, ιSeq_eq, ιRng1_eq, ιRng2_eq, dFor, dLc, dLcM, dYes, dT, dTold, onBl_eq, onInt_eq, onSeq_lst, onSeq_tup, onSeq_str, onSome_eq, lstAt_same, dRaise, startD, List.map_cons, List.map_nil, List.length_cons, List.length_nil, List.replicate_succ, List.replicate_zero, List.cons_append, List.nil_append, List.append_nil, List.getElem?_cons_zero, List.getElem?_cons_succ, List.set_cons_zero, List.set_cons_succ, Nat.reduceAdd, Nat.reduceSub, Nat.zero_add, Nat.sub_self, ρEq_int, ρEq_str, ρEq_bl, ρNe_int, ρNe_str, ρNe_bl, ρEq_t3, ρNe_t3, ρEq_t2, ρNe_t2, intsOf_mapf, strsOf_mapf, blsOf_mapf, gK_01_0, gK_02_01, gK_02_10, gK_03_012, gK_03_021, gK_03_102, gK_03_120, gK_03_201, gK_03_210, gK_11_0, gK_12_01, gK_12_10, gK_13_012, gK_13_021, gK_13_102, gK_13_120, gK_13_201, gK_13_210, eq_self, Bool.not_true, Bool.not_false, decide_true, decide_false, strsOf_c0, strsOf_c1, strsOf_c2, strsOf_c3, strsOf_c4, strsOf_c5, strsOf_c6, strsOf_c7, strsOf_c8, intsOf_c0, intsOf_c1, intsOf_c2, intsOf_c3, intsOf_c4, intsOf_c5, intsOf_c6, intsOf_c7, intsOf_c8, blsOf_c0, blsOf_c1, blsOf_c2, blsOf_c3, blsOf_c4, blsOf_c5, blsOf_c6, blsOf_c7, blsOf_c8, ixN_30, ixN_31, ixN_32, wipeD, if_true, if_false, Bool.false_eq_true, Bool.true_eq_false, true_and, and_true, ρAdd_int, ρAdd_str, ρAdd_tup, ρAdd_lst, ρAdd_rl, ρI_int, ρI0_int, ρMul_int, ρMul_str, ρNeg_int, ρCmp_int, ρCmp_str, ρIsN_eq, ρNotN_eq, isNonD_bl, isNonD_int, isNonD_str, isNonD_tup, isNonD_lst, isNonD_ref, isNonD_non, ρSgn_one, ρAbs_int, ρMax_two, ρMin_two, ρMax_lst, ρMin_lst, ρInt_int, ρInt_bl, ρStr_int, ρLen_str, ρLen_tup, ρLen_lst, ρLen_ref, ρSum_lst, ρAll_lst, ρAny_lst, ρTupO_tup, ρTupO_lst, ρIsi_eq, is_non_int, is_non_bool, is_non_str, is_non_tuple, is_non_list, is_bl_int, is_bl_bool, is_bl_str, is_bl_tuple, is_bl_list, is_int_int, is_int_bool, is_int_str, is_int_tuple, is_int_list, is_str_int, is_str_bool, is_str_str, is_str_tuple, is_str_list, is_tup_int, is_tup_bool, is_tup_str, is_tup_tuple, is_tup_list, is_lst_int, is_lst_bool, is_lst_str, is_lst_tuple, is_lst_list, tyN_non, tyN_bl, tyN_int, tyN_str, tyN_tup, tyN_lst, ρIx_tup, ρIx_lst, ρIx_str, ρIx_ref, ρSl_str, ρSl_lst, ρSl_tup, ρApp_ref, θLst_ref, θStr_str, ςLst_ref, ρJoin_lst, γTup_tup, atI_0, atI_1, atI_2, atI_3, atI_4, atI_5, atI_6, atI_7, c_WIDTHS, sp_is_in_eq, sp_is_tuple_eq, sp_demand_eq, sp_is_bits_eq, sp_number_of_eq, sp_bits_of_eq, sp_least_of_eq, sp_code_of_eq, sp_code_eq, sp_is_code_eq, sp_decoded_of_eq, sp_decoded_eq, sp_worst_error_eq, sp_as_bits_eq, sp_of_bits_eq]
    exact ⟨h2, h2, h2, by rw [sizeLine_eq]; decide, Fin.same hk⟩
  · rw [if_neg e] at hk ⊢
    exact FinX.same hk
end
end LW

set_option Elab.async false
set_option linter.all false
set_option maxRecDepth 100000
set_option maxHeartbeats 0
namespace LW
open PySem PySem.Spec PyProof.Rows L2 DL DX
section
variable {w : World} {K : PySem.W.Frag} {mg : Str → Option Value} {base : Heap}
/-! ### _law_dice -/
theorem sc__law_dice : FnScope ["script", "spot", "own", "mixed", "cell"] ["script", "spot"] (defScope s__law_dice) := ⟨rfl, rfl, rfl, by decide +kernel, rfl, by decide +kernel, by decide +kernel⟩
theorem bn__law_dice (M : Mod K mg) : L2.Binds K M.f__law_dice.choose ["script", "spot"] [] := fun_binds M.f__law_dice.choose_spec fun _ _ _ _ _ _ us hl => match us, hl with | [_, _], _ => rfl
def mixS (a c : Int) : Int := (a * 48271 + c % 2147480009) % 2147480009
theorem sz6 {n : Nat} (h : n ≤ 1000) : n ≤ sizeLine := by rw [sizeLine_eq]; omega
def sp__law_dice : SpD := fun τ ds k KE => match ds with
  | [.lst ns, .int i] => ∃ zs : List Int, ns = zs.map D.int ∧ zs.length ≤ 63 ∧ 0 ≤ i ∧ i ≤ 1000 ∧ ∀ p xs, Dc 0 xs → τ p = none → k (tset τ p (.lst xs)) (.ref p)
  | _ => False
theorem sp__law_dice_eq {τ : TD} {k : DK} {KE : XD} {ns : List D} {i : Int} : sp__law_dice τ [.lst ns, .int i] k KE = (∃ zs : List Int, ns = zs.map D.int ∧ zs.length ≤ 63 ∧ 0 ≤ i ∧ i ≤ 1000 ∧ ∀ p xs, Dc 0 xs → τ p = none → k (tset τ p (.lst xs)) (.ref p)) := rfl
theorem ok__law_dice (M : Mod K mg) : FnD prog w K mg base (TT K) 2 (He.fAd K ("_law_dice", none)) M.f__law_dice.choose ["script", "spot"] sp__law_dice := by
  refine fnD_of M.f__law_dice.choose_spec sc__law_dice fun KE => ⟨_, fun cdv A outer s H E hr => (pdss_cons (pds_set (i := 2) sc__law_dice.nd rfl (by first | exact .inl rfl | exact .inr rfl) (pd_if (pdt_cmp op_ltU ok_cmp (pd_var (pv 1)) (pd_callB cr_len ok_len rfl M.b_len boot_len (pda_cons (pd_var (pv 0)) pda_nil)) (nomark _)) (pd_ix ix_seq ok_ix (pd_var (pv 0)) (pd_var (pv 1))) (pd_op op_addU ok_add (pd_op op_mulU ok_mul pd_int (pd_var (pv 1))) pd_int))) (pdss_cons (pds_set (i := 3) sc__law_dice.nd rfl (by first | exact .inl rfl | exact .inr rfl) (pd_op op_addU ok_add pd_int (pd_op op_mulU ok_mul pd_int (pd_var (pv 1))))) (pdss_cons (pds_for ownD rfl (pdi_seq (pd_op op_addU ok_add (pd_slice sl_U ok_sl (pd_var (pv 0)) pdo_none (pdo_some pd_int)) (pd_lst (pda_cons (pd_var (pv 2)) pda_nil)))) (pdg_name (i := 4) sc__law_dice.nd rfl (by first | exact .inl rfl | exact .inr rfl)) (pdss_one (pds_set (i := 3) sc__law_dice.nd rfl (by first | exact .inl rfl | exact .inr rfl) (pd_op op_mod ok_mod (pd_callTy cr_int ok_int rfl M.b_int boot_int (pda_cons (pd_op op_addU ok_add (pd_op op_mulU ok_mul (pd_var (pv 3)) pd_int) (pd_op op_mod ok_mod (pd_callTy cr_int ok_int rfl M.b_int boot_int (pda_cons (pd_var (pv 4)) pda_nil)) pd_int)) pda_nil)) pd_int)))) (pdss_one (pds_ret (pd_lstM (pda_cons (pd_if (PDW.pt (pdw_or (pdt_cmp op_ltU ok_cmp (pd_var (pv 2)) pd_int (nomark _)) (pdw_or1 (pdt_cmp op_geU ok_cmp (pd_var (pv 2)) (pd_op op_pow ok_pow pd_int pd_int) (nomark _))))) (pd_callB cr_abs ok_abs rfl M.b_abs boot_abs (pda_cons (pd_var (pv 2)) pda_nil)) pd_int) (pda_cons (pd_var (pv 3)) (pda_cons pd_int pda_nil))))))))), ?_⟩
  intro τ ds k hl h
  unfold sp__law_dice at h
  split at h
  case h_2 => exact h.elim
  rename_i ns i
  obtain ⟨zs, rfl, hz, h0, h1, hk⟩ := h
  have hsz : ∀ own : Int, (List.take (HT.sIx zs.length zs.length (some 6) - HT.sIx zs.length 0 none) (List.drop (HT.sIx zs.length 0 none) zs) ++ [own]).length ≤ 1000 := fun own => by
    have := List.length_take_le (HT.sIx zs.length zs.length (some 6) - HT.sIx zs.length 0 none) (List.drop (HT.sIx zs.length 0 none) zs)
    simp only [List.length_append, List.length_take, List.length_drop, List.length_cons, List.length_nil] at this ⊢
    omega
  have e : ∀ (l : List Int) (own : Int), l.map D.int ++ [D.int own] = (l ++ [own]).map D.int := fun l own => by simp
  have one : 1 ≤ sizeLine := by rw [sizeLine_eq]; decide
  have three : 3 ≤ sizeLine := by rw [sizeLine_eq]; decide
  simp only [dVar, dC, dOp, dUn, dTest_eq, dAnd, dOr, dNot, dAndV_eq, dOrV_eq, dNotV_eq, dIf, dChain_eq, dNil, dCons, dTup, dLst, dLstM, dCB, dBM, dNoPart, dPart_eq, dSl, dCall, dCallK, dNext, dBrk, dCnt, dSeq, dDrop, dRet, dRetN, dIfS, γName, γNil, γCons, γSub, dAsg, dPar, dAug, ιSeq_eq, ιRng1_eq, ιRng2_eq, dFor, dLc, dLcM, dYes, dT, dTold, onBl_eq, onInt_eq, onSeq_lst, onSeq_tup, onSeq_str, onSome_eq, lstAt_same, dRaise, startD, List.map_cons, List.map_nil, List.length_cons, List.length_nil, List.replicate_succ, List.replicate_zero, List.cons_append, List.nil_append, List.append_nil, List.getElem?_cons_zero, List.getElem?_cons_succ, List.set_cons_zero, List.set_cons_succ, Nat.reduceAdd, Nat.reduceSub, Nat.zero_add, Nat.sub_self, ρEq_int, ρEq_str, ρEq_bl, ρNe_int, ρNe_str, ρNe_bl, ρEq_t3, ρNe_t3, ρEq_t2, ρNe_t2, intsOf_mapf, strsOf_mapf, blsOf_mapf, gK_01_0, gK_02_01, gK_02_10, gK_03_012, gK_03_021, gK_03_102, gK_03_120, gK_03_201, gK_03_210, gK_11_0, gK_12_01, gK_12_10, gK_13_012, gK_13_021, gK_13_102, gK_13_120, gK_13_201, gK_13_210, eq_self, Bool.not_true, Bool.not_false, decide_true, decide_false, strsOf_c0, strsOf_c1, strsOf_c2, strsOf_c3, strsOf_c4, strsOf_c5, strsOf_c6, strsOf_c7, strsOf_c8, intsOf_c0, intsOf_c1, intsOf_c2, intsOf_c3, intsOf_c4, intsOf_c5, intsOf_c6, intsOf_c7, intsOf_c8, blsOf_c0, blsOf_c1, blsOf_c2, blsOf_c3, blsOf_c4, blsOf_c5, blsOf_c6, blsOf_c7, blsOf_c8, ixN_30, ixN_31, ixN_32, wipeD, if_true, if_false, Bool.false_eq_true, Bool.true_eq_false, true_and, and_true, ρAdd_int, ρAdd_str, ρAdd_tup, ρAdd_lst, ρAdd_rl, ρI_int, ρI0_int, ρMul_int, ρMul_str, ρNeg_int, ρCmp_int, ρCmp_str, ρIsN_eq, ρNotN_eq, isNonD_bl, isNonD_int, isNonD_str, isNonD_tup, isNonD_lst, isNonD_ref, isNonD_non, ρSgn_one, ρAbs_int, ρMax_two, ρMin_two, ρMax_lst, ρMin_lst, ρInt_int, ρInt_bl, ρStr_int, ρLen_str, ρLen_tup, ρLen_lst, ρLen_ref, ρSum_lst, ρAll_lst, ρAny_lst, ρTupO_tup, ρTupO_lst, ρIsi_eq, is_non_int, is_non_bool, is_non_str, is_non_tuple, is_non_list, is_bl_int, is_bl_bool, is_bl_str, is_bl_tuple, is_bl_list, is_int_int, is_int_bool, is_int_str, is_int_tuple, is_int_list, is_str_int, is_str_bool, is_str_str, is_str_tuple, is_str_list, is_tup_int, is_tup_bool, is_tup_str, is_tup_tuple, is_tup_list, is_lst_int, is_lst_bool, is_lst_str, is_lst_tuple, is_lst_list, tyN_non, tyN_bl, tyN_int, tyN_str, tyN_tup, tyN_lst, ρIx_tup, ρIx_lst, ρIx_str, ρIx_ref, ρSl_str, ρSl_lst, ρSl_tup, ρApp_ref, θLst_ref, θStr_str, ςLst_ref, ρJoin_lst, γTup_tup, atI_0, atI_1, atI_2, atI_3, atI_4, atI_5, atI_6, atI_7, c_WIDTHS, sp_is_in_eq, sp_is_tuple_eq, sp_demand_eq, sp_is_bits_eq, sp_number_of_eq, sp_bits_of_eq, sp_least_of_eq, sp_code_of_eq, sp_code_eq, sp_is_code_eq, sp_decoded_of_eq, sp_decoded_eq, sp_worst_error_eq, sp_as_bits_eq, sp_of_bits_eq, sp__law_dice_eq, cutD_map, e, List.length_map]
  by_cases c0 : i < ((zs.length : Nat) : Int)
  · obtain ⟨n, rfl⟩ := Int.eq_ofNat_of_zero_le h0
    have hn : n < zs.length := by omega
    have e1 : atI (zs.map D.int) (n : Int) = some (.int zs[n]) := by rw [atI_nat (by simpa using hn)]; simp [hn]
    simp only [c0, decide_true, if_true, e1, onSome_eq]
    generalize zs[n] = own
    generalize ((n : Nat) : Int) = i at *
    refine ⟨mul_ok ⟨by decide, by decide⟩, one, ?_, ?_⟩
    · have := hsz own
      simp only [List.length_append, List.length_cons, List.length_nil] at this
      exact sz6 this
    try rw [e]
    refine loop_st (α := Int) (g := D.int) (s0 := 910003 + 7907 * i) (fun (s : Int) τ' ds => τ' = τ ∧ 0 ≤ s ∧ ∃ x, ds = [some (.lst (zs.map D.int)), some (.int i), some (.int own), some (.int s), x]) mixS _ (fun c _ s τ' ds hI G hG => ?_) ⟨rfl, by omega, none, rfl⟩ (fun τ' ds hI => ?_)
    · obtain ⟨rfl, hs, x, rfl⟩ := hI
      simp only [dVar, dC, dOp, dUn, dTest_eq, dAnd, dOr, dNot, dAndV_eq, dOrV_eq, dNotV_eq, dIf, dChain_eq, dNil, dCons, dTup, dLst, dLstM, dCB, dBM, dNoPart, dPart_eq, dSl, dCall, dCallK, dNext, dBrk, dCnt, dSeq, dDrop, dRet, dRetN, dIfS, γName, γNil, γCons, γSub, dAsg, dPar, dAug, ιSeq_eq, ιRng1_eq, ιRng2_eq, dFor, dLc, dLcM, dYes, dT, dTold, onBl_eq, onInt_eq, onSeq_lst, onSeq_tup, onSeq_str, onSome_eq, lstAt_same, dRaise, startD, List.map_cons, List.map_nil, List.length_cons, List.length_nil, List.replicate_succ, List.replicate_zero, List.cons_append, List.nil_append, List.append_nil, List.getElem?_cons_zero, List.getElem?_cons_succ, List.set_cons_zero, List.set_cons_succ, Nat.reduceAdd, Nat.reduceSub, Nat.zero_add, Nat.sub_self, ρEq_int, ρEq_str, ρEq_bl, ρNe_int, ρNe_str, ρNe_bl, ρEq_t3, ρNe_t3, ρEq_t2, ρNe_t2, intsOf_mapf, strsOf_mapf, blsOf_mapf, gK_01_0, gK_02_01, gK_02_10, gK_03_012, gK_03_021, gK_03_102, gK_03_120, gK_03_201, gK_03_210, gK_11_0, gK_12_01, gK_12_10, gK_13_012, gK_13_021, gK_13_102, gK_13_120, gK_13_201, gK_13_210, eq_self, Bool.not_true, Bool.not_false, decide_true, decide_false, strsOf_c0, strsOf_c1, strsOf_c2, strsOf_c3, strsOf_c4, strsOf_c5, strsOf_c6, strsOf_c7, strsOf_c8, intsOf_c0, intsOf_c1, intsOf_c2, intsOf_c3, intsOf_c4, intsOf_c5, intsOf_c6, intsOf_c7, intsOf_c8, blsOf_c0, blsOf_c1, blsOf_c2, blsOf_c3, blsOf_c4, blsOf_c5, blsOf_c6, blsOf_c7, blsOf_c8, ixN_30, ixN_31, ixN_32, wipeD, if_true, if_false, Bool.false_eq_true, Bool.true_eq_false, true_and, and_true, ρAdd_int, ρAdd_str, ρAdd_tup, ρAdd_lst, ρAdd_rl, ρI_int, ρI0_int, ρMul_int, ρMul_str, ρNeg_int, ρCmp_int, ρCmp_str, ρIsN_eq, ρNotN_eq, isNonD_bl, isNonD_int, isNonD_str, isNonD_tup, isNonD_lst, isNonD_ref, isNonD_non, ρSgn_one, ρAbs_int, ρMax_two, ρMin_two, ρMax_lst, ρMin_lst, ρInt_int, ρInt_bl, ρStr_int, ρLen_str, ρLen_tup, ρLen_lst, ρLen_ref, ρSum_lst, ρAll_lst, ρAny_lst, ρTupO_tup, ρTupO_lst, ρIsi_eq, is_non_int, is_non_bool, is_non_str, is_non_tuple, is_non_list, is_bl_int, is_bl_bool, is_bl_str, is_bl_tuple, is_bl_list, is_int_int, is_int_bool, is_int_str, is_int_tuple, is_int_list, is_str_int, is_str_bool, is_str_str, is_str_tuple, is_str_list, is_tup_int, is_tup_bool, is_tup_str, is_tup_tuple, is_tup_list, is_lst_int, is_lst_bool, is_lst_str, is_lst_tuple, is_lst_list, tyN_non, tyN_bl, tyN_int, tyN_str, tyN_tup, tyN_lst, ρIx_tup, ρIx_lst, ρIx_str, ρIx_ref, ρSl_str, ρSl_lst, ρSl_tup, ρApp_ref, θLst_ref, θStr_str, ςLst_ref, ρJoin_lst, γTup_tup, atI_0, atI_1, atI_2, atI_3, atI_4, atI_5, atI_6, atI_7, c_WIDTHS, sp_is_in_eq, sp_is_tuple_eq, sp_demand_eq, sp_is_bits_eq, sp_number_of_eq, sp_bits_of_eq, sp_least_of_eq, sp_code_of_eq, sp_code_eq, sp_is_code_eq, sp_decoded_of_eq, sp_decoded_eq, sp_worst_error_eq, sp_as_bits_eq, sp_of_bits_eq, sp__law_dice_eq]
      exact ⟨.inr ⟨by decide, by decide⟩, by decide, by decide, hG _ _ ⟨rfl, by unfold mixS; omega, _, rfl⟩⟩
    · obtain ⟨rfl, hs, x, rfl⟩ := hI
      simp only [dVar, dC, dOp, dUn, dTest_eq, dAnd, dOr, dNot, dAndV_eq, dOrV_eq, dNotV_eq, dIf, dChain_eq, dNil, dCons, dTup, dLst, dLstM, dCB, dBM, dNoPart, dPart_eq, dSl, dCall, dCallK, dNext, dBrk, dCnt, dSeq, dDrop, dRet, dRetN, dIfS, γName, γNil, γCons, γSub, dAsg, dPar, dAug, ιSeq_eq, ιRng1_eq, ιRng2_eq, dFor, dLc, dLcM, dYes, dT, dTold, onBl_eq, onInt_eq, onSeq_lst, onSeq_tup, onSeq_str, onSome_eq, lstAt_same, dRaise, startD, List.map_cons, List.map_nil, List.length_cons, List.length_nil, List.replicate_succ, List.replicate_zero, List.cons_append, List.nil_append, List.append_nil, List.getElem?_cons_zero, List.getElem?_cons_succ, List.set_cons_zero, List.set_cons_succ, Nat.reduceAdd, Nat.reduceSub, Nat.zero_add, Nat.sub_self, ρEq_int, ρEq_str, ρEq_bl, ρNe_int, ρNe_str, ρNe_bl, ρEq_t3, ρNe_t3, ρEq_t2, ρNe_t2, intsOf_mapf, strsOf_mapf, blsOf_mapf, gK_01_0, gK_02_01, gK_02_10, gK_03_012, gK_03_021, gK_03_102, gK_03_120, gK_03_201, gK_03_210, gK_11_0, gK_12_01, gK_12_10, gK_13_012, gK_13_021, gK_13_102, gK_13_120, gK_13_201, gK_13_210, eq_self, Bool.not_true, Bool.not_false, decide_true, decide_false, strsOf_c0, strsOf_c1, strsOf_c2, strsOf_c3, strsOf_c4, strsOf_c5, strsOf_c6, strsOf_c7, strsOf_c8, intsOf_c0, intsOf_c1, intsOf_c2, intsOf_c3, intsOf_c4, intsOf_c5, intsOf_c6, intsOf_c7, intsOf_c8, blsOf_c0, blsOf_c1, blsOf_c2, blsOf_c3, blsOf_c4, blsOf_c5, blsOf_c6, blsOf_c7, blsOf_c8, ixN_30, ixN_31, ixN_32, wipeD, if_true, if_false, Bool.false_eq_true, Bool.true_eq_false, true_and, and_true, ρAdd_int, ρAdd_str, ρAdd_tup, ρAdd_lst, ρAdd_rl, ρI_int, ρI0_int, ρMul_int, ρMul_str, ρNeg_int, ρCmp_int, ρCmp_str, ρIsN_eq, ρNotN_eq, isNonD_bl, isNonD_int, isNonD_str, isNonD_tup, isNonD_lst, isNonD_ref, isNonD_non, ρSgn_one, ρAbs_int, ρMax_two, ρMin_two, ρMax_lst, ρMin_lst, ρInt_int, ρInt_bl, ρStr_int, ρLen_str, ρLen_tup, ρLen_lst, ρLen_ref, ρSum_lst, ρAll_lst, ρAny_lst, ρTupO_tup, ρTupO_lst, ρIsi_eq, is_non_int, is_non_bool, is_non_str, is_non_tuple, is_non_list, is_bl_int, is_bl_bool, is_bl_str, is_bl_tuple, is_bl_list, is_int_int, is_int_bool, is_int_str, is_int_tuple, is_int_list, is_str_int, is_str_bool, is_str_str, is_str_tuple, is_str_list, is_tup_int, is_tup_bool, is_tup_str, is_tup_tuple, is_tup_list, is_lst_int, is_lst_bool, is_lst_str, is_lst_tuple, is_lst_list, tyN_non, tyN_bl, tyN_int, tyN_str, tyN_tup, tyN_lst, ρIx_tup, ρIx_lst, ρIx_str, ρIx_ref, ρSl_str, ρSl_lst, ρSl_tup, ρApp_ref, θLst_ref, θStr_str, ςLst_ref, ρJoin_lst, γTup_tup, atI_0, atI_1, atI_2, atI_3, atI_4, atI_5, atI_6, atI_7, c_WIDTHS, sp_is_in_eq, sp_is_tuple_eq, sp_demand_eq, sp_is_bits_eq, sp_number_of_eq, sp_bits_of_eq, sp_least_of_eq, sp_code_of_eq, sp_code_eq, sp_is_code_eq, sp_decoded_of_eq, sp_decoded_eq, sp_worst_error_eq, sp_as_bits_eq, sp_of_bits_eq, sp__law_dice_eq]
      by_cases c1 : own < 0
      · simp only [c1, decide_true, if_true]
        exact ⟨three, fun p hp => Fin.same (hk p _ ⟨_, _, _, rfl, by omega, hs, by decide, by decide⟩ hp)⟩
      · simp only [c1, decide_false, Bool.false_eq_true, if_false]
        refine ⟨⟨by decide, by decide, by decide⟩, ?_⟩
        split
        · exact ⟨three, fun p hp => Fin.same (hk p _ ⟨_, _, _, rfl, by omega, hs, by decide, by decide⟩ hp)⟩
        · exact ⟨three, fun p hp => Fin.same (hk p _ ⟨_, _, _, rfl, by decide, hs, by decide, by decide⟩ hp)⟩
  · simp only [c0, decide_false, Bool.false_eq_true, if_false]
    refine ⟨mul_ok ⟨by decide, by decide⟩, ?_⟩
    generalize 733 * i + 29 = own
    refine ⟨mul_ok ⟨by decide, by decide⟩, one, ?_, ?_⟩
    · have := hsz own
      simp only [List.length_append, List.length_cons, List.length_nil] at this
      exact sz6 this
    try rw [e]
    refine loop_st (α := Int) (g := D.int) (s0 := 910003 + 7907 * i) (fun (s : Int) τ' ds => τ' = τ ∧ 0 ≤ s ∧ ∃ x, ds = [some (.lst (zs.map D.int)), some (.int i), some (.int own), some (.int s), x]) mixS _ (fun c _ s τ' ds hI G hG => ?_) ⟨rfl, by omega, none, rfl⟩ (fun τ' ds hI => ?_)
    · obtain ⟨rfl, hs, x, rfl⟩ := hI
      simp only [dVar, dC, dOp, dUn, dTest_eq, dAnd, dOr, dNot, dAndV_eq, dOrV_eq, dNotV_eq, dIf, dChain_eq, dNil, dCons, dTup, dLst, dLstM, dCB, dBM, dNoPart, dPart_eq, dSl, dCall, dCallK, dNext, dBrk, dCnt, dSeq, dDrop, dRet, dRetN, dIfS, γName, γNil, γCons, γSub, dAsg, dPar, dAug, ιSeq_eq, ιRng1_eq, ιRng2_eq, dFor, dLc, dLcM, dYes, dT, dTold, onBl_eq, onInt_eq, onSeq_lst, onSeq_tup, onSeq_str, onSome_eq, lstAt_same, dRaise, startD, List.map_cons, List.map_nil, List.length_cons, List.length_nil, List.replicate_succ, List.replicate_zero, List.cons_append, List.nil_append, List.append_nil, List.getElem?_cons_zero, List.getElem?_cons_succ, List.set_cons_zero, List.set_cons_succ, Nat.reduceAdd, Nat.reduceSub, Nat.zero_add, Nat.sub_self, ρEq_int, ρEq_str, ρEq_bl, ρNe_int, ρNe_str, ρNe_bl, ρEq_t3, ρNe_t3, ρEq_t2, ρNe_t2, intsOf_mapf, strsOf_mapf, blsOf_mapf, gK_01_0, gK_02_01, gK_02_10, gK_03_012, gK_03_021, gK_03_102, gK_03_120, gK_03_201, gK_03_210, gK_11_0, gK_12_01, gK_12_10, gK_13_012, gK_13_021, gK_13_102, gK_13_120, gK_13_201, gK_13_210, eq_self, Bool.not_true, Bool.not_false, decide_true, decide_false, strsOf_c0, strsOf_c1, strsOf_c2, strsOf_c3, strsOf_c4, strsOf_c5, strsOf_c6, strsOf_c7, strsOf_c8, intsOf_c0, intsOf_c1, intsOf_c2, intsOf_c3, intsOf_c4, intsOf_c5, intsOf_c6, intsOf_c7, intsOf_c8, blsOf_c0, blsOf_c1, blsOf_c2, blsOf_c3, blsOf_c4, blsOf_c5, blsOf_c6, blsOf_c7, blsOf_c8, ixN_30, ixN_31, ixN_32, wipeD, if_true, if_false, Bool.false_eq_true, Bool.true_eq_false, true_and, and_true, ρAdd_int, ρAdd_str, ρAdd_tup, ρAdd_lst, ρAdd_rl, ρI_int, ρI0_int, ρMul_int, ρMul_str, ρNeg_int, ρCmp_int, ρCmp_str, ρIsN_eq, ρNotN_eq, isNonD_bl, isNonD_int, isNonD_str, isNonD_tup, isNonD_lst, isNonD_ref, isNonD_non, ρSgn_one, ρAbs_int, ρMax_two, ρMin_two, ρMax_lst, ρMin_lst, ρInt_int, ρInt_bl, ρStr_int, ρLen_str, ρLen_tup, ρLen_lst, ρLen_ref, ρSum_lst, ρAll_lst, ρAny_lst, ρTupO_tup, ρTupO_lst, ρIsi_eq, is_non_int, is_non_bool, is_non_str, is_non_tuple, is_non_list, is_bl_int, is_bl_bool, is_bl_str, is_bl_tuple, is_bl_list, is_int_int, is_int_bool, is_int_str, is_int_tuple, is_int_list, is_str_int, is_str_bool, is_str_str, is_str_tuple, is_str_list, is_tup_int, is_tup_bool, is_tup_str, is_tup_tuple, is_tup_list, is_lst_int, is_lst_bool, is_lst_str, is_lst_tuple, is_lst_list, tyN_non, tyN_bl, tyN_int, tyN_str, tyN_tup, tyN_lst, ρIx_tup, ρIx_lst, ρIx_str, ρIx_ref, ρSl_str, ρSl_lst, ρSl_tup, ρApp_ref, θLst_ref, θStr_str, ςLst_ref, ρJoin_lst, γTup_tup, atI_0, atI_1, atI_2, atI_3, atI_4, atI_5, atI_6, atI_7, c_WIDTHS, sp_is_in_eq, sp_is_tuple_eq, sp_demand_eq, sp_is_bits_eq, sp_number_of_eq, sp_bits_of_eq, sp_least_of_eq, sp_code_of_eq, sp_code_eq, sp_is_code_eq, sp_decoded_of_eq, sp_decoded_eq, sp_worst_error_eq, sp_as_bits_eq, sp_of_bits_eq, sp__law_dice_eq]
      exact ⟨.inr ⟨by decide, by decide⟩, by decide, by decide, hG _ _ ⟨rfl, by unfold mixS; omega, _, rfl⟩⟩
    · obtain ⟨rfl, hs, x, rfl⟩ := hI
      simp only [dVar, dC, dOp, dUn, dTest_eq, dAnd, dOr, dNot, dAndV_eq, dOrV_eq, dNotV_eq, dIf, dChain_eq, dNil, dCons, dTup, dLst, dLstM, dCB, dBM, dNoPart, dPart_eq, dSl, dCall, dCallK, dNext, dBrk, dCnt, dSeq, dDrop, dRet, dRetN, dIfS, γName, γNil, γCons, γSub, dAsg, dPar, dAug, ιSeq_eq, ιRng1_eq, ιRng2_eq, dFor, dLc, dLcM, dYes, dT, dTold, onBl_eq, onInt_eq, onSeq_lst, onSeq_tup, onSeq_str, onSome_eq, lstAt_same, dRaise, startD, List.map_cons, List.map_nil, List.length_cons, List.length_nil, List.replicate_succ, List.replicate_zero, List.cons_append, List.nil_append, List.append_nil, List.getElem?_cons_zero, List.getElem?_cons_succ, List.set_cons_zero, List.set_cons_succ, Nat.reduceAdd, Nat.reduceSub, Nat.zero_add, Nat.sub_self, ρEq_int, ρEq_str, ρEq_bl, ρNe_int, ρNe_str, ρNe_bl, ρEq_t3, ρNe_t3, ρEq_t2, ρNe_t2, intsOf_mapf, strsOf_mapf, blsOf_mapf, gK_01_0, gK_02_01, gK_02_10, gK_03_012, gK_03_021, gK_03_102, gK_03_120, gK_03_201, gK_03_210, gK_11_0, gK_12_01, gK_12_10, gK_13_012, gK_13_021, gK_13_102, gK_13_120, gK_13_201, gK_13_210, eq_self, Bool.not_true, Bool.not_false, decide_true, decide_false, strsOf_c0, strsOf_c1, strsOf_c2, strsOf_c3, strsOf_c4, strsOf_c5, strsOf_c6, strsOf_c7, strsOf_c8, intsOf_c0, intsOf_c1, intsOf_c2, intsOf_c3, intsOf_c4, intsOf_c5, intsOf_c6, intsOf_c7, intsOf_c8, blsOf_c0, blsOf_c1, blsOf_c2, blsOf_c3, blsOf_c4, blsOf_c5, blsOf_c6, blsOf_c7, blsOf_c8, ixN_30, ixN_31, ixN_32, wipeD, if_true, if_false, Bool.false_eq_true, Bool.true_eq_false, true_and, and_true, ρAdd_int, ρAdd_str, ρAdd_tup, ρAdd_lst, ρAdd_rl, ρI_int, ρI0_int, ρMul_int, ρMul_str, ρNeg_int, ρCmp_int, ρCmp_str, ρIsN_eq, ρNotN_eq, isNonD_bl, isNonD_int, isNonD_str, isNonD_tup, isNonD_lst, isNonD_ref, isNonD_non, ρSgn_one, ρAbs_int, ρMax_two, ρMin_two, ρMax_lst, ρMin_lst, ρInt_int, ρInt_bl, ρStr_int, ρLen_str, ρLen_tup, ρLen_lst, ρLen_ref, ρSum_lst, ρAll_lst, ρAny_lst, ρTupO_tup, ρTupO_lst, ρIsi_eq, is_non_int, is_non_bool, is_non_str, is_non_tuple, is_non_list, is_bl_int, is_bl_bool, is_bl_str, is_bl_tuple, is_bl_list, is_int_int, is_int_bool, is_int_str, is_int_tuple, is_int_list, is_str_int, is_str_bool, is_str_str, is_str_tuple, is_str_list, is_tup_int, is_tup_bool, is_tup_str, is_tup_tuple, is_tup_list, is_lst_int, is_lst_bool, is_lst_str, is_lst_tuple, is_lst_list, tyN_non, tyN_bl, tyN_int, tyN_str, tyN_tup, tyN_lst, ρIx_tup, ρIx_lst, ρIx_str, ρIx_ref, ρSl_str, ρSl_lst, ρSl_tup, ρApp_ref, θLst_ref, θStr_str, ςLst_ref, ρJoin_lst, γTup_tup, atI_0, atI_1, atI_2, atI_3, atI_4, atI_5, atI_6, atI_7, c_WIDTHS, sp_is_in_eq, sp_is_tuple_eq, sp_demand_eq, sp_is_bits_eq, sp_number_of_eq, sp_bits_of_eq, sp_least_of_eq, sp_code_of_eq, sp_code_eq, sp_is_code_eq, sp_decoded_of_eq, sp_decoded_eq, sp_worst_error_eq, sp_as_bits_eq, sp_of_bits_eq, sp__law_dice_eq]
      by_cases c1 : own < 0
      · simp only [c1, decide_true, if_true]
        exact ⟨three, fun p hp => Fin.same (hk p _ ⟨_, _, _, rfl, by omega, hs, by decide, by decide⟩ hp)⟩
      · simp only [c1, decide_false, Bool.false_eq_true, if_false]
        refine ⟨⟨by decide, by decide, by decide⟩, ?_⟩
        split
        · exact ⟨three, fun p hp => Fin.same (hk p _ ⟨_, _, _, rfl, by omega, hs, by decide, by decide⟩ hp)⟩
        · exact ⟨three, fun p hp => Fin.same (hk p _ ⟨_, _, _, rfl, by decide, hs, by decide, by decide⟩ hp)⟩
/-! ### _law_roll -/
theorem sc__law_roll : FnScope ["dice", "total", "found"] ["dice", "total"] (defScope s__law_roll) := ⟨rfl, rfl, rfl, by decide +kernel, rfl, by decide +kernel, by decide +kernel⟩
theorem bn__law_roll (M : Mod K mg) : L2.Binds K M.f__law_roll.choose ["dice", "total"] [] := fun_binds M.f__law_roll.choose_spec fun _ _ _ _ _ _ us hl => match us, hl with | [_, _], _ => rfl
def sp__law_roll : SpD := fun τ ds k KE => match ds with
  | [.ref p, .int n] => ∃ m xs, lstAt τ p = some xs ∧ Dc m xs ∧ m ≤ 1000000 ∧ (0 < n ∧ n ≤ 1000000) ∧ ∀ ys r, Dc (m + 1) ys → 0 ≤ r → r < n → k (tset τ p (.lst ys)) (.int r)
  | _ => False
theorem sp__law_roll_eq {τ : TD} {k : DK} {KE : XD} {p : Addr} {n : Int} : sp__law_roll τ [.ref p, .int n] k KE = (∃ m xs, lstAt τ p = some xs ∧ Dc m xs ∧ m ≤ 1000000 ∧ (0 < n ∧ n ≤ 1000000) ∧ ∀ ys r, Dc (m + 1) ys → 0 ≤ r → r < n → k (tset τ p (.lst ys)) (.int r)) := rfl
theorem ok__law_roll (M : Mod K mg) : FnD prog w K mg base (TT K) 2 (He.fAd K ("_law_roll", none)) M.f__law_roll.choose ["dice", "total"] sp__law_roll := by
  refine fnD_of M.f__law_roll.choose_spec sc__law_roll fun KE => ⟨_, fun cdv A outer s H E hr => (pdss_cons (pds_if (pdt_cmp op_gtU ok_cmp (pd_ix ix_seq ok_ix (pd_var (pv 0)) pd_int) pd_int (nomark _)) (pdss_cons (pds_set (i := 2) sc__law_roll.nd rfl (by first | exact .inl rfl | exact .inr rfl) (pd_op op_mod ok_mod (pd_callTy cr_int ok_int rfl M.b_int boot_int (pda_cons (pd_ix ix_seq ok_ix (pd_var (pv 0)) pd_int) pda_nil)) (pd_var (pv 1)))) (pdss_cons (pds_asg (pd_op op_fdiv ok_div (pd_ix ix_seq ok_ix (pd_var (pv 0)) pd_int) (pd_var (pv 1))) (pdg_sub (pd_var (pv 0)) pd_int set_list ok_setL)) (pdss_one (pds_ret (pd_var (pv 2)))))) pdss_nil) (pdss_cons (pds_asg (pd_op op_addU ok_add (pd_ix ix_seq ok_ix (pd_var (pv 0)) pd_int) pd_int) (pdg_sub (pd_var (pv 0)) pd_int set_list ok_setL)) (pdss_cons (pds_asg (pd_op op_mod ok_mod (pd_callTy cr_int ok_int rfl M.b_int boot_int (pda_cons (pd_op op_addU ok_add (pd_op op_addU ok_add (pd_op op_mulU ok_mul (pd_ix ix_seq ok_ix (pd_var (pv 0)) pd_int) pd_int) (pd_op op_mulU ok_mul (pd_op op_mulU ok_mul (pd_ix ix_seq ok_ix (pd_var (pv 0)) pd_int) (pd_ix ix_seq ok_ix (pd_var (pv 0)) pd_int)) pd_int)) pd_int) pda_nil)) pd_int) (pdg_sub (pd_var (pv 0)) pd_int set_list ok_setL)) (pdss_one (pds_ret (pd_op op_mod ok_mod (pd_callTy cr_int ok_int rfl M.b_int boot_int (pda_cons (pd_op op_fdiv ok_div (pd_ix ix_seq ok_ix (pd_var (pv 0)) pd_int) pd_int) pda_nil)) (pd_var (pv 1)))))))), ?_⟩
  intro τ ds k hl h
  unfold sp__law_roll at h
  split at h
  case h_2 => exact h.elim
  rename_i p n
  obtain ⟨m, xs, hx, ⟨a, b, c, rfl, ha, hb, hc, hc2⟩, hm, ⟨hn, hn2⟩, hk⟩ := h
  simp only [dVar, dC, dOp, dUn, dTest_eq, dAnd, dOr, dNot, dAndV_eq, dOrV_eq, dNotV_eq, dIf, dChain_eq, dNil, dCons, dTup, dLst, dLstM, dCB, dBM, dNoPart, dPart_eq, dSl, dCall, dCallK, dNext, dBrk, dCnt, dSeq, dDrop, dRet, dRetN, dIfS, γName, γNil, γCons, γSub, dAsg, dPar, dAug, ιSeq_eq, ιRng1_eq, ιRng2_eq, dFor, dLc, dLcM, dYes, dT, dTold, onBl_eq, onInt_eq, onSeq_lst, onSeq_tup, onSeq_str, onSome_eq, lstAt_same, dRaise, startD, List.map_cons, List.map_nil, List.length_cons, List.length_nil, List.replicate_succ, List.replicate_zero, List.cons_append, List.nil_append, List.append_nil, List.getElem?_cons_zero, List.getElem?_cons_succ, List.set_cons_zero, List.set_cons_succ, Nat.reduceAdd, Nat.reduceSub, Nat.zero_add, Nat.sub_self, ρEq_int, ρEq_str, ρEq_bl, ρNe_int, ρNe_str, ρNe_bl, ρEq_t3, ρNe_t3, ρEq_t2, ρNe_t2, intsOf_mapf, strsOf_mapf, blsOf_mapf, gK_01_0, gK_02_01, gK_02_10, gK_03_012, gK_03_021, gK_03_102, gK_03_120, gK_03_201, gK_03_210, gK_11_0, gK_12_01, gK_12_10, gK_13_012, gK_13_021, gK_13_102, gK_13_120, gK_13_201, gK_13_210, eq_self, Bool.not_true, Bool.not_false, decide_true, decide_false, strsOf_c0, strsOf_c1, strsOf_c2, strsOf_c3, strsOf_c4, strsOf_c5, strsOf_c6, strsOf_c7, strsOf_c8, intsOf_c0, intsOf_c1, intsOf_c2, intsOf_c3, intsOf_c4, intsOf_c5, intsOf_c6, intsOf_c7, intsOf_c8, blsOf_c0, blsOf_c1, blsOf_c2, blsOf_c3, blsOf_c4, blsOf_c5, blsOf_c6, blsOf_c7, blsOf_c8, ixN_30, ixN_31, ixN_32, wipeD, if_true, if_false, Bool.false_eq_true, Bool.true_eq_false, true_and, and_true, ρAdd_int, ρAdd_str, ρAdd_tup, ρAdd_lst, ρAdd_rl, ρI_int, ρI0_int, ρMul_int, ρMul_str, ρNeg_int, ρCmp_int, ρCmp_str, ρIsN_eq, ρNotN_eq, isNonD_bl, isNonD_int, isNonD_str, isNonD_tup, isNonD_lst, isNonD_ref, isNonD_non, ρSgn_one, ρAbs_int, ρMax_two, ρMin_two, ρMax_lst, ρMin_lst, ρInt_int, ρInt_bl, ρStr_int, ρLen_str, ρLen_tup, ρLen_lst, ρLen_ref, ρSum_lst, ρAll_lst, ρAny_lst, ρTupO_tup, ρTupO_lst, ρIsi_eq, is_non_int, is_non_bool, is_non_str, is_non_tuple, is_non_list, is_bl_int, is_bl_bool, is_bl_str, is_bl_tuple, is_bl_list, is_int_int, is_int_bool, is_int_str, is_int_tuple, is_int_list, is_str_int, is_str_bool, is_str_str, is_str_tuple, is_str_list, is_tup_int, is_tup_bool, is_tup_str, is_tup_tuple, is_tup_list, is_lst_int, is_lst_bool, is_lst_str, is_lst_tuple, is_lst_list, tyN_non, tyN_bl, tyN_int, tyN_str, tyN_tup, tyN_lst, ρIx_tup, ρIx_lst, ρIx_str, ρIx_ref, ρSl_str, ρSl_lst, ρSl_tup, ρApp_ref, θLst_ref, θStr_str, ςLst_ref, ρJoin_lst, γTup_tup, atI_0, atI_1, atI_2, atI_3, atI_4, atI_5, atI_6, atI_7, c_WIDTHS, sp_is_in_eq, sp_is_tuple_eq, sp_demand_eq, sp_is_bits_eq, sp_number_of_eq, sp_bits_of_eq, sp_least_of_eq, sp_code_of_eq, sp_code_eq, sp_is_code_eq, sp_decoded_of_eq, sp_decoded_eq, sp_worst_error_eq, sp_as_bits_eq, sp_of_bits_eq, sp__law_dice_eq, sp__law_roll_eq, hx, tset_tset]
  by_cases e : 0 < a
  · simp only [e, decide_true, if_true]
    exact ⟨hn, ⟨hn, by omega⟩, Fin.same (hk _ _ ⟨_, _, _, rfl, Int.ediv_nonneg ha (by omega), hb, hc, by omega⟩ (Int.emod_nonneg _ (by omega)) (Int.emod_lt_of_pos _ hn))⟩
  · simp only [e, decide_false, Bool.false_eq_true, if_false]
    refine ⟨.inr ⟨by decide, by decide⟩, .inl ⟨by omega, by omega⟩, .inr ⟨by decide, by decide⟩, by decide, ⟨by decide, by decide⟩, hn, Fin.same (hk _ _ ⟨_, _, _, rfl, ha, Int.emod_nonneg _ (by decide), by omega, by omega⟩ (Int.emod_nonneg _ (by omega)) (Int.emod_lt_of_pos _ hn))⟩
/-! ### _law_pick -/
theorem sc__law_pick : FnScope ["dice", "things"] ["dice", "things"] (defScope s__law_pick) := ⟨rfl, rfl, rfl, by decide +kernel, rfl, by decide +kernel, by decide +kernel⟩
theorem bn__law_pick (M : Mod K mg) : L2.Binds K M.f__law_pick.choose ["dice", "things"] [] := fun_binds M.f__law_pick.choose_spec fun _ _ _ _ _ _ us hl => match us, hl with | [_, _], _ => rfl
def seqOf (v : D) : List D := match v with
  | .lst xs => xs
  | .tup xs => xs
  | _ => []
def sp__law_pick : SpD := fun τ ds k KE => match ds with
  | [.ref p, v] => ∃ m xs, lstAt τ p = some xs ∧ Dc m xs ∧ m ≤ 1000000 ∧ (0 < (seqOf v).length ∧ (seqOf v).length ≤ 1000000) ∧ ∀ ys d, Dc (m + 1) ys → d ∈ seqOf v → k (tset τ p (.lst ys)) d
  | _ => False
theorem sp__law_pick_eq {τ : TD} {k : DK} {KE : XD} {p : Addr} {v : D} : sp__law_pick τ [.ref p, v] k KE = (∃ m xs, lstAt τ p = some xs ∧ Dc m xs ∧ m ≤ 1000000 ∧ (0 < (seqOf v).length ∧ (seqOf v).length ≤ 1000000) ∧ ∀ ys d, Dc (m + 1) ys → d ∈ seqOf v → k (tset τ p (.lst ys)) d) := rfl
theorem ok__law_pick (M : Mod K mg) : FnD prog w K mg base (TT K) 3 (He.fAd K ("_law_pick", none)) M.f__law_pick.choose ["dice", "things"] sp__law_pick := by
  refine fnD_of M.f__law_pick.choose_spec sc__law_pick fun KE => ⟨_, fun cdv A outer s H E hr => (pdss_one (pds_ret (pd_ix ix_seq ok_ix (pd_var (pv 1)) (pd_call (ok__law_roll M) (hr.mono (by decide)) rfl M.g__law_roll M.f__law_roll.choose_spec.kp (bn__law_roll M) .nil .nil passD (pda_cons (pd_var (pv 0)) (pda_cons (pd_callB cr_len ok_len rfl M.b_len boot_len (pda_cons (pd_var (pv 1)) pda_nil)) pda_nil)))))), ?_⟩
  intro τ ds k hl h
  unfold sp__law_pick at h
  split at h
  case h_2 => exact h.elim
  rename_i p v
  obtain ⟨m, xs, hx, hd, hm, ⟨hn, hn2⟩, hk⟩ := h
  have key : ∀ l : List D, 0 < l.length → ∀ r : Int, 0 ≤ r → r < ((l.length : Nat) : Int) → ∃ d, atI l r = some d ∧ d ∈ l := fun l hl r h1 h2 => by
    obtain ⟨n, rfl⟩ := Int.eq_ofNat_of_zero_le h1
    have hn : n < l.length := by omega
    exact ⟨l[n], by rw [atI_nat hn]; simp [hn], List.getElem_mem hn⟩
  cases v with
  | lst l =>
    simp only [dVar, dC, dOp, dUn, dTest_eq, dAnd, dOr, dNot, dAndV_eq, dOrV_eq, dNotV_eq, dIf, dChain_eq, dNil, dCons, dTup, dLst, dLstM, dCB, dBM, dNoPart, dPart_eq, dSl, dCall, dCallK, dNext, dBrk, dCnt, dSeq, dDrop, dRet, dRetN, dIfS, γName, γNil, γCons, γSub, dAsg, dPar, dAug, ιSeq_eq, ιRng1_eq, ιRng2_eq, dFor, dLc, dLcM, dYes, dT, dTold, onBl_eq, onInt_eq, onSeq_lst, onSeq_tup, onSeq_str, onSome_eq, lstAt_same, dRaise, startD, List.map_cons, List.map_nil, List.length_cons, List.length_nil, List.replicate_succ, List.replicate_zero, List.cons_append, List.nil_append, List.append_nil, List.getElem?_cons_zero, List.getElem?_cons_succ, List.set_cons_zero, List.set_cons_succ, Nat.reduceAdd, Nat.reduceSub, Nat.zero_add, Nat.sub_self, ρEq_int, ρEq_str, ρEq_bl, ρNe_int, ρNe_str, ρNe_bl, ρEq_t3, ρNe_t3, ρEq_t2, ρNe_t2, intsOf_mapf, strsOf_mapf, blsOf_mapf, gK_01_0, gK_02_01, gK_02_10, gK_03_012, gK_03_021, gK_03_102, gK_03_120, gK_03_201, gK_03_210, gK_11_0, gK_12_01, gK_12_10, gK_13_012, gK_13_021, gK_13_102, gK_13_120, gK_13_201, gK_13_210, eq_self, Bool.not_true, Bool.not_false, decide_true, decide_false, strsOf_c0, strsOf_c1, strsOf_c2, strsOf_c3, strsOf_c4, strsOf_c5, strsOf_c6, strsOf_c7, strsOf_c8, intsOf_c0, intsOf_c1, intsOf_c2, intsOf_c3, intsOf_c4, intsOf_c5, intsOf_c6, intsOf_c7, intsOf_c8, blsOf_c0, blsOf_c1, blsOf_c2, blsOf_c3, blsOf_c4, blsOf_c5, blsOf_c6, blsOf_c7, blsOf_c8, ixN_30, ixN_31, ixN_32, wipeD, if_true, if_false, Bool.false_eq_true, Bool.true_eq_false, true_and, and_true, ρAdd_int, ρAdd_str, ρAdd_tup, ρAdd_lst, ρAdd_rl, ρI_int, ρI0_int, ρMul_int, ρMul_str, ρNeg_int, ρCmp_int, ρCmp_str, ρIsN_eq, ρNotN_eq, isNonD_bl, isNonD_int, isNonD_str, isNonD_tup, isNonD_lst, isNonD_ref, isNonD_non, ρSgn_one, ρAbs_int, ρMax_two, ρMin_two, ρMax_lst, ρMin_lst, ρInt_int, ρInt_bl, ρStr_int, ρLen_str, ρLen_tup, ρLen_lst, ρLen_ref, ρSum_lst, ρAll_lst, ρAny_lst, ρTupO_tup, ρTupO_lst, ρIsi_eq, is_non_int, is_non_bool, is_non_str, is_non_tuple, is_non_list, is_bl_int, is_bl_bool, is_bl_str, is_bl_tuple, is_bl_list, is_int_int, is_int_bool, is_int_str, is_int_tuple, is_int_list, is_str_int, is_str_bool, is_str_str, is_str_tuple, is_str_list, is_tup_int, is_tup_bool, is_tup_str, is_tup_tuple, is_tup_list, is_lst_int, is_lst_bool, is_lst_str, is_lst_tuple, is_lst_list, tyN_non, tyN_bl, tyN_int, tyN_str, tyN_tup, tyN_lst, ρIx_tup, ρIx_lst, ρIx_str, ρIx_ref, ρSl_str, ρSl_lst, ρSl_tup, ρApp_ref, θLst_ref, θStr_str, ςLst_ref, ρJoin_lst, γTup_tup, atI_0, atI_1, atI_2, atI_3, atI_4, atI_5, atI_6, atI_7, c_WIDTHS, sp_is_in_eq, sp_is_tuple_eq, sp_demand_eq, sp_is_bits_eq, sp_number_of_eq, sp_bits_of_eq, sp_least_of_eq, sp_code_of_eq, sp_code_eq, sp_is_code_eq, sp_decoded_of_eq, sp_decoded_eq, sp_worst_error_eq, sp_as_bits_eq, sp_of_bits_eq, sp__law_dice_eq, sp__law_roll_eq, sp__law_pick_eq]
    refine ⟨m, xs, hx, hd, hm, ⟨by simp only [seqOf] at hn; omega, by simp only [seqOf] at hn2; omega⟩, fun ys r hy h1 h2 => ?_⟩
    obtain ⟨d, e1, e2⟩ := key l (by simpa only [seqOf] using hn) r h1 h2
    simp only [dVar, dC, dOp, dUn, dTest_eq, dAnd, dOr, dNot, dAndV_eq, dOrV_eq, dNotV_eq, dIf, dChain_eq, dNil, dCons, dTup, dLst, dLstM, dCB, dBM, dNoPart, dPart_eq, dSl, dCall, dCallK, dNext, dBrk, dCnt, dSeq, dDrop, dRet, dRetN, dIfS, γName, γNil, γCons, γSub, dAsg, dPar, dAug, ιSeq_eq, ιRng1_eq, ιRng2_eq, dFor, dLc, dLcM, dYes, dT, dTold, onBl_eq, onInt_eq, onSeq_lst, onSeq_tup, onSeq_str, onSome_eq, lstAt_same, dRaise, startD, List.map_cons, List.map_nil, List.length_cons, List.length_nil, List.replicate_succ, List.replicate_zero, List.cons_append, List.nil_append, List.append_nil, List.getElem?_cons_zero, List.getElem?_cons_succ, List.set_cons_zero, List.set_cons_succ, Nat.reduceAdd, Nat.reduceSub, Nat.zero_add, Nat.sub_self, ρEq_int, ρEq_str, ρEq_bl, ρNe_int, ρNe_str, ρNe_bl, ρEq_t3, ρNe_t3, ρEq_t2, ρNe_t2, intsOf_mapf, strsOf_mapf, blsOf_mapf, gK_01_0, gK_02_01, gK_02_10, gK_03_012, gK_03_021, gK_03_102, gK_03_120, gK_03_201, gK_03_210, gK_11_0, gK_12_01, gK_12_10, gK_13_012, gK_13_021, gK_13_102, gK_13_120, gK_13_201, gK_13_210, eq_self, Bool.not_true, Bool.not_false, decide_true, decide_false, strsOf_c0, strsOf_c1, strsOf_c2, strsOf_c3, strsOf_c4, strsOf_c5, strsOf_c6, strsOf_c7, strsOf_c8, intsOf_c0, intsOf_c1, intsOf_c2, intsOf_c3, intsOf_c4, intsOf_c5, intsOf_c6, intsOf_c7, intsOf_c8, blsOf_c0, blsOf_c1, blsOf_c2, blsOf_c3, blsOf_c4, blsOf_c5, blsOf_c6, blsOf_c7, blsOf_c8, ixN_30, ixN_31, ixN_32, wipeD, if_true, if_false, Bool.false_eq_true, Bool.true_eq_false, true_and, and_true, ρAdd_int, ρAdd_str, ρAdd_tup, ρAdd_lst, ρAdd_rl, ρI_int, ρI0_int, ρMul_int, ρMul_str, ρNeg_int, ρCmp_int, ρCmp_str, ρIsN_eq, ρNotN_eq, isNonD_bl, isNonD_int, isNonD_str, isNonD_tup, isNonD_lst, isNonD_ref, isNonD_non, ρSgn_one, ρAbs_int, ρMax_two, ρMin_two, ρMax_lst, ρMin_lst, ρInt_int, ρInt_bl, ρStr_int, ρLen_str, ρLen_tup, ρLen_lst, ρLen_ref, ρSum_lst, ρAll_lst, ρAny_lst, ρTupO_tup, ρTupO_lst, ρIsi_eq, is_non_int, is_non_bool, is_non_str, is_non_tuple, is_non_list, is_bl_int, is_bl_bool, is_bl_str, is_bl_tuple, is_bl_list, is_int_int, is_int_bool, is_int_str, is_int_tuple, is_int_list, is_str_int, is_str_bool, is_str_str, is_str_tuple, is_str_list, is_tup_int, is_tup_bool, is_tup_str, is_tup_tuple, is_tup_list, is_lst_int, is_lst_bool, is_lst_str, is_lst_tuple, is_lst_list, tyN_non, tyN_bl, tyN_int, tyN_str, tyN_tup, tyN_lst, ρIx_tup, ρIx_lst, ρIx_str, ρIx_ref, ρSl_str, ρSl_lst, ρSl_tup, ρApp_ref, θLst_ref, θStr_str, ςLst_ref, ρJoin_lst, γTup_tup, atI_0, atI_1, atI_2, atI_3, atI_4, atI_5, atI_6, atI_7, c_WIDTHS, sp_is_in_eq, sp_is_tuple_eq, sp_demand_eq, sp_is_bits_eq, sp_number_of_eq, sp_bits_of_eq, sp_least_of_eq, sp_code_of_eq, sp_code_eq, sp_is_code_eq, sp_decoded_of_eq, sp_decoded_eq, sp_worst_error_eq, sp_as_bits_eq, sp_of_bits_eq, sp__law_dice_eq, sp__law_roll_eq, sp__law_pick_eq, e1]
    exact Fin.same (hk ys d hy e2)
  | tup l =>
    simp only [dVar, dC, dOp, dUn, dTest_eq, dAnd, dOr, dNot, dAndV_eq, dOrV_eq, dNotV_eq, dIf, dChain_eq, dNil, dCons, dTup, dLst, dLstM, dCB, dBM, dNoPart, dPart_eq, dSl, dCall, dCallK, dNext, dBrk, dCnt, dSeq, dDrop, dRet, dRetN, dIfS, γName, γNil, γCons, γSub, dAsg, dPar, dAug, ιSeq_eq, ιRng1_eq, ιRng2_eq, dFor, dLc, dLcM, dYes, dT, dTold, onBl_eq, onInt_eq, onSeq_lst, onSeq_tup, onSeq_str, onSome_eq, lstAt_same, dRaise, startD, List.map_cons, List.map_nil, List.length_cons, List.length_nil, List.replicate_succ, List.replicate_zero, List.cons_append, List.nil_append, List.append_nil, List.getElem?_cons_zero, List.getElem?_cons_succ, List.set_cons_zero, List.set_cons_succ, Nat.reduceAdd, Nat.reduceSub, Nat.zero_add, Nat.sub_self, ρEq_int, ρEq_str, ρEq_bl, ρNe_int, ρNe_str, ρNe_bl, ρEq_t3, ρNe_t3, ρEq_t2, ρNe_t2, intsOf_mapf, strsOf_mapf, blsOf_mapf, gK_01_0, gK_02_01, gK_02_10, gK_03_012, gK_03_021, gK_03_102, gK_03_120, gK_03_201, gK_03_210, gK_11_0, gK_12_01, gK_12_10, gK_13_012, gK_13_021, gK_13_102, gK_13_120, gK_13_201, gK_13_210, eq_self, Bool.not_true, Bool.not_false, decide_true, decide_false, strsOf_c0, strsOf_c1, strsOf_c2, strsOf_c3, strsOf_c4, strsOf_c5, strsOf_c6, strsOf_c7, strsOf_c8, intsOf_c0, intsOf_c1, intsOf_c2, intsOf_c3, intsOf_c4, intsOf_c5, intsOf_c6, intsOf_c7, intsOf_c8, blsOf_c0, blsOf_c1, blsOf_c2, blsOf_c3, blsOf_c4, blsOf_c5, blsOf_c6, blsOf_c7, blsOf_c8, ixN_30, ixN_31, ixN_32, wipeD, if_true, if_false, Bool.false_eq_true, Bool.true_eq_false, true_and, and_true, ρAdd_int, ρAdd_str, ρAdd_tup, ρAdd_lst, ρAdd_rl, ρI_int, ρI0_int, ρMul_int, ρMul_str, ρNeg_int, ρCmp_int, ρCmp_str, ρIsN_eq, ρNotN_eq, isNonD_bl, isNonD_int, isNonD_str, isNonD_tup, isNonD_lst, isNonD_ref, isNonD_non, ρSgn_one, ρAbs_int, ρMax_two, ρMin_two, ρMax_lst, ρMin_lst, ρInt_int, ρInt_bl, ρStr_int, ρLen_str, ρLen_tup, ρLen_lst, ρLen_ref, ρSum_lst, ρAll_lst, ρAny_lst, ρTupO_tup, ρTupO_lst, ρIsi_eq, is_non_int, is_non_bool, is_non_str, is_non_tuple, is_non_list, is_bl_int, is_bl_bool, is_bl_str, is_bl_tuple, is_bl_list, is_int_int, is_int_bool, is_int_str, is_int_tuple, is_int_list, is_str_int, is_str_bool, is_str_str, is_str_tuple, is_str_list, is_tup_int, is_tup_bool, is_tup_str, is_tup_tuple, is_tup_list, is_lst_int, is_lst_bool, is_lst_str, is_lst_tuple, is_lst_list, tyN_non, tyN_bl, tyN_int, tyN_str, tyN_tup, tyN_lst, ρIx_tup, ρIx_lst, ρIx_str, ρIx_ref, ρSl_str, ρSl_lst, ρSl_tup, ρApp_ref, θLst_ref, θStr_str, ςLst_ref, ρJoin_lst, γTup_tup, atI_0, atI_1, atI_2, atI_3, atI_4, atI_5, atI_6, atI_7, c_WIDTHS, sp_is_in_eq, sp_is_tuple_eq, sp_demand_eq, sp_is_bits_eq, sp_number_of_eq, sp_bits_of_eq, sp_least_of_eq, sp_code_of_eq, sp_code_eq, sp_is_code_eq, sp_decoded_of_eq, sp_decoded_eq, sp_worst_error_eq, sp_as_bits_eq, sp_of_bits_eq, sp__law_dice_eq, sp__law_roll_eq, sp__law_pick_eq]
    refine ⟨m, xs, hx, hd, hm, ⟨by simp only [seqOf] at hn; omega, by simp only [seqOf] at hn2; omega⟩, fun ys r hy h1 h2 => ?_⟩
    obtain ⟨d, e1, e2⟩ := key l (by simpa only [seqOf] using hn) r h1 h2
    simp only [dVar, dC, dOp, dUn, dTest_eq, dAnd, dOr, dNot, dAndV_eq, dOrV_eq, dNotV_eq, dIf, dChain_eq, dNil, dCons, dTup, dLst, dLstM, dCB, dBM, dNoPart, dPart_eq, dSl, dCall, dCallK, dNext, dBrk, dCnt, dSeq, dDrop, dRet, dRetN, dIfS, γName, γNil, γCons, γSub, dAsg, dPar, dAug, ιSeq_eq, ιRng1_eq, ιRng2_eq, dFor, dLc, dLcM, dYes, dT, dTold, onBl_eq, onInt_eq, onSeq_lst, onSeq_tup, onSeq_str, onSome_eq, lstAt_same, dRaise, startD, List.map_cons, List.map_nil, List.length_cons, List.length_nil, List.replicate_succ, List.replicate_zero, List.cons_append, List.nil_append, List.append_nil, List.getElem?_cons_zero, List.getElem?_cons_succ, List.set_cons_zero, List.set_cons_succ, Nat.reduceAdd, Nat.reduceSub, Nat.zero_add, Nat.sub_self, ρEq_int, ρEq_str, ρEq_bl, ρNe_int, ρNe_str, ρNe_bl, ρEq_t3, ρNe_t3, ρEq_t2, ρNe_t2, intsOf_mapf, strsOf_mapf, blsOf_mapf, gK_01_0, gK_02_01, gK_02_10, gK_03_012, gK_03_021, gK_03_102, gK_03_120, gK_03_201, gK_03_210, gK_11_0, gK_12_01, gK_12_10, gK_13_012, gK_13_021, gK_13_102, gK_13_120, gK_13_201, gK_13_210, eq_self, Bool.not_true, Bool.not_false, decide_true, decide_false, strsOf_c0, strsOf_c1, strsOf_c2, strsOf_c3, strsOf_c4, strsOf_c5, strsOf_c6, strsOf_c7, strsOf_c8, intsOf_c0, intsOf_c1, intsOf_c2, intsOf_c3, intsOf_c4, intsOf_c5, intsOf_c6, intsOf_c7, intsOf_c8, blsOf_c0, blsOf_c1, blsOf_c2, blsOf_c3, blsOf_c4, blsOf_c5, blsOf_c6, blsOf_c7, blsOf_c8, ixN_30, ixN_31, ixN_32, wipeD, if_true, if_false, Bool.false_eq_true, Bool.true_eq_false, true_and, and_true, ρAdd_int, ρAdd_str, ρAdd_tup, ρAdd_lst, ρAdd_rl, ρI_int, ρI0_int, ρMul_int, ρMul_str, ρNeg_int, ρCmp_int, ρCmp_str, ρIsN_eq, ρNotN_eq, isNonD_bl, isNonD_int, isNonD_str, isNonD_tup, isNonD_lst, isNonD_ref, isNonD_non, ρSgn_one, ρAbs_int, ρMax_two, ρMin_two, ρMax_lst, ρMin_lst, ρInt_int, ρInt_bl, ρStr_int, ρLen_str, ρLen_tup, ρLen_lst, ρLen_ref, ρSum_lst, ρAll_lst, ρAny_lst, ρTupO_tup, ρTupO_lst, ρIsi_eq, is_non_int, is_non_bool, is_non_str, is_non_tuple, is_non_list, is_bl_int, is_bl_bool, is_bl_str, is_bl_tuple, is_bl_list, is_int_int, is_int_bool, is_int_str, is_int_tuple, is_int_list, is_str_int, is_str_bool, is_str_str, is_str_tuple, is_str_list, is_tup_int, is_tup_bool, is_tup_str, is_tup_tuple, is_tup_list, is_lst_int, is_lst_bool, is_lst_str, is_lst_tuple, is_lst_list, tyN_non, tyN_bl, tyN_int, tyN_str, tyN_tup, tyN_lst, ρIx_tup, ρIx_lst, ρIx_str, ρIx_ref, ρSl_str, ρSl_lst, ρSl_tup, ρApp_ref, θLst_ref, θStr_str, ςLst_ref, ρJoin_lst, γTup_tup, atI_0, atI_1, atI_2, atI_3, atI_4, atI_5, atI_6, atI_7, c_WIDTHS, sp_is_in_eq, sp_is_tuple_eq, sp_demand_eq, sp_is_bits_eq, sp_number_of_eq, sp_bits_of_eq, sp_least_of_eq, sp_code_of_eq, sp_code_eq, sp_is_code_eq, sp_decoded_of_eq, sp_decoded_eq, sp_worst_error_eq, sp_as_bits_eq, sp_of_bits_eq, sp__law_dice_eq, sp__law_roll_eq, sp__law_pick_eq, e1]
    exact Fin.same (hk ys d hy e2)
  | _ => exact absurd hn (by simp [seqOf])
end
end LW

set_option Elab.async false
set_option linter.all false
set_option maxRecDepth 100000
set_option maxHeartbeats 0
namespace LW
open PySem PySem.Spec PyProof.Rows L2 DL DX
section
variable {w : World} {K : PySem.W.Frag} {mg : Str → Option Value} {base : Heap}
/-! ### _law_steps -/
theorem sc__law_steps : FnScope ["found", "here", "segment", "width", "step"] [] (defScope s__law_steps) := ⟨rfl, rfl, rfl, by decide +kernel, rfl, by decide +kernel, by decide +kernel⟩
theorem bn__law_steps (M : Mod K mg) : L2.Binds K M.f__law_steps.choose [] [] := fun_binds M.f__law_steps.choose_spec fun _ _ _ _ _ _ us hl => match us, hl with | [], _ => rfl
abbrev Row := Int × Int × Int × Int
def rowD (r : Row) : D := .tup [.int r.1, .int r.2.1, .int r.2.2.1, .int r.2.2.2]
def rowF (c : Nat) (s : List Row × Int) (t : Nat) : List Row × Int := (s.1 ++ [(0 + (c : Int), 0 + (t : Int), s.2, widthI (0 + (c : Int)))], s.2 + widthI (0 + (c : Int)))
def rowsF (s : List Row × Int) (c : Nat) : List Row × Int := (List.range 16).foldl (rowF c) s
def stepsL : List Row := ((List.range 8).foldl rowsF ([], 0)).1
theorem rowF_len (c : Nat) (l : List Nat) : ∀ s : List Row × Int, (l.foldl (rowF c) s).1.length = s.1.length + l.length := by
  induction l with
  | nil => exact fun s => rfl
  | cons a l ih =>
    intro s
    rw [List.foldl_cons, ih]
    simp [rowF]
    omega
def sp__law_steps : SpD := fun τ ds k KE => match ds with
  | [] => k τ (.lst (stepsL.map rowD))
  | _ => False
theorem sp__law_steps_eq {τ : TD} {k : DK} {KE : XD}  : sp__law_steps τ [] k KE = (k τ (.lst (stepsL.map rowD))) := rfl
theorem ok__law_steps (M : Mod K mg) : FnD prog w K mg base (TT K) 2 (He.fAd K ("_law_steps", none)) M.f__law_steps.choose [] sp__law_steps := by
  refine fnD_of M.f__law_steps.choose_spec sc__law_steps fun KE => ⟨_, fun cdv A outer s H E hr => (pdss_cons (pds_par (i := 0) (j := 1) rfl sc__law_steps.nd rfl rfl (by decide) rfl rfl (pda_cons (pd_lstM pda_nil) (pda_cons pd_int pda_nil))) (pdss_cons (pds_for ownD rfl (pdi_range1 rfl M.b_range (pda_cons pd_int pda_nil)) (pdg_name (i := 2) sc__law_steps.nd rfl (by first | exact .inl rfl | exact .inr rfl)) (pdss_cons (pds_set (i := 3) sc__law_steps.nd rfl (by first | exact .inl rfl | exact .inr rfl) (pd_ix ix_seq ok_ix (pd_lst (pda_cons pd_int (pda_cons pd_int (pda_cons pd_int (pda_cons pd_int (pda_cons pd_int (pda_cons pd_int (pda_cons pd_int (pda_cons pd_int pda_nil))))))))) (pd_var (pv 2)))) (pdss_one (pds_for ownD rfl (pdi_range1 rfl M.b_range (pda_cons pd_int pda_nil)) (pdg_name (i := 4) sc__law_steps.nd rfl (by first | exact .inl rfl | exact .inr rfl)) (pdss_cons (pds_expr (pd_bm PySem.F.plainAttrs_list PySem.F.slot_list_append PySem.F.type_list_append mt_append ok_app ty_lst (pd_var (pv 0)) (pda_cons (pd_tup (pda_cons (pd_var (pv 2)) (pda_cons (pd_var (pv 4)) (pda_cons (pd_var (pv 1)) (pda_cons (pd_var (pv 3)) pda_nil))))) pda_nil))) (pdss_one (pds_set (i := 1) sc__law_steps.nd rfl (by first | exact .inl rfl | exact .inr rfl) (pd_op op_addU ok_add (pd_var (pv 1)) (pd_var (pv 3)))))))))) (pdss_one (pds_ret (pd_var (pv 0)))))), ?_⟩
  intro τ ds k hl h
  unfold sp__law_steps at h
  split at h
  case h_2 => exact h.elim
  simp only [dVar, dC, dOp, dUn, dTest_eq, dAnd, dOr, dNot, dAndV_eq, dOrV_eq, dNotV_eq, dIf, dChain_eq, dNil, dCons, dTup, dLst, dLstM, dCB, dBM, dNoPart, dPart_eq, dSl, dCall, dCallK, dNext, dBrk, dCnt, dSeq, dDrop, dRet, dRetN, dIfS, γName, γNil, γCons, γSub, dAsg, dPar, dAug, ιSeq_eq, ιRng1_eq, ιRng2_eq, dFor, dLc, dLcM, dYes, dT, dTold, onBl_eq, onInt_eq, onSeq_lst, onSeq_tup, onSeq_str, onSome_eq, lstAt_same, dRaise, startD, List.map_cons, List.map_nil, List.length_cons, List.length_nil, List.replicate_succ, List.replicate_zero, List.cons_append, List.nil_append, List.append_nil, List.getElem?_cons_zero, List.getElem?_cons_succ, List.set_cons_zero, List.set_cons_succ, Nat.reduceAdd, Nat.reduceSub, Nat.zero_add, Nat.sub_self, ρEq_int, ρEq_str, ρEq_bl, ρNe_int, ρNe_str, ρNe_bl, ρEq_t3, ρNe_t3, ρEq_t2, ρNe_t2, intsOf_mapf, strsOf_mapf, blsOf_mapf, gK_01_0, gK_02_01, gK_02_10, gK_03_012, gK_03_021, gK_03_102, gK_03_120, gK_03_201, gK_03_210, gK_11_0, gK_12_01, gK_12_10, gK_13_012, gK_13_021, gK_13_102, gK_13_120, gK_13_201, gK_13_210, eq_self, Bool.not_true, Bool.not_false, decide_true, decide_false, strsOf_c0, strsOf_c1, strsOf_c2, strsOf_c3, strsOf_c4, strsOf_c5, strsOf_c6, strsOf_c7, strsOf_c8, intsOf_c0, intsOf_c1, intsOf_c2, intsOf_c3, intsOf_c4, intsOf_c5, intsOf_c6, intsOf_c7, intsOf_c8, blsOf_c0, blsOf_c1, blsOf_c2, blsOf_c3, blsOf_c4, blsOf_c5, blsOf_c6, blsOf_c7, blsOf_c8, ixN_30, ixN_31, ixN_32, wipeD, if_true, if_false, Bool.false_eq_true, Bool.true_eq_false, true_and, and_true, ρAdd_int, ρAdd_str, ρAdd_tup, ρAdd_lst, ρAdd_rl, ρI_int, ρI0_int, ρMul_int, ρMul_str, ρNeg_int, ρCmp_int, ρCmp_str, ρIsN_eq, ρNotN_eq, isNonD_bl, isNonD_int, isNonD_str, isNonD_tup, isNonD_lst, isNonD_ref, isNonD_non, ρSgn_one, ρAbs_int, ρMax_two, ρMin_two, ρMax_lst, ρMin_lst, ρInt_int, ρInt_bl, ρStr_int, ρLen_str, ρLen_tup, ρLen_lst, ρLen_ref, ρSum_lst, ρAll_lst, ρAny_lst, ρTupO_tup, ρTupO_lst, ρIsi_eq, is_non_int, is_non_bool, is_non_str, is_non_tuple, is_non_list, is_bl_int, is_bl_bool, is_bl_str, is_bl_tuple, is_bl_list, is_int_int, is_int_bool, is_int_str, is_int_tuple, is_int_list, is_str_int, is_str_bool, is_str_str, is_str_tuple, is_str_list, is_tup_int, is_tup_bool, is_tup_str, is_tup_tuple, is_tup_list, is_lst_int, is_lst_bool, is_lst_str, is_lst_tuple, is_lst_list, tyN_non, tyN_bl, tyN_int, tyN_str, tyN_tup, tyN_lst, ρIx_tup, ρIx_lst, ρIx_str, ρIx_ref, ρSl_str, ρSl_lst, ρSl_tup, ρApp_ref, θLst_ref, θStr_str, ςLst_ref, ρJoin_lst, γTup_tup, atI_0, atI_1, atI_2, atI_3, atI_4, atI_5, atI_6, atI_7, c_WIDTHS, sp_is_in_eq, sp_is_tuple_eq, sp_demand_eq, sp_is_bits_eq, sp_number_of_eq, sp_bits_of_eq, sp_least_of_eq, sp_code_of_eq, sp_code_eq, sp_is_code_eq, sp_decoded_of_eq, sp_decoded_eq, sp_worst_error_eq, sp_as_bits_eq, sp_of_bits_eq, sp__law_dice_eq, sp__law_roll_eq, sp__law_pick_eq, sp__law_steps_eq]
  refine ⟨by rw [sizeLine_eq]; decide, fun L hL => ⟨⟨by decide, by decide⟩, ?_⟩⟩
  refine loop_stn (α := Nat) (g := fun (i : Nat) => .int (0 + (i : Int))) (s0 := (([] : List Row), (0 : Int))) (fun i s τ' ds => (τ' = tset τ L (.lst (s.1.map rowD)) ∧ s.1.length = 16 * i) ∧ ∃ x y z, ds = [some (.ref L), some (.int s.2), x, y, z]) rowsF (List.range 8) (fun i c hi hc s τ' ds hI G hG => ?_) ⟨⟨rfl, rfl⟩, none, none, none, rfl⟩ (fun τ' ds hI => ?_)
  · obtain ⟨⟨rfl, hlen⟩, x, y, z, rfl⟩ := hI
    have hi : i < 8 := by simpa using hi
    have hc : i = c := by
      rw [List.getElem?_range hi] at hc
      exact Option.some.inj hc
    subst hc
    have h8 : 0 ≤ 0 + (i : Int) ∧ 0 + (i : Int) < 8 := by omega
    simp only [dVar, dC, dOp, dUn, dTest_eq, dAnd, dOr, dNot, dAndV_eq, dOrV_eq, dNotV_eq, dIf, dChain_eq, dNil, dCons, dTup, dLst, dLstM, dCB, dBM, dNoPart, dPart_eq, dSl, dCall, dCallK, dNext, dBrk, dCnt, dSeq, dDrop, dRet, dRetN, dIfS, γName, γNil, γCons, γSub, dAsg, dPar, dAug, ιSeq_eq, ιRng1_eq, ιRng2_eq, dFor, dLc, dLcM, dYes, dT, dTold, onBl_eq, onInt_eq, onSeq_lst, onSeq_tup, onSeq_str, onSome_eq, lstAt_same, dRaise, startD, List.map_cons, List.map_nil, List.length_cons, List.length_nil, List.replicate_succ, List.replicate_zero, List.cons_append, List.nil_append, List.append_nil, List.getElem?_cons_zero, List.getElem?_cons_succ, List.set_cons_zero, List.set_cons_succ, Nat.reduceAdd, Nat.reduceSub, Nat.zero_add, Nat.sub_self, ρEq_int, ρEq_str, ρEq_bl, ρNe_int, ρNe_str, ρNe_bl, ρEq_t3, ρNe_t3, ρEq_t2, ρNe_t2, intsOf_mapf, strsOf_mapf, blsOf_mapf, gK_01_0, gK_02_01, gK_02_10, gK_03_012, gK_03_021, gK_03_102, gK_03_120, gK_03_201, gK_03_210, gK_11_0, gK_12_01, gK_12_10, gK_13_012, gK_13_021, gK_13_102, gK_13_120, gK_13_201, gK_13_210, eq_self, Bool.not_true, Bool.not_false, decide_true, decide_false, strsOf_c0, strsOf_c1, strsOf_c2, strsOf_c3, strsOf_c4, strsOf_c5, strsOf_c6, strsOf_c7, strsOf_c8, intsOf_c0, intsOf_c1, intsOf_c2, intsOf_c3, intsOf_c4, intsOf_c5, intsOf_c6, intsOf_c7, intsOf_c8, blsOf_c0, blsOf_c1, blsOf_c2, blsOf_c3, blsOf_c4, blsOf_c5, blsOf_c6, blsOf_c7, blsOf_c8, ixN_30, ixN_31, ixN_32, wipeD, if_true, if_false, Bool.false_eq_true, Bool.true_eq_false, true_and, and_true, ρAdd_int, ρAdd_str, ρAdd_tup, ρAdd_lst, ρAdd_rl, ρI_int, ρI0_int, ρMul_int, ρMul_str, ρNeg_int, ρCmp_int, ρCmp_str, ρIsN_eq, ρNotN_eq, isNonD_bl, isNonD_int, isNonD_str, isNonD_tup, isNonD_lst, isNonD_ref, isNonD_non, ρSgn_one, ρAbs_int, ρMax_two, ρMin_two, ρMax_lst, ρMin_lst, ρInt_int, ρInt_bl, ρStr_int, ρLen_str, ρLen_tup, ρLen_lst, ρLen_ref, ρSum_lst, ρAll_lst, ρAny_lst, ρTupO_tup, ρTupO_lst, ρIsi_eq, is_non_int, is_non_bool, is_non_str, is_non_tuple, is_non_list, is_bl_int, is_bl_bool, is_bl_str, is_bl_tuple, is_bl_list, is_int_int, is_int_bool, is_int_str, is_int_tuple, is_int_list, is_str_int, is_str_bool, is_str_str, is_str_tuple, is_str_list, is_tup_int, is_tup_bool, is_tup_str, is_tup_tuple, is_tup_list, is_lst_int, is_lst_bool, is_lst_str, is_lst_tuple, is_lst_list, tyN_non, tyN_bl, tyN_int, tyN_str, tyN_tup, tyN_lst, ρIx_tup, ρIx_lst, ρIx_str, ρIx_ref, ρSl_str, ρSl_lst, ρSl_tup, ρApp_ref, θLst_ref, θStr_str, ςLst_ref, ρJoin_lst, γTup_tup, atI_0, atI_1, atI_2, atI_3, atI_4, atI_5, atI_6, atI_7, c_WIDTHS, sp_is_in_eq, sp_is_tuple_eq, sp_demand_eq, sp_is_bits_eq, sp_number_of_eq, sp_bits_of_eq, sp_least_of_eq, sp_code_of_eq, sp_code_eq, sp_is_code_eq, sp_decoded_of_eq, sp_decoded_eq, sp_worst_error_eq, sp_as_bits_eq, sp_of_bits_eq, sp__law_dice_eq, sp__law_roll_eq, sp__law_pick_eq, sp__law_steps_eq, at_width h8]
    refine ⟨by rw [sizeLine_eq]; decide, ⟨by decide, by decide⟩, ?_⟩
    refine loop_stn (α := Nat) (g := fun (i : Nat) => .int (0 + (i : Int))) (s0 := s) (fun j s τ' ds => (τ' = tset τ L (.lst (s.1.map rowD)) ∧ s.1.length = 16 * i + j) ∧ ∃ z, ds = [some (.ref L), some (.int s.2), some (.int (0 + (i : Int))), some (.int (widthI (0 + (i : Int)))), z]) (rowF i) (List.range 16) (fun j c hj hc s τ' ds hI G hG => ?_) ⟨⟨rfl, hlen⟩, z, rfl⟩ (fun τ' ds hI => ?_)
    · obtain ⟨⟨rfl, hlen⟩, z, rfl⟩ := hI
      have hj : j < 16 := by simpa using hj
      have hc : j = c := by
        rw [List.getElem?_range hj] at hc
        exact Option.some.inj hc
      subst hc
      simp only [dVar, dC, dOp, dUn, dTest_eq, dAnd, dOr, dNot, dAndV_eq, dOrV_eq, dNotV_eq, dIf, dChain_eq, dNil, dCons, dTup, dLst, dLstM, dCB, dBM, dNoPart, dPart_eq, dSl, dCall, dCallK, dNext, dBrk, dCnt, dSeq, dDrop, dRet, dRetN, dIfS, γName, γNil, γCons, γSub, dAsg, dPar, dAug, ιSeq_eq, ιRng1_eq, ιRng2_eq, dFor, dLc, dLcM, dYes, dT, dTold, onBl_eq, onInt_eq, onSeq_lst, onSeq_tup, onSeq_str, onSome_eq, lstAt_same, dRaise, startD, List.map_cons, List.map_nil, List.length_cons, List.length_nil, List.replicate_succ, List.replicate_zero, List.cons_append, List.nil_append, List.append_nil, List.getElem?_cons_zero, List.getElem?_cons_succ, List.set_cons_zero, List.set_cons_succ, Nat.reduceAdd, Nat.reduceSub, Nat.zero_add, Nat.sub_self, ρEq_int, ρEq_str, ρEq_bl, ρNe_int, ρNe_str, ρNe_bl, ρEq_t3, ρNe_t3, ρEq_t2, ρNe_t2, intsOf_mapf, strsOf_mapf, blsOf_mapf, gK_01_0, gK_02_01, gK_02_10, gK_03_012, gK_03_021, gK_03_102, gK_03_120, gK_03_201, gK_03_210, gK_11_0, gK_12_01, gK_12_10, gK_13_012, gK_13_021, gK_13_102, gK_13_120, gK_13_201, gK_13_210, eq_self, Bool.not_true, Bool.not_false, decide_true, decide_false, strsOf_c0, strsOf_c1, strsOf_c2, strsOf_c3, strsOf_c4, strsOf_c5, strsOf_c6, strsOf_c7, strsOf_c8, intsOf_c0, intsOf_c1, intsOf_c2, intsOf_c3, intsOf_c4, intsOf_c5, intsOf_c6, intsOf_c7, intsOf_c8, blsOf_c0, blsOf_c1, blsOf_c2, blsOf_c3, blsOf_c4, blsOf_c5, blsOf_c6, blsOf_c7, blsOf_c8, ixN_30, ixN_31, ixN_32, wipeD, if_true, if_false, Bool.false_eq_true, Bool.true_eq_false, true_and, and_true, ρAdd_int, ρAdd_str, ρAdd_tup, ρAdd_lst, ρAdd_rl, ρI_int, ρI0_int, ρMul_int, ρMul_str, ρNeg_int, ρCmp_int, ρCmp_str, ρIsN_eq, ρNotN_eq, isNonD_bl, isNonD_int, isNonD_str, isNonD_tup, isNonD_lst, isNonD_ref, isNonD_non, ρSgn_one, ρAbs_int, ρMax_two, ρMin_two, ρMax_lst, ρMin_lst, ρInt_int, ρInt_bl, ρStr_int, ρLen_str, ρLen_tup, ρLen_lst, ρLen_ref, ρSum_lst, ρAll_lst, ρAny_lst, ρTupO_tup, ρTupO_lst, ρIsi_eq, is_non_int, is_non_bool, is_non_str, is_non_tuple, is_non_list, is_bl_int, is_bl_bool, is_bl_str, is_bl_tuple, is_bl_list, is_int_int, is_int_bool, is_int_str, is_int_tuple, is_int_list, is_str_int, is_str_bool, is_str_str, is_str_tuple, is_str_list, is_tup_int, is_tup_bool, is_tup_str, is_tup_tuple, is_tup_list, is_lst_int, is_lst_bool, is_lst_str, is_lst_tuple, is_lst_list, tyN_non, tyN_bl, tyN_int, tyN_str, tyN_tup, tyN_lst, ρIx_tup, ρIx_lst, ρIx_str, ρIx_ref, ρSl_str, ρSl_lst, ρSl_tup, ρApp_ref, θLst_ref, θStr_str, ςLst_ref, ρJoin_lst, γTup_tup, atI_0, atI_1, atI_2, atI_3, atI_4, atI_5, atI_6, atI_7, c_WIDTHS, sp_is_in_eq, sp_is_tuple_eq, sp_demand_eq, sp_is_bits_eq, sp_number_of_eq, sp_bits_of_eq, sp_least_of_eq, sp_code_of_eq, sp_code_eq, sp_is_code_eq, sp_decoded_of_eq, sp_decoded_eq, sp_worst_error_eq, sp_as_bits_eq, sp_of_bits_eq, sp__law_dice_eq, sp__law_roll_eq, sp__law_pick_eq, sp__law_steps_eq, tset_tset]
      refine ⟨rfl, by rw [sizeLine_eq]; decide, by rw [List.length_map, hlen, sizeLine_eq]; omega, hG _ _ ⟨⟨?_, ?_⟩, _, rfl⟩⟩
      · simp [rowF, rowD]
      · simp [rowF, hlen]; omega
    · obtain ⟨⟨rfl, hlen⟩, z, rfl⟩ := hI
      refine hG _ _ ⟨⟨rfl, ?_⟩, _, _, _, rfl⟩
      rw [List.length_range] at hlen
      show ((List.range 16).foldl (rowF i) s).1.length = _
      omega
  · obtain ⟨⟨rfl, hlen⟩, x, y, z, rfl⟩ := hI
    simp only [dVar, dC, dOp, dUn, dTest_eq, dAnd, dOr, dNot, dAndV_eq, dOrV_eq, dNotV_eq, dIf, dChain_eq, dNil, dCons, dTup, dLst, dLstM, dCB, dBM, dNoPart, dPart_eq, dSl, dCall, dCallK, dNext, dBrk, dCnt, dSeq, dDrop, dRet, dRetN, dIfS, γName, γNil, γCons, γSub, dAsg, dPar, dAug, ιSeq_eq, ιRng1_eq, ιRng2_eq, dFor, dLc, dLcM, dYes, dT, dTold, onBl_eq, onInt_eq, onSeq_lst, onSeq_tup, onSeq_str, onSome_eq, lstAt_same, dRaise, startD, List.map_cons, List.map_nil, List.length_cons, List.length_nil, List.replicate_succ, List.replicate_zero, List.cons_append, List.nil_append, List.append_nil, List.getElem?_cons_zero, List.getElem?_cons_succ, List.set_cons_zero, List.set_cons_succ, Nat.reduceAdd, Nat.reduceSub, Nat.zero_add, Nat.sub_self, ρEq_int, ρEq_str, ρEq_bl, ρNe_int, ρNe_str, ρNe_bl, ρEq_t3, ρNe_t3, ρEq_t2, ρNe_t2, intsOf_mapf, strsOf_mapf, blsOf_mapf, gK_01_0, gK_02_01, gK_02_10, gK_03_012, gK_03_021, gK_03_102, gK_03_120, gK_03_201, gK_03_210, gK_11_0, gK_12_01, gK_12_10, gK_13_012, gK_13_021, gK_13_102, gK_13_120, gK_13_201, gK_13_210, eq_self, Bool.not_true, Bool.not_false, decide_true, decide_false, strsOf_c0, strsOf_c1, strsOf_c2, strsOf_c3, strsOf_c4, strsOf_c5, strsOf_c6, strsOf_c7, strsOf_c8, intsOf_c0, intsOf_c1, intsOf_c2, intsOf_c3, intsOf_c4, intsOf_c5, intsOf_c6, intsOf_c7, intsOf_c8, blsOf_c0, blsOf_c1, blsOf_c2, blsOf_c3, blsOf_c4, blsOf_c5, blsOf_c6, blsOf_c7, blsOf_c8, ixN_30, ixN_31, ixN_32, wipeD, if_true, if_false, Bool.false_eq_true, Bool.true_eq_false, true_and, and_true, ρAdd_int, ρAdd_str, ρAdd_tup, ρAdd_lst, ρAdd_rl, ρI_int, ρI0_int, ρMul_int, ρMul_str, ρNeg_int, ρCmp_int, ρCmp_str, ρIsN_eq, ρNotN_eq, isNonD_bl, isNonD_int, isNonD_str, isNonD_tup, isNonD_lst, isNonD_ref, isNonD_non, ρSgn_one, ρAbs_int, ρMax_two, ρMin_two, ρMax_lst, ρMin_lst, ρInt_int, ρInt_bl, ρStr_int, ρLen_str, ρLen_tup, ρLen_lst, ρLen_ref, ρSum_lst, ρAll_lst, ρAny_lst, ρTupO_tup, ρTupO_lst, ρIsi_eq, is_non_int, is_non_bool, is_non_str, is_non_tuple, is_non_list, is_bl_int, is_bl_bool, is_bl_str, is_bl_tuple, is_bl_list, is_int_int, is_int_bool, is_int_str, is_int_tuple, is_int_list, is_str_int, is_str_bool, is_str_str, is_str_tuple, is_str_list, is_tup_int, is_tup_bool, is_tup_str, is_tup_tuple, is_tup_list, is_lst_int, is_lst_bool, is_lst_str, is_lst_tuple, is_lst_list, tyN_non, tyN_bl, tyN_int, tyN_str, tyN_tup, tyN_lst, ρIx_tup, ρIx_lst, ρIx_str, ρIx_ref, ρSl_str, ρSl_lst, ρSl_tup, ρApp_ref, θLst_ref, θStr_str, ςLst_ref, ρJoin_lst, γTup_tup, atI_0, atI_1, atI_2, atI_3, atI_4, atI_5, atI_6, atI_7, c_WIDTHS, sp_is_in_eq, sp_is_tuple_eq, sp_demand_eq, sp_is_bits_eq, sp_number_of_eq, sp_bits_of_eq, sp_least_of_eq, sp_code_of_eq, sp_code_eq, sp_is_code_eq, sp_decoded_of_eq, sp_decoded_eq, sp_worst_error_eq, sp_as_bits_eq, sp_of_bits_eq, sp__law_dice_eq, sp__law_roll_eq, sp__law_pick_eq, sp__law_steps_eq]
    exact Fin.lst hL h
/-! ### _law_step_of -/
theorem sc__law_step_of : FnScope ["size", "row"] ["size"] (defScope s__law_step_of) := ⟨rfl, rfl, rfl, by decide +kernel, rfl, by decide +kernel, by decide +kernel⟩
theorem bn__law_step_of (M : Mod K mg) : L2.Binds K M.f__law_step_of.choose ["size"] [] := fun_binds M.f__law_step_of.choose_spec fun _ _ _ _ _ _ us hl => match us, hl with | [_], _ => rfl
theorem rows_ok : ∀ r ∈ stepsL, (0 ≤ r.1 ∧ r.1 < 8) ∧ (0 ≤ r.2.1 ∧ r.2.1 ≤ 15) ∧ r.2.2.1 = leastI r.1 + r.2.1 * widthI r.1 ∧ r.2.2.2 = widthI r.1 := by decide +kernel
theorem rows_in : ∀ s ∈ List.range 8, ∀ t ∈ List.range 16, ((s : Int), (t : Int), leastI s + t * widthI s, widthI s) ∈ stepsL := by decide +kernel
theorem rows_len : stepsL.length = 128 := by decide +kernel
/-- the step that a size is in -/
theorem step_uniq {s t z : Int} (hs : 0 ≤ s ∧ s < 8) (ht : 0 ≤ t ∧ t ≤ 15) (h1 : leastI s + t * widthI s ≤ z) (h2 : z < leastI s + t * widthI s + widthI s) : segI z = s ∧ stepI z = t := by
  have e : segI z = s := by
    rcases eight hs with rfl | rfl | rfl | rfl | rfl | rfl | rfl | rfl <;> simp [leastI, widthI] at h1 h2 <;> unfold segI <;> (repeat (first | rw [if_pos (by omega)] | rw [if_neg (by omega)]))
  refine ⟨e, ?_⟩
  unfold stepI
  rw [e]
  rcases eight hs with rfl | rfl | rfl | rfl | rfl | rfl | rfl | rfl <;> simp [leastI, widthI] at h1 h2 ⊢ <;> omega
theorem step_in {z : Int} (h : 0 ≤ z ∧ z ≤ 4095) : (0 ≤ stepI z ∧ stepI z ≤ 15) ∧ leastI (segI z) + stepI z * widthI (segI z) ≤ z ∧ z < leastI (segI z) + stepI z * widthI (segI z) + widthI (segI z) := by
  have hz : z < 32 ∨ (32 ≤ z ∧ z < 64) ∨ (64 ≤ z ∧ z < 128) ∨ (128 ≤ z ∧ z < 256) ∨ (256 ≤ z ∧ z < 512) ∨ (512 ≤ z ∧ z < 1024) ∨ (1024 ≤ z ∧ z < 2048) ∨ 2048 ≤ z := by omega
  have key : ∀ s, segI z = s → stepI z = (z - leastI s) / widthI s := fun s e => by unfold stepI; rw [e]
  rcases hz with hz | hz | hz | hz | hz | hz | hz | hz
  · have e : segI z = 0 := by unfold segI; (repeat (first | rw [if_pos (by omega)] | rw [if_neg (by omega)]))
    rw [key _ e, e]; simp [leastI, widthI]; omega
  · have e : segI z = 1 := by unfold segI; (repeat (first | rw [if_pos (by omega)] | rw [if_neg (by omega)]))
    rw [key _ e, e]; simp [leastI, widthI]; omega
  · have e : segI z = 2 := by unfold segI; (repeat (first | rw [if_pos (by omega)] | rw [if_neg (by omega)]))
    rw [key _ e, e]; simp [leastI, widthI]; omega
  · have e : segI z = 3 := by unfold segI; (repeat (first | rw [if_pos (by omega)] | rw [if_neg (by omega)]))
    rw [key _ e, e]; simp [leastI, widthI]; omega
  · have e : segI z = 4 := by unfold segI; (repeat (first | rw [if_pos (by omega)] | rw [if_neg (by omega)]))
    rw [key _ e, e]; simp [leastI, widthI]; omega
  · have e : segI z = 5 := by unfold segI; (repeat (first | rw [if_pos (by omega)] | rw [if_neg (by omega)]))
    rw [key _ e, e]; simp [leastI, widthI]; omega
  · have e : segI z = 6 := by unfold segI; (repeat (first | rw [if_pos (by omega)] | rw [if_neg (by omega)]))
    rw [key _ e, e]; simp [leastI, widthI]; omega
  · have e : segI z = 7 := by unfold segI; (repeat (first | rw [if_pos (by omega)] | rw [if_neg (by omega)]))
    rw [key _ e, e]; simp [leastI, widthI]; omega
def rowOf (z : Int) : Row := (segI z, stepI z, leastI (segI z) + stepI z * widthI (segI z), widthI (segI z))
def rowP (z : Int) (r : Row) : Bool := decide (r.2.2.1 ≤ z) && decide (z < r.2.2.1 + r.2.2.2)
theorem rowOf_in {z : Int} (h : 0 ≤ z ∧ z ≤ 4095) : rowOf z ∈ stepsL := by
  have h1 := segI_ok z
  have h2 := (step_in h).1
  have e1 : ((segI z).toNat : Int) = segI z := by omega
  have e2 : ((stepI z).toNat : Int) = stepI z := by omega
  have := rows_in (segI z).toNat (by simp; omega) (stepI z).toNat (by simp; omega)
  rw [e1, e2] at this
  exact this
theorem rowP_uniq {z : Int} {r : Row} (hr : r ∈ stepsL) (h : rowP z r = true) : r = rowOf z := by
  obtain ⟨h1, h2, h3, h4⟩ := rows_ok r hr
  simp only [rowP, Bool.and_eq_true, decide_eq_true_eq] at h
  rw [h3, h4] at h
  obtain ⟨e1, e2⟩ := step_uniq h1 h2 h.1 h.2
  obtain ⟨a, b, c, d⟩ := r
  simp only at *
  unfold rowOf
  rw [e1, e2, h3, h4]
def sp__law_step_of : SpD := fun τ ds k KE => match ds with
  | [.int z] => (0 ≤ z ∧ z ≤ 4095) ∧ k τ (rowD (rowOf z))
  | _ => False
theorem sp__law_step_of_eq {τ : TD} {k : DK} {KE : XD} {z : Int} : sp__law_step_of τ [.int z] k KE = ((0 ≤ z ∧ z ≤ 4095) ∧ k τ (rowD (rowOf z))) := rfl
theorem ok__law_step_of (M : Mod K mg) : FnD prog w K mg base (TT K) 3 (He.fAd K ("_law_step_of", none)) M.f__law_step_of.choose ["size"] sp__law_step_of := by
  refine fnD_of M.f__law_step_of.choose_spec sc__law_step_of fun KE => ⟨_, fun cdv A outer s H E hr => (pdss_one (pds_ret (pd_ix ix_seq ok_ix (pd_lc rfl sc__law_step_of.nd (pdi_seq (pd_call0 (ok__law_steps M) (hr.mono (by decide)) rfl M.g__law_steps M.f__law_steps.choose_spec.kp (bn__law_steps M) .nil .nil passD)) (show BlkOk ["size", "row"] (defScope s__law_step_of) _ [("row", 1)] from blk_of (by decide +kernel)) (fun _ _ _ _ _ => pdn_name (i := 1) sc__law_step_of.nd rfl (.inl rfl) (by decide)) (fun _ _ _ _ _ => pdts_one (PDW.pt (pdw_and (pdt_cmp op_leU ok_cmp (pd_ix ix_seq ok_ix (pd_var (pv 1)) pd_int) (pd_var (pv 0)) (nomark _)) (pdw_and1 (pdt_cmp op_ltU ok_cmp (pd_var (pv 0)) (pd_op op_addU ok_add (pd_ix ix_seq ok_ix (pd_var (pv 1)) pd_int) (pd_ix ix_seq ok_ix (pd_var (pv 1)) pd_int)) (nomark _)))))) (fun _ _ _ _ _ => (pd_var (pv 1)))) pd_int))), ?_⟩
  intro τ ds k hl h
  unfold sp__law_step_of at h
  split at h
  case h_2 => exact h.elim
  rename_i z
  obtain ⟨hz, hk⟩ := h
  simp only [dVar, dC, dOp, dUn, dTest_eq, dAnd, dOr, dNot, dAndV_eq, dOrV_eq, dNotV_eq, dIf, dChain_eq, dNil, dCons, dTup, dLst, dLstM, dCB, dBM, dNoPart, dPart_eq, dSl, dCall, dCallK, dNext, dBrk, dCnt, dSeq, dDrop, dRet, dRetN, dIfS, γName, γNil, γCons, γSub, dAsg, dPar, dAug, ιSeq_eq, ιRng1_eq, ιRng2_eq, dFor, dLc, dLcM, dYes, dT, dTold, onBl_eq, onInt_eq, onSeq_lst, onSeq_tup, onSeq_str, onSome_eq, lstAt_same, dRaise, startD, List.map_cons, List.map_nil, List.length_cons, List.length_nil, List.replicate_succ, List.replicate_zero, List.cons_append, List.nil_append, List.append_nil, List.getElem?_cons_zero, List.getElem?_cons_succ, List.set_cons_zero, List.set_cons_succ, Nat.reduceAdd, Nat.reduceSub, Nat.zero_add, Nat.sub_self, ρEq_int, ρEq_str, ρEq_bl, ρNe_int, ρNe_str, ρNe_bl, ρEq_t3, ρNe_t3, ρEq_t2, ρNe_t2, intsOf_mapf, strsOf_mapf, blsOf_mapf, gK_01_0, gK_02_01, gK_02_10, gK_03_012, gK_03_021, gK_03_102, gK_03_120, gK_03_201, gK_03_210, gK_11_0, gK_12_01, gK_12_10, gK_13_012, gK_13_021, gK_13_102, gK_13_120, gK_13_201, gK_13_210, eq_self, Bool.not_true, Bool.not_false, decide_true, decide_false, strsOf_c0, strsOf_c1, strsOf_c2, strsOf_c3, strsOf_c4, strsOf_c5, strsOf_c6, strsOf_c7, strsOf_c8, intsOf_c0, intsOf_c1, intsOf_c2, intsOf_c3, intsOf_c4, intsOf_c5, intsOf_c6, intsOf_c7, intsOf_c8, blsOf_c0, blsOf_c1, blsOf_c2, blsOf_c3, blsOf_c4, blsOf_c5, blsOf_c6, blsOf_c7, blsOf_c8, ixN_30, ixN_31, ixN_32, wipeD, if_true, if_false, Bool.false_eq_true, Bool.true_eq_false, true_and, and_true, ρAdd_int, ρAdd_str, ρAdd_tup, ρAdd_lst, ρAdd_rl, ρI_int, ρI0_int, ρMul_int, ρMul_str, ρNeg_int, ρCmp_int, ρCmp_str, ρIsN_eq, ρNotN_eq, isNonD_bl, isNonD_int, isNonD_str, isNonD_tup, isNonD_lst, isNonD_ref, isNonD_non, ρSgn_one, ρAbs_int, ρMax_two, ρMin_two, ρMax_lst, ρMin_lst, ρInt_int, ρInt_bl, ρStr_int, ρLen_str, ρLen_tup, ρLen_lst, ρLen_ref, ρSum_lst, ρAll_lst, ρAny_lst, ρTupO_tup, ρTupO_lst, ρIsi_eq, is_non_int, is_non_bool, is_non_str, is_non_tuple, is_non_list, is_bl_int, is_bl_bool, is_bl_str, is_bl_tuple, is_bl_list, is_int_int, is_int_bool, is_int_str, is_int_tuple, is_int_list, is_str_int, is_str_bool, is_str_str, is_str_tuple, is_str_list, is_tup_int, is_tup_bool, is_tup_str, is_tup_tuple, is_tup_list, is_lst_int, is_lst_bool, is_lst_str, is_lst_tuple, is_lst_list, tyN_non, tyN_bl, tyN_int, tyN_str, tyN_tup, tyN_lst, ρIx_tup, ρIx_lst, ρIx_str, ρIx_ref, ρSl_str, ρSl_lst, ρSl_tup, ρApp_ref, θLst_ref, θStr_str, ςLst_ref, ρJoin_lst, γTup_tup, atI_0, atI_1, atI_2, atI_3, atI_4, atI_5, atI_6, atI_7, c_WIDTHS, sp_is_in_eq, sp_is_tuple_eq, sp_demand_eq, sp_is_bits_eq, sp_number_of_eq, sp_bits_of_eq, sp_least_of_eq, sp_code_of_eq, sp_code_eq, sp_is_code_eq, sp_decoded_of_eq, sp_decoded_eq, sp_worst_error_eq, sp_as_bits_eq, sp_of_bits_eq, sp__law_dice_eq, sp__law_roll_eq, sp__law_pick_eq, sp__law_steps_eq, sp__law_step_of_eq]
  refine fun L hL => ?_
  refine lc_fm (l := stepsL) (g := rowD) (fun r => if rowP z r = true then some (rowD r) else none) (by rw [rows_len]; exact sz1000 (by decide)) (fun r hr τ' k' hk' => ?_) ?_
  · obtain ⟨a, b, c, d⟩ := r
    simp only [rowD] at hk' ⊢
    simp only [dVar, dC, dOp, dUn, dTest_eq, dAnd, dOr, dNot, dAndV_eq, dOrV_eq, dNotV_eq, dIf, dChain_eq, dNil, dCons, dTup, dLst, dLstM, dCB, dBM, dNoPart, dPart_eq, dSl, dCall, dCallK, dNext, dBrk, dCnt, dSeq, dDrop, dRet, dRetN, dIfS, γName, γNil, γCons, γSub, dAsg, dPar, dAug, ιSeq_eq, ιRng1_eq, ιRng2_eq, dFor, dLc, dLcM, dYes, dT, dTold, onBl_eq, onInt_eq, onSeq_lst, onSeq_tup, onSeq_str, onSome_eq, lstAt_same, dRaise, startD, List.map_cons, List.map_nil, List.length_cons, List.length_nil, List.replicate_succ, List.replicate_zero, List.cons_append, List.nil_append, List.append_nil, List.getElem?_cons_zero, List.getElem?_cons_succ, List.set_cons_zero, List.set_cons_succ, Nat.reduceAdd, Nat.reduceSub, Nat.zero_add, Nat.sub_self, ρEq_int, ρEq_str, ρEq_bl, ρNe_int, ρNe_str, ρNe_bl, ρEq_t3, ρNe_t3, ρEq_t2, ρNe_t2, intsOf_mapf, strsOf_mapf, blsOf_mapf, gK_01_0, gK_02_01, gK_02_10, gK_03_012, gK_03_021, gK_03_102, gK_03_120, gK_03_201, gK_03_210, gK_11_0, gK_12_01, gK_12_10, gK_13_012, gK_13_021, gK_13_102, gK_13_120, gK_13_201, gK_13_210, eq_self, Bool.not_true, Bool.not_false, decide_true, decide_false, strsOf_c0, strsOf_c1, strsOf_c2, strsOf_c3, strsOf_c4, strsOf_c5, strsOf_c6, strsOf_c7, strsOf_c8, intsOf_c0, intsOf_c1, intsOf_c2, intsOf_c3, intsOf_c4, intsOf_c5, intsOf_c6, intsOf_c7, intsOf_c8, blsOf_c0, blsOf_c1, blsOf_c2, blsOf_c3, blsOf_c4, blsOf_c5, blsOf_c6, blsOf_c7, blsOf_c8, ixN_30, ixN_31, ixN_32, wipeD, if_true, if_false, Bool.false_eq_true, Bool.true_eq_false, true_and, and_true, ρAdd_int, ρAdd_str, ρAdd_tup, ρAdd_lst, ρAdd_rl, ρI_int, ρI0_int, ρMul_int, ρMul_str, ρNeg_int, ρCmp_int, ρCmp_str, ρIsN_eq, ρNotN_eq, isNonD_bl, isNonD_int, isNonD_str, isNonD_tup, isNonD_lst, isNonD_ref, isNonD_non, ρSgn_one, ρAbs_int, ρMax_two, ρMin_two, ρMax_lst, ρMin_lst, ρInt_int, ρInt_bl, ρStr_int, ρLen_str, ρLen_tup, ρLen_lst, ρLen_ref, ρSum_lst, ρAll_lst, ρAny_lst, ρTupO_tup, ρTupO_lst, ρIsi_eq, is_non_int, is_non_bool, is_non_str, is_non_tuple, is_non_list, is_bl_int, is_bl_bool, is_bl_str, is_bl_tuple, is_bl_list, is_int_int, is_int_bool, is_int_str, is_int_tuple, is_int_list, is_str_int, is_str_bool, is_str_str, is_str_tuple, is_str_list, is_tup_int, is_tup_bool, is_tup_str, is_tup_tuple, is_tup_list, is_lst_int, is_lst_bool, is_lst_str, is_lst_tuple, is_lst_list, tyN_non, tyN_bl, tyN_int, tyN_str, tyN_tup, tyN_lst, ρIx_tup, ρIx_lst, ρIx_str, ρIx_ref, ρSl_str, ρSl_lst, ρSl_tup, ρApp_ref, θLst_ref, θStr_str, ςLst_ref, ρJoin_lst, γTup_tup, atI_0, atI_1, atI_2, atI_3, atI_4, atI_5, atI_6, atI_7, c_WIDTHS, sp_is_in_eq, sp_is_tuple_eq, sp_demand_eq, sp_is_bits_eq, sp_number_of_eq, sp_bits_of_eq, sp_least_of_eq, sp_code_of_eq, sp_code_eq, sp_is_code_eq, sp_decoded_of_eq, sp_decoded_eq, sp_worst_error_eq, sp_as_bits_eq, sp_of_bits_eq, sp__law_dice_eq, sp__law_roll_eq, sp__law_pick_eq, sp__law_steps_eq, sp__law_step_of_eq]
    simp only [rowP] at hk'
    by_cases e1 : c ≤ z
    · by_cases e2 : z < c + d
      · simpa only [e1, e2, decide_true, if_true, Bool.and_true] using hk'
      · simpa only [e1, e2, decide_true, decide_false, if_true, Bool.and_false, Bool.false_eq_true, if_false] using hk'
    · simpa only [e1, decide_false, Bool.false_and, Bool.false_eq_true, if_false] using hk'
  · obtain ⟨tl, e⟩ := head_of (p := rowP z) (G := rowD) (r0 := rowOf z) (by
      have := (step_in hz).2
      simp only [rowP, rowOf, this.1, this.2, decide_true, Bool.and_true]) (fun r hr h => rowP_uniq hr h) (rowOf_in hz)
    simp only [dVar, dC, dOp, dUn, dTest_eq, dAnd, dOr, dNot, dAndV_eq, dOrV_eq, dNotV_eq, dIf, dChain_eq, dNil, dCons, dTup, dLst, dLstM, dCB, dBM, dNoPart, dPart_eq, dSl, dCall, dCallK, dNext, dBrk, dCnt, dSeq, dDrop, dRet, dRetN, dIfS, γName, γNil, γCons, γSub, dAsg, dPar, dAug, ιSeq_eq, ιRng1_eq, ιRng2_eq, dFor, dLc, dLcM, dYes, dT, dTold, onBl_eq, onInt_eq, onSeq_lst, onSeq_tup, onSeq_str, onSome_eq, lstAt_same, dRaise, startD, List.map_cons, List.map_nil, List.length_cons, List.length_nil, List.replicate_succ, List.replicate_zero, List.cons_append, List.nil_append, List.append_nil, List.getElem?_cons_zero, List.getElem?_cons_succ, List.set_cons_zero, List.set_cons_succ, Nat.reduceAdd, Nat.reduceSub, Nat.zero_add, Nat.sub_self, ρEq_int, ρEq_str, ρEq_bl, ρNe_int, ρNe_str, ρNe_bl, ρEq_t3, ρNe_t3, ρEq_t2, ρNe_t2, intsOf_mapf, strsOf_mapf, blsOf_mapf, gK_01_0, gK_02_01, gK_02_10, gK_03_012, gK_03_021, gK_03_102, gK_03_120, gK_03_201, gK_03_210, gK_11_0, gK_12_01, gK_12_10, gK_13_012, gK_13_021, gK_13_102, gK_13_120, gK_13_201, gK_13_210, eq_self, Bool.not_true, Bool.not_false, decide_true, decide_false, strsOf_c0, strsOf_c1, strsOf_c2, strsOf_c3, strsOf_c4, strsOf_c5, strsOf_c6, strsOf_c7, strsOf_c8, intsOf_c0, intsOf_c1, intsOf_c2, intsOf_c3, intsOf_c4, intsOf_c5, intsOf_c6, intsOf_c7, intsOf_c8, blsOf_c0, blsOf_c1, blsOf_c2, blsOf_c3, blsOf_c4, blsOf_c5, blsOf_c6, blsOf_c7, blsOf_c8, ixN_30, ixN_31, ixN_32, wipeD, if_true, if_false, Bool.false_eq_true, Bool.true_eq_false, true_and, and_true, ρAdd_int, ρAdd_str, ρAdd_tup, ρAdd_lst, ρAdd_rl, ρI_int, ρI0_int, ρMul_int, ρMul_str, ρNeg_int, ρCmp_int, ρCmp_str, ρIsN_eq, ρNotN_eq, isNonD_bl, isNonD_int, isNonD_str, isNonD_tup, isNonD_lst, isNonD_ref, isNonD_non, ρSgn_one, ρAbs_int, ρMax_two, ρMin_two, ρMax_lst, ρMin_lst, ρInt_int, ρInt_bl, ρStr_int, ρLen_str, ρLen_tup, ρLen_lst, ρLen_ref, ρSum_lst, ρAll_lst, ρAny_lst, ρTupO_tup, ρTupO_lst, ρIsi_eq, is_non_int, is_non_bool, is_non_str, is_non_tuple, is_non_list, is_bl_int, is_bl_bool, is_bl_str, is_bl_tuple, is_bl_list, is_int_int, is_int_bool, is_int_str, is_int_tuple, is_int_list, is_str_int, is_str_bool, is_str_str, is_str_tuple, is_str_list, is_tup_int, is_tup_bool, is_tup_str, is_tup_tuple, is_tup_list, is_lst_int, is_lst_bool, is_lst_str, is_lst_tuple, is_lst_list, tyN_non, tyN_bl, tyN_int, tyN_str, tyN_tup, tyN_lst, ρIx_tup, ρIx_lst, ρIx_str, ρIx_ref, ρSl_str, ρSl_lst, ρSl_tup, ρApp_ref, θLst_ref, θStr_str, ςLst_ref, ρJoin_lst, γTup_tup, atI_0, atI_1, atI_2, atI_3, atI_4, atI_5, atI_6, atI_7, c_WIDTHS, sp_is_in_eq, sp_is_tuple_eq, sp_demand_eq, sp_is_bits_eq, sp_number_of_eq, sp_bits_of_eq, sp_least_of_eq, sp_code_of_eq, sp_code_eq, sp_is_code_eq, sp_decoded_of_eq, sp_decoded_eq, sp_worst_error_eq, sp_as_bits_eq, sp_of_bits_eq, sp__law_dice_eq, sp__law_roll_eq, sp__law_pick_eq, sp__law_steps_eq, sp__law_step_of_eq, tset_del hL, e]
    exact Fin.same hk
end
end LW

set_option Elab.async false
set_option linter.all false
set_option maxRecDepth 100000
set_option maxHeartbeats 0
namespace LW
open PySem PySem.Spec PyProof.Rows L2 DL DX
section
variable {w : World} {K : PySem.W.Frag} {mg : Str → Option Value} {base : Heap}
/-! ### _law_right -/
theorem sc__law_right : FnScope ["dice", "sample", "segment", "step", "least", "width", "due", "middle", "more", "signs", "at", "sizes", "row", "worst", "bad", "told"] ["dice"] (defScope s__law_right) := ⟨rfl, rfl, rfl, by decide +kernel, rfl, by decide +kernel, by decide +kernel⟩
theorem bn__law_right (M : Mod K mg) : L2.Binds K M.f__law_right.choose ["dice"] [] := fun_binds M.f__law_right.choose_spec fun _ _ _ _ _ _ us hl => match us, hl with | [_], _ => rfl
theorem if_two {η : DT} {ε ζ : DS} {Z : TD → Sl → Prop} {F : EndsD} {τ : TD} {ds : Sl} (h : Z τ ds → dIfS η ε ζ { F with nx := Z } τ ds) (hc : Z τ ds) : dIfS η ε ζ { F with nx := Z } τ ds := h hc
theorem not_rfl {α : Type} [DecidableEq α] (a : α) : (!decide (a = a)) = false := by simp
theorem okC_i {a b c : Int} : okC (.tup [.int a, .int b, .int c]) = true := rfl
theorem absI_ok (s : Int) (h : -4095 ≤ s ∧ s ≤ 4095) : 0 ≤ absI s ∧ absI s ≤ 4095 := by unfold absI; split <;> omega
theorem isIn_of {s lo hi : Int} (h : lo ≤ s ∧ s ≤ hi) : isInD (.int s) lo hi = true := by simp only [isInD, h.1, h.2, decide_true, Bool.and_true]
theorem sgnI_ok (s : Int) : 0 ≤ sgnI s ∧ sgnI s ≤ 1 := by unfold sgnI; split <;> omega
theorem isCode_of {a s t : Int} (ha : 0 ≤ a ∧ a ≤ 1) (hs : 0 ≤ s ∧ s < 8) (ht : 0 ≤ t ∧ t ≤ 15) : isCodeD (.tup [.int a, .int s, .int t]) = true := by
  have h1 := isIn_of ha
  have h2 := isIn_of (s := s) (lo := 0) (hi := 7) ⟨hs.1, by omega⟩
  have h3 := isIn_of ht
  simp only [isCodeD, h1, h2, h3, Bool.and_true]
/-- the middle of a size's step -/
def midI (z : Int) : Int := sizI (segI z) (stepI z)
theorem mid_ok {z : Int} (h : 0 ≤ z ∧ z ≤ 4095) : (1 ≤ midI z ∧ midI z ≤ 4095) ∧ segI (midI z) = segI z ∧ stepI (midI z) = stepI z ∧ (midI z - z ≤ widthI (segI z) / 2 ∧ z - midI z ≤ widthI (segI z) / 2) ∧ (32 ≤ z → 32 * (midI z - z) ≤ z ∧ 32 * (z - midI z) ≤ z) := by
  obtain ⟨h1, h2, h3⟩ := step_in h
  have h0 := segI_ok z
  have hu := step_uniq (z := midI z) h0 h1 (by unfold midI sizI; have := (widthI_ok (segI z)).1; omega) (by unfold midI sizI; have := (widthI_ok (segI z)).1; omega)
  refine ⟨?_, hu.1, hu.2, ?_, ?_⟩
  all_goals
    unfold midI sizI
    generalize segI z = a at *
    generalize stepI z = b at *
    rcases eight h0 with rfl | rfl | rfl | rfl | rfl | rfl | rfl | rfl <;> simp [leastI, widthI] at h2 h3 ⊢ <;> omega
/-- the decoded code of a sample -/
def decS (s : Int) : Int := decI (sgnI s) (segI (absI s)) (stepI (absI s))
theorem decS_eq (s : Int) : decS s = if s < 0 then -midI (absI s) else midI (absI s) := by
  unfold decS decI sgnI midI
  by_cases h : s < 0 <;> simp [h]
theorem decS_ok {s : Int} (h : -4095 ≤ s ∧ s ≤ 4095) : (-4095 ≤ decS s ∧ decS s ≤ 4095) ∧ sgnI (decS s) = sgnI s ∧ absI (decS s) = midI (absI s) := by
  have h1 := (mid_ok (absI_ok s h)).1
  rw [decS_eq]
  by_cases hs : s < 0
  · rw [if_pos hs]
    refine ⟨by omega, ?_, ?_⟩
    · have e : -midI (absI s) < 0 := by omega
      have e' : 0 < midI (absI s) := by omega
      simp [sgnI, hs, e, e']
    · have e : -midI (absI s) < 0 := by omega
      unfold absI at e ⊢
      rw [if_pos e]
      omega
  · rw [if_neg hs]
    refine ⟨by omega, ?_, ?_⟩
    · have e : ¬ midI (absI s) < 0 := by omega
      simp [sgnI, hs, e]
    · have e : ¬ midI (absI s) < 0 := by omega
      unfold absI at e ⊢
      rw [if_neg e]
theorem decS_near {s : Int} (h : -4095 ≤ s ∧ s ≤ 4095) : ¬ widthI (segI (absI s)) / 2 < (if decS s - s < 0 then -(decS s - s) else decS s - s) ∧ (32 ≤ absI s → ¬ absI s < 32 * (if decS s - s < 0 then -(decS s - s) else decS s - s)) := by
  obtain ⟨_, _, _, h4, h5⟩ := mid_ok (absI_ok s h)
  rw [decS_eq]
  unfold absI at h4 h5 ⊢
  by_cases hs : s < 0
  · simp only [hs, if_true] at h4 h5 ⊢
    refine ⟨by split <;> omega, fun h32 => ?_⟩
    have := h5 h32
    split <;> omega
  · simp only [hs, if_false] at h4 h5 ⊢
    refine ⟨by split <;> omega, fun h32 => ?_⟩
    have := h5 h32
    split <;> omega
theorem mid_mono {z y : Int} (hz : 0 ≤ z) (h : z ≤ y) (hy : y ≤ 4095) : midI z ≤ midI y := by
  obtain ⟨a1, a2, a3⟩ := step_in (z := z) ⟨hz, by omega⟩
  obtain ⟨b1, b2, b3⟩ := step_in (z := y) ⟨by omega, hy⟩
  have h0 := segI_ok z
  have h9 := segI_ok y
  unfold midI sizI
  generalize segI z = a at *
  generalize stepI z = b at *
  generalize segI y = c at *
  generalize stepI y = d at *
  rcases eight h0 with rfl | rfl | rfl | rfl | rfl | rfl | rfl | rfl <;> rcases eight h9 with rfl | rfl | rfl | rfl | rfl | rfl | rfl | rfl <;> simp [leastI, widthI] at a2 a3 b2 b3 ⊢ <;> omega
theorem decS_mono {s t : Int} (hs : -4095 ≤ s) (h : s ≤ t) (ht : t ≤ 4095) : decS s ≤ decS t := by
  rw [decS_eq, decS_eq]
  have h1 := (mid_ok (absI_ok s ⟨hs, by omega⟩)).1
  have h2 := (mid_ok (absI_ok t ⟨by omega, ht⟩)).1
  by_cases c1 : s < 0
  · by_cases c2 : t < 0
    · have := mid_mono (z := -t) (y := -s) (by omega) (by omega) (by omega)
      simp only [absI, c1, c2, if_true]
      omega
    · simp only [c1, c2, if_true, if_false]
      omega
  · have c2 : ¬ t < 0 := by omega
    have := mid_mono (z := s) (y := t) (by omega) (by omega) (by omega)
    simp only [absI, c1, c2, if_false]
    omega
theorem bits_all : ∀ a ∈ List.range 2, ∀ s ∈ List.range 8, ∀ t ∈ List.range 16, strOkD (.str (asbS a s t)) = true ∧ isBitsD (.str (asbS a s t)) 8 8 = true ∧ numS (cutS (asbS a s t) none (some 1)).cps.toList = a ∧ numS (cutS (asbS a s t) (some 1) (some 4)).cps.toList = s ∧ numS (cutS (asbS a s t) (some 4) none).cps.toList = t := by decide +kernel
theorem bits_ok {a s t : Int} (ha : 0 ≤ a ∧ a ≤ 1) (hs : 0 ≤ s ∧ s < 8) (ht : 0 ≤ t ∧ t ≤ 15) : strOkD (.str (asbS a s t)) = true ∧ isBitsD (.str (asbS a s t)) 8 8 = true ∧ ofbD (.str (asbS a s t)) = .tup [.int a, .int s, .int t] := by
  have := bits_all a.toNat (by simp; omega) s.toNat (by simp; omega) t.toNat (by simp; omega)
  rw [show ((a.toNat : Nat) : Int) = a by omega, show ((s.toNat : Nat) : Int) = s by omega, show ((t.toNat : Nat) : Int) = t by omega] at this
  obtain ⟨h1, h2, h3, h4, h5⟩ := this
  refine ⟨h1, h2, ?_⟩
  simp only [ofbD, h3, h4, h5]
def signsL (a s t : Int) : Str := (strI a ++ Txt.join "" (([2, 1, 0] : List Int).map fun i => strI (s / 2 ^ i.toNat % 2))) ++ Txt.join "" (([3, 2, 1, 0] : List Int).map fun i => strI (t / 2 ^ i.toNat % 2))
theorem signs_all : ∀ a ∈ List.range 2, ∀ s ∈ List.range 8, ∀ t ∈ List.range 16, signsL a s t = asbS a s t ∧ (Txt.join "" (([2, 1, 0] : List Int).map fun i => strI ((s : Int) / 2 ^ i.toNat % 2))).length ≤ 100 ∧ (Txt.join "" (([3, 2, 1, 0] : List Int).map fun i => strI ((t : Int) / 2 ^ i.toNat % 2))).length ≤ 100 ∧ (strI a).length ≤ 100 := by decide +kernel
theorem signs_ok {a s t : Int} (ha : 0 ≤ a ∧ a ≤ 1) (hs : 0 ≤ s ∧ s < 8) (ht : 0 ≤ t ∧ t ≤ 15) : signsL a s t = asbS a s t ∧ (Txt.join "" (([2, 1, 0] : List Int).map fun i => strI (s / 2 ^ i.toNat % 2))).length ≤ 100 ∧ (Txt.join "" (([3, 2, 1, 0] : List Int).map fun i => strI (t / 2 ^ i.toNat % 2))).length ≤ 100 ∧ (strI a).length ≤ 100 := by
  have := signs_all a.toNat (by simp; omega) s.toNat (by simp; omega) t.toNat (by simp; omega)
  rw [show ((a.toNat : Nat) : Int) = a by omega, show ((s.toNat : Nat) : Int) = s by omega, show ((t.toNat : Nat) : Int) = t by omega] at this
  exact this
def worF (r : Row) : Int := if r.2.2.2 - 1 - r.2.2.2 / 2 > r.2.2.2 / 2 then r.2.2.2 - 1 - r.2.2.2 / 2 else r.2.2.2 / 2
theorem worst_all : ∀ s ∈ List.range 8, maxL ((stepsL.filter fun r => decide (r.1 = (s : Int))).map worF) = some (widthI s / 2) := by decide +kernel
theorem worst_ok {s : Int} (hs : 0 ≤ s ∧ s < 8) : maxL ((stepsL.filter fun r => decide (r.1 = s)).map worF) = some (widthI s / 2) := by
  have := worst_all s.toNat (by simp; omega)
  rw [show ((s.toNat : Nat) : Int) = s by omega] at this
  exact this
theorem fm_filter {α : Type} (p : α → Bool) (g : α → D) (l : List α) : (l.filterMap fun r => if p r = true then some (g r) else none) = (l.filter p).map g := by
  induction l with
  | nil => rfl
  | cons a l ih =>
    by_cases h : p a = true
    · rw [List.filterMap_cons, if_pos h, List.filter_cons, if_pos h, List.map_cons, ih]
    · rw [List.filterMap_cons, if_neg h, List.filter_cons, if_neg h, ih]
theorem filt_len (p : Row → Bool) : (stepsL.filter p).length ≤ 1000 := by
  have h1 := List.length_filter_le p stepsL
  rw [rows_len] at h1
  omega
def badL : List D := [.non, .tup [.int 0, .int 0], .tup [.int 2, .int 0, .int 0], .tup [.int 0, .int 8, .int 0], .tup [.int 0, .int 0, .int 16], .lst [.int 0, .int 0, .int 0], .tup [.bl true, .int 0, .int 0]]
theorem bad_ok : ∀ d ∈ badL, okC d = true ∧ isCodeD d = false := by decide
theorem bad1_ok : ∀ d ∈ [D.int 4096, .int (-4096), .non, .bl true], (tyN d).isSome = true ∧ isInD d (-4095) 4095 = false := by decide
theorem bad3_ok : ∀ d ∈ [D.int 8, .int (-1), .non], (tyN d).isSome = true ∧ isInD d 0 7 = false := by decide
theorem bad5_ok : ∀ d ∈ [D.str "", .str (repS "1" (Int.toNat 7)), .str (repS "2" (Int.toNat 8)), .non, .int 11111111], ((tyN d).isSome = true ∧ strOkD d = true) ∧ isBitsD d 8 8 = false := by decide +kernel
theorem szn {n : Nat} (h : n ≤ 1000 := by decide) : n ≤ sizeLine := sz1000 h
def sp__law_right : SpD := fun τ ds k KE => match ds with
  | [.ref p] => ∃ xs, lstAt τ p = some xs ∧ Dc 0 xs ∧ ∀ ys, k (tset τ p (.lst ys)) (.bl true)
  | _ => False
theorem sp__law_right_eq {τ : TD} {k : DK} {KE : XD} {p : Addr} : sp__law_right τ [.ref p] k KE = (∃ xs, lstAt τ p = some xs ∧ Dc 0 xs ∧ ∀ ys, k (tset τ p (.lst ys)) (.bl true)) := rfl
theorem kb_decoded_0_code (M : Mod K mg) : KBinds K M.f_decoded.choose ["code"] ["code"] (gK 0 1 [0]) (gK 0 1 [0]) := kb_of M.f_decoded.choose_spec 0 1 [0] (by decide) fun _ _ _ _ _ _ us ws h1 h2 => match us, ws, h1, h2 with | [], [_], _, _ => rfl
theorem kb_code_0_sample (M : Mod K mg) : KBinds K M.f_code.choose ["sample"] ["sample"] (gK 0 1 [0]) (gK 0 1 [0]) := kb_of M.f_code.choose_spec 0 1 [0] (by decide) fun _ _ _ _ _ _ us ws h1 h2 => match us, ws, h1, h2 with | [], [_], _, _ => rfl
theorem kb_of_bits_0_bits (M : Mod K mg) : KBinds K M.f_of_bits.choose ["bits"] ["bits"] (gK 0 1 [0]) (gK 0 1 [0]) := kb_of M.f_of_bits.choose_spec 0 1 [0] (by decide) fun _ _ _ _ _ _ us ws h1 h2 => match us, ws, h1, h2 with | [], [_], _, _ => rfl
theorem kb_as_bits_0_code (M : Mod K mg) : KBinds K M.f_as_bits.choose ["code"] ["code"] (gK 0 1 [0]) (gK 0 1 [0]) := kb_of M.f_as_bits.choose_spec 0 1 [0] (by decide) fun _ _ _ _ _ _ us ws h1 h2 => match us, ws, h1, h2 with | [], [_], _, _ => rfl
theorem kb_worst_error_0_segment (M : Mod K mg) : KBinds K M.f_worst_error.choose ["segment"] ["segment"] (gK 0 1 [0]) (gK 0 1 [0]) := kb_of M.f_worst_error.choose_spec 0 1 [0] (by decide) fun _ _ _ _ _ _ us ws h1 h2 => match us, ws, h1, h2 with | [], [_], _, _ => rfl
theorem ok__law_right (M : Mod K mg) (TB : LamX.TabB base mg (He.cT K ("_law_right", none)).1 (He.cT K ("_law_right", none)).2) : FnD prog w K mg base (TT K) 7 (He.fAd K ("_law_right", none)) M.f__law_right.choose ["dice"] sp__law_right := by
  refine fnD_ofL M.f__law_right.choose_spec sc__law_right fun KE => ⟨_, fun A outer s H E hr => (pdss_cons (pds_set (i := 1) sc__law_right.nd rfl (by first | exact .inl rfl | exact .inr rfl) (pd_call (ok__law_pick M) (hr.mono (by decide)) rfl M.g__law_pick M.f__law_pick.choose_spec.kp (bn__law_pick M) .nil .nil passD (pda_cons (pd_var (pv 0)) (pda_cons (pd_lst (pda_cons pd_int (pda_cons pd_int (pda_cons pd_int (pda_cons (pd_un un_neg ok_neg pd_int) (pda_cons (pd_un un_neg ok_neg pd_int) (pda_cons pd_int (pda_cons (pd_op op_sub ok_sub (pd_call (ok__law_roll M) (hr.mono (by decide)) rfl M.g__law_roll M.f__law_roll.choose_spec.kp (bn__law_roll M) .nil .nil passD (pda_cons (pd_var (pv 0)) (pda_cons pd_int pda_nil))) pd_int) (pda_cons (pd_op op_sub ok_sub (pd_call (ok__law_roll M) (hr.mono (by decide)) rfl M.g__law_roll M.f__law_roll.choose_spec.kp (bn__law_roll M) .nil .nil passD (pda_cons (pd_var (pv 0)) (pda_cons pd_int pda_nil))) pd_int) pda_nil))))))))) pda_nil)))) (pdss_cons (pds_asg (pd_call (ok__law_step_of M) (hr.mono (by decide)) rfl M.g__law_step_of M.f__law_step_of.choose_spec.kp (bn__law_step_of M) .nil .nil passD (pda_cons (pd_callB cr_abs ok_abs rfl M.b_abs boot_abs (pda_cons (pd_var (pv 1)) pda_nil)) pda_nil)) (pdg_tup (n := 4) rfl (pdgs_cons (pdg_name (i := 2) sc__law_right.nd rfl (by first | exact .inl rfl | exact .inr rfl)) (pdgs_cons (pdg_name (i := 3) sc__law_right.nd rfl (by first | exact .inl rfl | exact .inr rfl)) (pdgs_cons (pdg_name (i := 4) sc__law_right.nd rfl (by first | exact .inl rfl | exact .inr rfl)) (pdgs_cons (pdg_name (i := 5) sc__law_right.nd rfl (by first | exact .inl rfl | exact .inr rfl)) pdgs_nil)))))) (pdss_cons (pds_set (i := 6) sc__law_right.nd rfl (by first | exact .inl rfl | exact .inr rfl) (pd_tup (pda_cons (pd_callTy cr_int ok_int rfl M.b_int boot_int (pda_cons (pd_cmp op_ltU ok_cmp (pd_var (pv 1)) pd_int (nomark _)) pda_nil)) (pda_cons (pd_var (pv 2)) (pda_cons (pd_var (pv 3)) pda_nil))))) (pdss_cons (pds_set (i := 7) sc__law_right.nd rfl (by first | exact .inl rfl | exact .inr rfl) (pd_op op_addU ok_add (pd_var (pv 4)) (pd_op op_fdiv ok_div (pd_var (pv 5)) pd_int))) (pdss_cons (pds_if (PDW.pt (pdw_or (pdt_cmp (op_neU (room_eq hr)) ok_ne (pd_call (ok_code M) (hr.mono (by decide)) rfl M.g_code M.f_code.choose_spec.kp (bn_code M) .nil .nil passD (pda_cons (pd_var (pv 1)) pda_nil)) (pd_var (pv 6)) (nomark _)) (pdw_or (pdt_cmp (op_neU (room_eq hr)) ok_ne (pd_callK0 (ok_code M) (hr.mono (by decide)) rfl M.g_code M.f_code.choose_spec.kp (kb_code_0_sample M) passD (pdkc (pd_var (pv 1)) pdk_nil)) (pd_var (pv 6)) (nomark _)) (pdw_or (pdt_cmp (op_neU (room_eq hr)) ok_ne (pd_call (ok_decoded M) (hr.mono (by decide)) rfl M.g_decoded M.f_decoded.choose_spec.kp (bn_decoded M) .nil .nil passD (pda_cons (pd_var (pv 6)) pda_nil)) (pd_if (pdt_cmp op_ltU ok_cmp (pd_var (pv 1)) pd_int (nomark _)) (pd_un un_neg ok_neg (pd_var (pv 7))) (pd_var (pv 7))) (nomark _)) (pdw_or1 (pdt_cmp (op_neU (room_eq hr)) ok_ne (pd_callK0 (ok_decoded M) (hr.mono (by decide)) rfl M.g_decoded M.f_decoded.choose_spec.kp (kb_decoded_0_code M) passD (pdkc (pd_var (pv 6)) pdk_nil)) (pd_call (ok_decoded M) (hr.mono (by decide)) rfl M.g_decoded M.f_decoded.choose_spec.kp (bn_decoded M) .nil .nil passD (pda_cons (pd_var (pv 6)) pda_nil)) (nomark _))))))) (pdss_one (pds_ret pd_bl)) pdss_nil) (pdss_cons (pds_if (PDW.pt (pdw_or (pdt_cmp (op_neU (room_eq hr)) ok_ne (pd_call (ok_code M) (hr.mono (by decide)) rfl M.g_code M.f_code.choose_spec.kp (bn_code M) .nil .nil passD (pda_cons (pd_call (ok_decoded M) (hr.mono (by decide)) rfl M.g_decoded M.f_decoded.choose_spec.kp (bn_decoded M) .nil .nil passD (pda_cons (pd_var (pv 6)) pda_nil)) pda_nil)) (pd_var (pv 6)) (nomark _)) (pdw_or (pdt_cmp op_gtU ok_cmp (pd_callB cr_abs ok_abs rfl M.b_abs boot_abs (pda_cons (pd_op op_sub ok_sub (pd_call (ok_decoded M) (hr.mono (by decide)) rfl M.g_decoded M.f_decoded.choose_spec.kp (bn_decoded M) .nil .nil passD (pda_cons (pd_var (pv 6)) pda_nil)) (pd_var (pv 1))) pda_nil)) (pd_call (ok_worst_error M) (hr.mono (by decide)) rfl M.g_worst_error M.f_worst_error.choose_spec.kp (bn_worst_error M) .nil .nil passD (pda_cons (pd_var (pv 2)) pda_nil)) (nomark _)) (pdw_or1 (PDW.pt (pdw_and (pdt_cmp op_geU ok_cmp (pd_callB cr_abs ok_abs rfl M.b_abs boot_abs (pda_cons (pd_var (pv 1)) pda_nil)) pd_int (nomark _)) (pdw_and1 (pdt_cmp op_gtU ok_cmp (pd_op op_mulU ok_mul pd_int (pd_callB cr_abs ok_abs rfl M.b_abs boot_abs (pda_cons (pd_op op_sub ok_sub (pd_call (ok_decoded M) (hr.mono (by decide)) rfl M.g_decoded M.f_decoded.choose_spec.kp (bn_decoded M) .nil .nil passD (pda_cons (pd_var (pv 6)) pda_nil)) (pd_var (pv 1))) pda_nil))) (pd_callB cr_abs ok_abs rfl M.b_abs boot_abs (pda_cons (pd_var (pv 1)) pda_nil)) (nomark _))))))))) (pdss_one (pds_ret pd_bl)) pdss_nil) (pdss_cons (pds_set (i := 8) sc__law_right.nd rfl (by first | exact .inl rfl | exact .inr rfl) (pd_call (ok__law_pick M) (hr.mono (by decide)) rfl M.g__law_pick M.f__law_pick.choose_spec.kp (bn__law_pick M) .nil .nil passD (pda_cons (pd_var (pv 0)) (pda_cons (pd_lst (pda_cons (pd_var (pv 1)) (pda_cons (pd_callB (cr_minU rfl) ok_min rfl M.b_min boot_min (pda_cons pd_int (pda_cons (pd_op op_addU ok_add (pd_var (pv 1)) pd_int) pda_nil))) (pda_cons (pd_op op_sub ok_sub (pd_call (ok__law_roll M) (hr.mono (by decide)) rfl M.g__law_roll M.f__law_roll.choose_spec.kp (bn__law_roll M) .nil .nil passD (pda_cons (pd_var (pv 0)) (pda_cons pd_int pda_nil))) pd_int) pda_nil)))) pda_nil)))) (pdss_cons (pds_if (PDW.pt (pdw_or (PDW.pt (pdw_and (pdt_cmp op_geU ok_cmp (pd_var (pv 8)) (pd_var (pv 1)) (nomark _)) (pdw_and1 (pdt_cmp op_ltU ok_cmp (pd_call (ok_decoded M) (hr.mono (by decide)) rfl M.g_decoded M.f_decoded.choose_spec.kp (bn_decoded M) .nil .nil passD (pda_cons (pd_call (ok_code M) (hr.mono (by decide)) rfl M.g_code M.f_code.choose_spec.kp (bn_code M) .nil .nil passD (pda_cons (pd_var (pv 8)) pda_nil)) pda_nil)) (pd_call (ok_decoded M) (hr.mono (by decide)) rfl M.g_decoded M.f_decoded.choose_spec.kp (bn_decoded M) .nil .nil passD (pda_cons (pd_var (pv 6)) pda_nil)) (nomark _))))) (pdw_or1 (PDW.pt (pdw_and (pdt_cmp op_ltU ok_cmp (pd_var (pv 8)) (pd_var (pv 1)) (nomark _)) (pdw_and1 (pdt_cmp op_gtU ok_cmp (pd_call (ok_decoded M) (hr.mono (by decide)) rfl M.g_decoded M.f_decoded.choose_spec.kp (bn_decoded M) .nil .nil passD (pda_cons (pd_call (ok_code M) (hr.mono (by decide)) rfl M.g_code M.f_code.choose_spec.kp (bn_code M) .nil .nil passD (pda_cons (pd_var (pv 8)) pda_nil)) pda_nil)) (pd_call (ok_decoded M) (hr.mono (by decide)) rfl M.g_decoded M.f_decoded.choose_spec.kp (bn_decoded M) .nil .nil passD (pda_cons (pd_var (pv 6)) pda_nil)) (nomark _)))))))) (pdss_one (pds_ret pd_bl)) pdss_nil) (pdss_cons (pds_set (i := 9) sc__law_right.nd rfl (by first | exact .inl rfl | exact .inr rfl) (pd_op op_addU ok_add (pd_op op_addU ok_add (pd_callTy cr_strI ok_str rfl M.b_str boot_str (pda_cons (pd_ix ix_seq ok_ix (pd_var (pv 6)) pd_int) pda_nil)) (pd_bm PySem.F.plainAttrs_str PySem.F.slot_str_join PySem.F.type_str_join mt_join ok_join ty_str pd_str (pda_cons (pd_lc rfl sc__law_right.nd (pdi_seq (pd_tup (pda_cons pd_int (pda_cons pd_int (pda_cons pd_int pda_nil))))) (show BlkOk ["dice", "sample", "segment", "step", "least", "width", "due", "middle", "more", "signs", "at", "sizes", "row", "worst", "bad", "told"] (defScope s__law_right) _ [("at", 10)] from blk_of (by decide +kernel)) (fun _ _ _ _ _ => pdn_name (i := 10) sc__law_right.nd rfl (.inl rfl) (by decide)) (fun _ _ _ _ _ => pdts_nil) (fun _ _ _ _ _ => (pd_callTy cr_strI ok_str rfl M.b_str boot_str (pda_cons (pd_op op_mod ok_mod (pd_callTy cr_int ok_int rfl M.b_int boot_int (pda_cons (pd_op op_shr ok_shr (pd_var (pv 2)) (pd_var (pv 10))) pda_nil)) pd_int) pda_nil)))) pda_nil))) (pd_bm PySem.F.plainAttrs_str PySem.F.slot_str_join PySem.F.type_str_join mt_join ok_join ty_str pd_str (pda_cons (pd_lc rfl sc__law_right.nd (pdi_seq (pd_tup (pda_cons pd_int (pda_cons pd_int (pda_cons pd_int (pda_cons pd_int pda_nil)))))) (show BlkOk ["dice", "sample", "segment", "step", "least", "width", "due", "middle", "more", "signs", "at", "sizes", "row", "worst", "bad", "told"] (defScope s__law_right) _ [("at", 10)] from blk_of (by decide +kernel)) (fun _ _ _ _ _ => pdn_name (i := 10) sc__law_right.nd rfl (.inl rfl) (by decide)) (fun _ _ _ _ _ => pdts_nil) (fun _ _ _ _ _ => (pd_callTy cr_strI ok_str rfl M.b_str boot_str (pda_cons (pd_op op_mod ok_mod (pd_callTy cr_int ok_int rfl M.b_int boot_int (pda_cons (pd_op op_shr ok_shr (pd_var (pv 3)) (pd_var (pv 10))) pda_nil)) pd_int) pda_nil)))) pda_nil)))) (pdss_cons (pds_if (PDW.pt (pdw_or (pdt_cmp (op_neU (room_eq hr)) ok_ne (pd_call (ok_as_bits M) (hr.mono (by decide)) rfl M.g_as_bits M.f_as_bits.choose_spec.kp (bn_as_bits M) .nil .nil passD (pda_cons (pd_var (pv 6)) pda_nil)) (pd_var (pv 9)) (nomark _)) (pdw_or (pdt_cmp (op_neU (room_eq hr)) ok_ne (pd_call (ok_of_bits M) (hr.mono (by decide)) rfl M.g_of_bits M.f_of_bits.choose_spec.kp (bn_of_bits M) .nil .nil passD (pda_cons (pd_var (pv 9)) pda_nil)) (pd_var (pv 6)) (nomark _)) (pdw_or (pdt_cmp (op_neU (room_eq hr)) ok_ne (pd_callK0 (ok_as_bits M) (hr.mono (by decide)) rfl M.g_as_bits M.f_as_bits.choose_spec.kp (kb_as_bits_0_code M) passD (pdkc (pd_var (pv 6)) pdk_nil)) (pd_var (pv 9)) (nomark _)) (pdw_or1 (pdt_cmp (op_neU (room_eq hr)) ok_ne (pd_callK0 (ok_of_bits M) (hr.mono (by decide)) rfl M.g_of_bits M.f_of_bits.choose_spec.kp (kb_of_bits_0_bits M) passD (pdkc (pd_var (pv 9)) pdk_nil)) (pd_var (pv 6)) (nomark _))))))) (pdss_one (pds_ret pd_bl)) pdss_nil) (pdss_cons (pds_setLc (i := 11) rfl sc__law_right.nd rfl rfl rfl (pdi_seq (pd_call0 (ok__law_steps M) (hr.mono (by decide)) rfl M.g__law_steps M.f__law_steps.choose_spec.kp (bn__law_steps M) .nil .nil passD)) (show BlkOk ["dice", "sample", "segment", "step", "least", "width", "due", "middle", "more", "signs", "at", "sizes", "row", "worst", "bad", "told"] (defScope s__law_right) _ [("row", 12)] from blk_of (by decide +kernel)) (fun _ _ _ _ _ => pdn_name (i := 12) sc__law_right.nd rfl (.inl rfl) (by decide)) (fun _ _ _ _ _ => pdts_one (pdt_cmp (op_eqU (room_eq hr)) ok_eq (pd_ix ix_seq ok_ix (pd_var (pv 12)) pd_int) (pd_var (pv 2)) (nomark _))) (fun _ _ _ _ _ => (pd_var (pv 12)))) (pdss_cons (pds_set (i := 13) sc__law_right.nd rfl (by first | exact .inl rfl | exact .inr rfl) (pd_callB (cr_maxU rfl) ok_max rfl M.b_max boot_max (pda_cons (pd_lc rfl sc__law_right.nd (pdi_seq (pd_var (pv 11))) (show BlkOk ["dice", "sample", "segment", "step", "least", "width", "due", "middle", "more", "signs", "at", "sizes", "row", "worst", "bad", "told"] (defScope s__law_right) _ [("row", 12)] from blk_of (by decide +kernel)) (fun _ _ _ _ _ => pdn_name (i := 12) sc__law_right.nd rfl (.inl rfl) (by decide)) (fun _ _ _ _ _ => pdts_nil) (fun _ _ _ _ _ => (pd_callB (cr_maxU rfl) ok_max rfl M.b_max boot_max (pda_cons (pd_op op_fdiv ok_div (pd_ix ix_seq ok_ix (pd_var (pv 12)) pd_int) pd_int) (pda_cons (pd_op op_sub ok_sub (pd_op op_sub ok_sub (pd_ix ix_seq ok_ix (pd_var (pv 12)) pd_int) pd_int) (pd_op op_fdiv ok_div (pd_ix ix_seq ok_ix (pd_var (pv 12)) pd_int) pd_int)) pda_nil))))) pda_nil))) (pdss_cons (pds_if (pdt_cmp (op_neU (room_eq hr)) ok_ne (pd_callK0 (ok_worst_error M) (hr.mono (by decide)) rfl M.g_worst_error M.f_worst_error.choose_spec.kp (kb_worst_error_0_segment M) passD (pdkc (pd_var (pv 2)) pdk_nil)) (pd_var (pv 13)) (nomark _)) (pdss_one (pds_ret pd_bl)) pdss_nil) (pdss_cons (pds_set (i := 14) sc__law_right.nd rfl (by first | exact .inl rfl | exact .inr rfl) (pd_call (ok__law_pick M) (hr.mono (by decide)) rfl M.g__law_pick M.f__law_pick.choose_spec.kp (bn__law_pick M) .nil .nil passD (pda_cons (pd_var (pv 0)) (pda_cons (pd_lst (pda_cons pd_non (pda_cons (pd_tup (pda_cons pd_int (pda_cons pd_int pda_nil))) (pda_cons (pd_tup (pda_cons pd_int (pda_cons pd_int (pda_cons pd_int pda_nil)))) (pda_cons (pd_tup (pda_cons pd_int (pda_cons pd_int (pda_cons pd_int pda_nil)))) (pda_cons (pd_tup (pda_cons pd_int (pda_cons pd_int (pda_cons pd_int pda_nil)))) (pda_cons (pd_lst (pda_cons pd_int (pda_cons pd_int (pda_cons pd_int pda_nil)))) (pda_cons (pd_tup (pda_cons pd_bl (pda_cons pd_int (pda_cons pd_int pda_nil)))) pda_nil)))))))) pda_nil)))) (pdss_cons (pds_set (i := 15) sc__law_right.nd rfl (by first | exact .inl rfl | exact .inr rfl) (pd_lst (pda_cons (told M rfl rfl rfl TB rfl (List.Mem.head _) (tt_one K) (k := 4) (hr.mono (by decide)) (show LamX.LamS (defScope s__law_right) _ from LamX.lamS_by (by decide +kernel)) rfl (fun _ _ _ _ _ => rfl) fun A outer s H E f c' KE hr2 => (pd_call (ok_code M) (hr2.mono (by decide)) rfl M.g_code M.f_code.choose_spec.kp (bn_code M) .nil .nil passLm (pda_cons (pd_call (ok__law_pick M) (hr2.mono (by decide)) rfl M.g__law_pick M.f__law_pick.choose_spec.kp (bn__law_pick M) .nil .nil passLm (pda_cons (pd_var (pv 0)) (pda_cons (pd_lst (pda_cons pd_int (pda_cons (pd_un un_neg ok_neg pd_int) (pda_cons pd_non (pda_cons pd_bl pda_nil))))) pda_nil))) pda_nil))) (pda_cons (told M rfl rfl rfl TB rfl (List.Mem.head _) (tt_one K) (k := 4) (hr.mono (by decide)) (show LamX.LamS (defScope s__law_right) _ from LamX.lamS_by (by decide +kernel)) rfl (fun _ _ _ _ _ => rfl) fun A outer s H E f c' KE hr2 => (pd_call (ok_decoded M) (hr2.mono (by decide)) rfl M.g_decoded M.f_decoded.choose_spec.kp (bn_decoded M) .nil .nil passLm (pda_cons (pd_var (pv 14)) pda_nil))) (pda_cons (told M rfl rfl rfl TB rfl (List.Mem.head _) (tt_one K) (k := 3) (hr.mono (by decide)) (show LamX.LamS (defScope s__law_right) _ from LamX.lamS_by (by decide +kernel)) rfl (fun _ _ _ _ _ => rfl) fun A outer s H E f c' KE hr2 => (pd_call (ok_worst_error M) (hr2.mono (by decide)) rfl M.g_worst_error M.f_worst_error.choose_spec.kp (bn_worst_error M) .nil .nil passLm (pda_cons (pd_call (ok__law_pick M) (hr2.mono (by decide)) rfl M.g__law_pick M.f__law_pick.choose_spec.kp (bn__law_pick M) .nil .nil passLm (pda_cons (pd_var (pv 0)) (pda_cons (pd_lst (pda_cons pd_int (pda_cons (pd_un un_neg ok_neg pd_int) (pda_cons pd_non pda_nil)))) pda_nil))) pda_nil))) (pda_cons (told M rfl rfl rfl TB rfl (List.Mem.head _) (tt_one K) (k := 4) (hr.mono (by decide)) (show LamX.LamS (defScope s__law_right) _ from LamX.lamS_by (by decide +kernel)) rfl (fun _ _ _ _ _ => rfl) fun A outer s H E f c' KE hr2 => (pd_call (ok_as_bits M) (hr2.mono (by decide)) rfl M.g_as_bits M.f_as_bits.choose_spec.kp (bn_as_bits M) .nil .nil passLm (pda_cons (pd_var (pv 14)) pda_nil))) pda_nil)))))) (pdss_one (pds_ret (pd_cmp (op_eqU (room_eq hr)) ok_eq (pd_op op_addU ok_add (pd_var (pv 15)) (pd_lst (pda_cons (told M rfl rfl rfl TB rfl (List.Mem.head _) (tt_one K) (k := 3) (hr.mono (by decide)) (show LamX.LamS (defScope s__law_right) _ from LamX.lamS_by (by decide +kernel)) rfl (fun _ _ _ _ _ => rfl) fun A outer s H E f c' KE hr2 => (pd_call (ok_of_bits M) (hr2.mono (by decide)) rfl M.g_of_bits M.f_of_bits.choose_spec.kp (bn_of_bits M) .nil .nil passLm (pda_cons (pd_call (ok__law_pick M) (hr2.mono (by decide)) rfl M.g__law_pick M.f__law_pick.choose_spec.kp (bn__law_pick M) .nil .nil passLm (pda_cons (pd_var (pv 0)) (pda_cons (pd_lst (pda_cons pd_str (pda_cons (pd_op op_mulU ok_mul pd_str pd_int) (pda_cons (pd_op op_mulU ok_mul pd_str pd_int) (pda_cons pd_non (pda_cons pd_int pda_nil)))))) pda_nil))) pda_nil))) pda_nil))) (pd_lst (pda_cons pd_str (pda_cons pd_str (pda_cons pd_str (pda_cons pd_str (pda_cons pd_str pda_nil)))))) (nomark _))))))))))))))))))), ?_⟩
  intro τ ds k hl h
  unfold sp__law_right at h
  split at h
  case h_2 => exact h.elim
  rename_i p
  obtain ⟨xs, hx, hd, hk⟩ := h
  refine dSeq_step fun Z hZ => ?_
  simp only [dVar, dC, dOp, dUn, dTest_eq, dAnd, dOr, dNot, dAndV_eq, dOrV_eq, dNotV_eq, dIf, dChain_eq, dNil, dCons, dTup, dLst, dLstM, dCB, dBM, dNoPart, dPart_eq, dSl, dCall, dCallK, dNext, dBrk, dCnt, dSeq, dDrop, dRet, dRetN, dIfS, γName, γNil, γCons, γSub, dAsg, dPar, dAug, ιSeq_eq, ιRng1_eq, ιRng2_eq, dFor, dLc, dLcM, dYes, dT, dTold, onBl_eq, onInt_eq, onSeq_lst, onSeq_tup, onSeq_str, onSome_eq, lstAt_same, dRaise, startD, List.map_cons, List.map_nil, List.length_cons, List.length_nil, List.replicate_succ, List.replicate_zero, List.cons_append, List.nil_append, List.append_nil, List.getElem?_cons_zero, List.getElem?_cons_succ, List.set_cons_zero, List.set_cons_succ, Nat.reduceAdd, Nat.reduceSub, Nat.zero_add, Nat.sub_self, ρEq_int, ρEq_str, ρEq_bl, ρNe_int, ρNe_str, ρNe_bl, ρEq_t3, ρNe_t3, ρEq_t2, ρNe_t2, intsOf_mapf, strsOf_mapf, blsOf_mapf, gK_01_0, gK_02_01, gK_02_10, gK_03_012, gK_03_021, gK_03_102, gK_03_120, gK_03_201, gK_03_210, gK_11_0, gK_12_01, gK_12_10, gK_13_012, gK_13_021, gK_13_102, gK_13_120, gK_13_201, gK_13_210, eq_self, Bool.not_true, Bool.not_false, decide_true, decide_false, strsOf_c0, strsOf_c1, strsOf_c2, strsOf_c3, strsOf_c4, strsOf_c5, strsOf_c6, strsOf_c7, strsOf_c8, intsOf_c0, intsOf_c1, intsOf_c2, intsOf_c3, intsOf_c4, intsOf_c5, intsOf_c6, intsOf_c7, intsOf_c8, blsOf_c0, blsOf_c1, blsOf_c2, blsOf_c3, blsOf_c4, blsOf_c5, blsOf_c6, blsOf_c7, blsOf_c8, ixN_30, ixN_31, ixN_32, wipeD, if_true, if_false, Bool.false_eq_true, Bool.true_eq_false, true_and, and_true, ρAdd_int, ρAdd_str, ρAdd_tup, ρAdd_lst, ρAdd_rl, ρI_int, ρI0_int, ρMul_int, ρMul_str, ρNeg_int, ρCmp_int, ρCmp_str, ρIsN_eq, ρNotN_eq, isNonD_bl, isNonD_int, isNonD_str, isNonD_tup, isNonD_lst, isNonD_ref, isNonD_non, ρSgn_one, ρAbs_int, ρMax_two, ρMin_two, ρMax_lst, ρMin_lst, ρInt_int, ρInt_bl, ρStr_int, ρLen_str, ρLen_tup, ρLen_lst, ρLen_ref, ρSum_lst, ρAll_lst, ρAny_lst, ρTupO_tup, ρTupO_lst, ρIsi_eq, is_non_int, is_non_bool, is_non_str, is_non_tuple, is_non_list, is_bl_int, is_bl_bool, is_bl_str, is_bl_tuple, is_bl_list, is_int_int, is_int_bool, is_int_str, is_int_tuple, is_int_list, is_str_int, is_str_bool, is_str_str, is_str_tuple, is_str_list, is_tup_int, is_tup_bool, is_tup_str, is_tup_tuple, is_tup_list, is_lst_int, is_lst_bool, is_lst_str, is_lst_tuple, is_lst_list, tyN_non, tyN_bl, tyN_int, tyN_str, tyN_tup, tyN_lst, ρIx_tup, ρIx_lst, ρIx_str, ρIx_ref, ρSl_str, ρSl_lst, ρSl_tup, ρApp_ref, θLst_ref, θStr_str, ςLst_ref, ρJoin_lst, γTup_tup, atI_0, atI_1, atI_2, atI_3, atI_4, atI_5, atI_6, atI_7, c_WIDTHS, sp_is_in_eq, sp_is_tuple_eq, sp_demand_eq, sp_is_bits_eq, sp_number_of_eq, sp_bits_of_eq, sp_least_of_eq, sp_code_of_eq, sp_code_eq, sp_is_code_eq, sp_decoded_of_eq, sp_decoded_eq, sp_worst_error_eq, sp_as_bits_eq, sp_of_bits_eq, sp__law_dice_eq, sp__law_roll_eq, sp__law_pick_eq, sp__law_steps_eq, sp__law_step_of_eq, sp__law_right_eq]
  refine ⟨0, xs, hx, hd, by decide, ⟨by decide, by decide⟩, fun ys r hy h1 h2 => ?_⟩
  refine ⟨1, ys, rfl, hy, by decide, ⟨by decide, by decide⟩, fun ys r2 hy h3 h4 => ?_⟩
  simp only [dVar, dC, dOp, dUn, dTest_eq, dAnd, dOr, dNot, dAndV_eq, dOrV_eq, dNotV_eq, dIf, dChain_eq, dNil, dCons, dTup, dLst, dLstM, dCB, dBM, dNoPart, dPart_eq, dSl, dCall, dCallK, dNext, dBrk, dCnt, dSeq, dDrop, dRet, dRetN, dIfS, γName, γNil, γCons, γSub, dAsg, dPar, dAug, ιSeq_eq, ιRng1_eq, ιRng2_eq, dFor, dLc, dLcM, dYes, dT, dTold, onBl_eq, onInt_eq, onSeq_lst, onSeq_tup, onSeq_str, onSome_eq, lstAt_same, dRaise, startD, List.map_cons, List.map_nil, List.length_cons, List.length_nil, List.replicate_succ, List.replicate_zero, List.cons_append, List.nil_append, List.append_nil, List.getElem?_cons_zero, List.getElem?_cons_succ, List.set_cons_zero, List.set_cons_succ, Nat.reduceAdd, Nat.reduceSub, Nat.zero_add, Nat.sub_self, ρEq_int, ρEq_str, ρEq_bl, ρNe_int, ρNe_str, ρNe_bl, ρEq_t3, ρNe_t3, ρEq_t2, ρNe_t2, intsOf_mapf, strsOf_mapf, blsOf_mapf, gK_01_0, gK_02_01, gK_02_10, gK_03_012, gK_03_021, gK_03_102, gK_03_120, gK_03_201, gK_03_210, gK_11_0, gK_12_01, gK_12_10, gK_13_012, gK_13_021, gK_13_102, gK_13_120, gK_13_201, gK_13_210, eq_self, Bool.not_true, Bool.not_false, decide_true, decide_false, strsOf_c0, strsOf_c1, strsOf_c2, strsOf_c3, strsOf_c4, strsOf_c5, strsOf_c6, strsOf_c7, strsOf_c8, intsOf_c0, intsOf_c1, intsOf_c2, intsOf_c3, intsOf_c4, intsOf_c5, intsOf_c6, intsOf_c7, intsOf_c8, blsOf_c0, blsOf_c1, blsOf_c2, blsOf_c3, blsOf_c4, blsOf_c5, blsOf_c6, blsOf_c7, blsOf_c8, ixN_30, ixN_31, ixN_32, wipeD, if_true, if_false, Bool.false_eq_true, Bool.true_eq_false, true_and, and_true, ρAdd_int, ρAdd_str, ρAdd_tup, ρAdd_lst, ρAdd_rl, ρI_int, ρI0_int, ρMul_int, ρMul_str, ρNeg_int, ρCmp_int, ρCmp_str, ρIsN_eq, ρNotN_eq, isNonD_bl, isNonD_int, isNonD_str, isNonD_tup, isNonD_lst, isNonD_ref, isNonD_non, ρSgn_one, ρAbs_int, ρMax_two, ρMin_two, ρMax_lst, ρMin_lst, ρInt_int, ρInt_bl, ρStr_int, ρLen_str, ρLen_tup, ρLen_lst, ρLen_ref, ρSum_lst, ρAll_lst, ρAny_lst, ρTupO_tup, ρTupO_lst, ρIsi_eq, is_non_int, is_non_bool, is_non_str, is_non_tuple, is_non_list, is_bl_int, is_bl_bool, is_bl_str, is_bl_tuple, is_bl_list, is_int_int, is_int_bool, is_int_str, is_int_tuple, is_int_list, is_str_int, is_str_bool, is_str_str, is_str_tuple, is_str_list, is_tup_int, is_tup_bool, is_tup_str, is_tup_tuple, is_tup_list, is_lst_int, is_lst_bool, is_lst_str, is_lst_tuple, is_lst_list, tyN_non, tyN_bl, tyN_int, tyN_str, tyN_tup, tyN_lst, ρIx_tup, ρIx_lst, ρIx_str, ρIx_ref, ρSl_str, ρSl_lst, ρSl_tup, ρApp_ref, θLst_ref, θStr_str, ςLst_ref, ρJoin_lst, γTup_tup, atI_0, atI_1, atI_2, atI_3, atI_4, atI_5, atI_6, atI_7, c_WIDTHS, sp_is_in_eq, sp_is_tuple_eq, sp_demand_eq, sp_is_bits_eq, sp_number_of_eq, sp_bits_of_eq, sp_least_of_eq, sp_code_of_eq, sp_code_eq, sp_is_code_eq, sp_decoded_of_eq, sp_decoded_eq, sp_worst_error_eq, sp_as_bits_eq, sp_of_bits_eq, sp__law_dice_eq, sp__law_roll_eq, sp__law_pick_eq, sp__law_steps_eq, sp__law_step_of_eq, sp__law_right_eq, tset_tset]
  refine ⟨by rw [sizeLine_eq]; decide, 2, ys, rfl, hy, by decide, ⟨by simp [seqOf], by simp [seqOf]⟩, fun ys d hy hd => ?_⟩
  refine hZ _ _ ?_
  clear hZ Z
  have hs : ∃ s : Int, d = .int s ∧ -4095 ≤ s ∧ s ≤ 4095 := by
    simp only [seqOf, List.mem_cons, List.not_mem_nil, or_false] at hd
    rcases hd with rfl | rfl | rfl | rfl | rfl | rfl | rfl | rfl <;> exact ⟨_, rfl, by omega, by omega⟩
  obtain ⟨s, rfl, hs⟩ := hs
  clear hd h1 h2 h3 h4
  have hz := absI_ok s hs
  have hA := segI_ok (absI s)
  have hB := (step_in hz).1
  have ha : (if s < 0 then -s else s) = absI s := rfl
  have hsg : (if decide (s < 0) = true then (1 : Int) else 0) = sgnI s := rfl
  have hg := sgnI_ok s
  -- segment, step, least, width
  refine dSeq_step fun Z hZ => ?_
  simp only [dVar, dC, dOp, dUn, dTest_eq, dAnd, dOr, dNot, dAndV_eq, dOrV_eq, dNotV_eq, dIf, dChain_eq, dNil, dCons, dTup, dLst, dLstM, dCB, dBM, dNoPart, dPart_eq, dSl, dCall, dCallK, dNext, dBrk, dCnt, dSeq, dDrop, dRet, dRetN, dIfS, γName, γNil, γCons, γSub, dAsg, dPar, dAug, ιSeq_eq, ιRng1_eq, ιRng2_eq, dFor, dLc, dLcM, dYes, dT, dTold, onBl_eq, onInt_eq, onSeq_lst, onSeq_tup, onSeq_str, onSome_eq, lstAt_same, dRaise, startD, List.map_cons, List.map_nil, List.length_cons, List.length_nil, List.replicate_succ, List.replicate_zero, List.cons_append, List.nil_append, List.append_nil, List.getElem?_cons_zero, List.getElem?_cons_succ, List.set_cons_zero, List.set_cons_succ, Nat.reduceAdd, Nat.reduceSub, Nat.zero_add, Nat.sub_self, ρEq_int, ρEq_str, ρEq_bl, ρNe_int, ρNe_str, ρNe_bl, ρEq_t3, ρNe_t3, ρEq_t2, ρNe_t2, intsOf_mapf, strsOf_mapf, blsOf_mapf, gK_01_0, gK_02_01, gK_02_10, gK_03_012, gK_03_021, gK_03_102, gK_03_120, gK_03_201, gK_03_210, gK_11_0, gK_12_01, gK_12_10, gK_13_012, gK_13_021, gK_13_102, gK_13_120, gK_13_201, gK_13_210, eq_self, Bool.not_true, Bool.not_false, decide_true, decide_false, strsOf_c0, strsOf_c1, strsOf_c2, strsOf_c3, strsOf_c4, strsOf_c5, strsOf_c6, strsOf_c7, strsOf_c8, intsOf_c0, intsOf_c1, intsOf_c2, intsOf_c3, intsOf_c4, intsOf_c5, intsOf_c6, intsOf_c7, intsOf_c8, blsOf_c0, blsOf_c1, blsOf_c2, blsOf_c3, blsOf_c4, blsOf_c5, blsOf_c6, blsOf_c7, blsOf_c8, ixN_30, ixN_31, ixN_32, wipeD, if_true, if_false, Bool.false_eq_true, Bool.true_eq_false, true_and, and_true, ρAdd_int, ρAdd_str, ρAdd_tup, ρAdd_lst, ρAdd_rl, ρI_int, ρI0_int, ρMul_int, ρMul_str, ρNeg_int, ρCmp_int, ρCmp_str, ρIsN_eq, ρNotN_eq, isNonD_bl, isNonD_int, isNonD_str, isNonD_tup, isNonD_lst, isNonD_ref, isNonD_non, ρSgn_one, ρAbs_int, ρMax_two, ρMin_two, ρMax_lst, ρMin_lst, ρInt_int, ρInt_bl, ρStr_int, ρLen_str, ρLen_tup, ρLen_lst, ρLen_ref, ρSum_lst, ρAll_lst, ρAny_lst, ρTupO_tup, ρTupO_lst, ρIsi_eq, is_non_int, is_non_bool, is_non_str, is_non_tuple, is_non_list, is_bl_int, is_bl_bool, is_bl_str, is_bl_tuple, is_bl_list, is_int_int, is_int_bool, is_int_str, is_int_tuple, is_int_list, is_str_int, is_str_bool, is_str_str, is_str_tuple, is_str_list, is_tup_int, is_tup_bool, is_tup_str, is_tup_tuple, is_tup_list, is_lst_int, is_lst_bool, is_lst_str, is_lst_tuple, is_lst_list, tyN_non, tyN_bl, tyN_int, tyN_str, tyN_tup, tyN_lst, ρIx_tup, ρIx_lst, ρIx_str, ρIx_ref, ρSl_str, ρSl_lst, ρSl_tup, ρApp_ref, θLst_ref, θStr_str, ςLst_ref, ρJoin_lst, γTup_tup, atI_0, atI_1, atI_2, atI_3, atI_4, atI_5, atI_6, atI_7, c_WIDTHS, sp_is_in_eq, sp_is_tuple_eq, sp_demand_eq, sp_is_bits_eq, sp_number_of_eq, sp_bits_of_eq, sp_least_of_eq, sp_code_of_eq, sp_code_eq, sp_is_code_eq, sp_decoded_of_eq, sp_decoded_eq, sp_worst_error_eq, sp_as_bits_eq, sp_of_bits_eq, sp__law_dice_eq, sp__law_roll_eq, sp__law_pick_eq, sp__law_steps_eq, sp__law_step_of_eq, sp__law_right_eq, ha, rowD, rowOf]
  refine ⟨hz, hZ _ _ ?_⟩
  clear hZ Z
  refine dSeq_step fun Z hZ => ?_
  simp only [dVar, dC, dOp, dUn, dTest_eq, dAnd, dOr, dNot, dAndV_eq, dOrV_eq, dNotV_eq, dIf, dChain_eq, dNil, dCons, dTup, dLst, dLstM, dCB, dBM, dNoPart, dPart_eq, dSl, dCall, dCallK, dNext, dBrk, dCnt, dSeq, dDrop, dRet, dRetN, dIfS, γName, γNil, γCons, γSub, dAsg, dPar, dAug, ιSeq_eq, ιRng1_eq, ιRng2_eq, dFor, dLc, dLcM, dYes, dT, dTold, onBl_eq, onInt_eq, onSeq_lst, onSeq_tup, onSeq_str, onSome_eq, lstAt_same, dRaise, startD, List.map_cons, List.map_nil, List.length_cons, List.length_nil, List.replicate_succ, List.replicate_zero, List.cons_append, List.nil_append, List.append_nil, List.getElem?_cons_zero, List.getElem?_cons_succ, List.set_cons_zero, List.set_cons_succ, Nat.reduceAdd, Nat.reduceSub, Nat.zero_add, Nat.sub_self, ρEq_int, ρEq_str, ρEq_bl, ρNe_int, ρNe_str, ρNe_bl, ρEq_t3, ρNe_t3, ρEq_t2, ρNe_t2, intsOf_mapf, strsOf_mapf, blsOf_mapf, gK_01_0, gK_02_01, gK_02_10, gK_03_012, gK_03_021, gK_03_102, gK_03_120, gK_03_201, gK_03_210, gK_11_0, gK_12_01, gK_12_10, gK_13_012, gK_13_021, gK_13_102, gK_13_120, gK_13_201, gK_13_210, eq_self, Bool.not_true, Bool.not_false, decide_true, decide_false, strsOf_c0, strsOf_c1, strsOf_c2, strsOf_c3, strsOf_c4, strsOf_c5, strsOf_c6, strsOf_c7, strsOf_c8, intsOf_c0, intsOf_c1, intsOf_c2, intsOf_c3, intsOf_c4, intsOf_c5, intsOf_c6, intsOf_c7, intsOf_c8, blsOf_c0, blsOf_c1, blsOf_c2, blsOf_c3, blsOf_c4, blsOf_c5, blsOf_c6, blsOf_c7, blsOf_c8, ixN_30, ixN_31, ixN_32, wipeD, if_true, if_false, Bool.false_eq_true, Bool.true_eq_false, true_and, and_true, ρAdd_int, ρAdd_str, ρAdd_tup, ρAdd_lst, ρAdd_rl, ρI_int, ρI0_int, ρMul_int, ρMul_str, ρNeg_int, ρCmp_int, ρCmp_str, ρIsN_eq, ρNotN_eq, isNonD_bl, isNonD_int, isNonD_str, isNonD_tup, isNonD_lst, isNonD_ref, isNonD_non, ρSgn_one, ρAbs_int, ρMax_two, ρMin_two, ρMax_lst, ρMin_lst, ρInt_int, ρInt_bl, ρStr_int, ρLen_str, ρLen_tup, ρLen_lst, ρLen_ref, ρSum_lst, ρAll_lst, ρAny_lst, ρTupO_tup, ρTupO_lst, ρIsi_eq, is_non_int, is_non_bool, is_non_str, is_non_tuple, is_non_list, is_bl_int, is_bl_bool, is_bl_str, is_bl_tuple, is_bl_list, is_int_int, is_int_bool, is_int_str, is_int_tuple, is_int_list, is_str_int, is_str_bool, is_str_str, is_str_tuple, is_str_list, is_tup_int, is_tup_bool, is_tup_str, is_tup_tuple, is_tup_list, is_lst_int, is_lst_bool, is_lst_str, is_lst_tuple, is_lst_list, tyN_non, tyN_bl, tyN_int, tyN_str, tyN_tup, tyN_lst, ρIx_tup, ρIx_lst, ρIx_str, ρIx_ref, ρSl_str, ρSl_lst, ρSl_tup, ρApp_ref, θLst_ref, θStr_str, ςLst_ref, ρJoin_lst, γTup_tup, atI_0, atI_1, atI_2, atI_3, atI_4, atI_5, atI_6, atI_7, c_WIDTHS, sp_is_in_eq, sp_is_tuple_eq, sp_demand_eq, sp_is_bits_eq, sp_number_of_eq, sp_bits_of_eq, sp_least_of_eq, sp_code_of_eq, sp_code_eq, sp_is_code_eq, sp_decoded_of_eq, sp_decoded_eq, sp_worst_error_eq, sp_as_bits_eq, sp_of_bits_eq, sp__law_dice_eq, sp__law_roll_eq, sp__law_pick_eq, sp__law_steps_eq, sp__law_step_of_eq, sp__law_right_eq, hsg]
  refine ⟨by rw [sizeLine_eq]; decide, hZ _ _ ?_⟩
  clear hZ Z
  refine dSeq_step fun Z hZ => ?_
  simp only [dVar, dC, dOp, dUn, dTest_eq, dAnd, dOr, dNot, dAndV_eq, dOrV_eq, dNotV_eq, dIf, dChain_eq, dNil, dCons, dTup, dLst, dLstM, dCB, dBM, dNoPart, dPart_eq, dSl, dCall, dCallK, dNext, dBrk, dCnt, dSeq, dDrop, dRet, dRetN, dIfS, γName, γNil, γCons, γSub, dAsg, dPar, dAug, ιSeq_eq, ιRng1_eq, ιRng2_eq, dFor, dLc, dLcM, dYes, dT, dTold, onBl_eq, onInt_eq, onSeq_lst, onSeq_tup, onSeq_str, onSome_eq, lstAt_same, dRaise, startD, List.map_cons, List.map_nil, List.length_cons, List.length_nil, List.replicate_succ, List.replicate_zero, List.cons_append, List.nil_append, List.append_nil, List.getElem?_cons_zero, List.getElem?_cons_succ, List.set_cons_zero, List.set_cons_succ, Nat.reduceAdd, Nat.reduceSub, Nat.zero_add, Nat.sub_self, ρEq_int, ρEq_str, ρEq_bl, ρNe_int, ρNe_str, ρNe_bl, ρEq_t3, ρNe_t3, ρEq_t2, ρNe_t2, intsOf_mapf, strsOf_mapf, blsOf_mapf, gK_01_0, gK_02_01, gK_02_10, gK_03_012, gK_03_021, gK_03_102, gK_03_120, gK_03_201, gK_03_210, gK_11_0, gK_12_01, gK_12_10, gK_13_012, gK_13_021, gK_13_102, gK_13_120, gK_13_201, gK_13_210, eq_self, Bool.not_true, Bool.not_false, decide_true, decide_false, strsOf_c0, strsOf_c1, strsOf_c2, strsOf_c3, strsOf_c4, strsOf_c5, strsOf_c6, strsOf_c7, strsOf_c8, intsOf_c0, intsOf_c1, intsOf_c2, intsOf_c3, intsOf_c4, intsOf_c5, intsOf_c6, intsOf_c7, intsOf_c8, blsOf_c0, blsOf_c1, blsOf_c2, blsOf_c3, blsOf_c4, blsOf_c5, blsOf_c6, blsOf_c7, blsOf_c8, ixN_30, ixN_31, ixN_32, wipeD, if_true, if_false, Bool.false_eq_true, Bool.true_eq_false, true_and, and_true, ρAdd_int, ρAdd_str, ρAdd_tup, ρAdd_lst, ρAdd_rl, ρI_int, ρI0_int, ρMul_int, ρMul_str, ρNeg_int, ρCmp_int, ρCmp_str, ρIsN_eq, ρNotN_eq, isNonD_bl, isNonD_int, isNonD_str, isNonD_tup, isNonD_lst, isNonD_ref, isNonD_non, ρSgn_one, ρAbs_int, ρMax_two, ρMin_two, ρMax_lst, ρMin_lst, ρInt_int, ρInt_bl, ρStr_int, ρLen_str, ρLen_tup, ρLen_lst, ρLen_ref, ρSum_lst, ρAll_lst, ρAny_lst, ρTupO_tup, ρTupO_lst, ρIsi_eq, is_non_int, is_non_bool, is_non_str, is_non_tuple, is_non_list, is_bl_int, is_bl_bool, is_bl_str, is_bl_tuple, is_bl_list, is_int_int, is_int_bool, is_int_str, is_int_tuple, is_int_list, is_str_int, is_str_bool, is_str_str, is_str_tuple, is_str_list, is_tup_int, is_tup_bool, is_tup_str, is_tup_tuple, is_tup_list, is_lst_int, is_lst_bool, is_lst_str, is_lst_tuple, is_lst_list, tyN_non, tyN_bl, tyN_int, tyN_str, tyN_tup, tyN_lst, ρIx_tup, ρIx_lst, ρIx_str, ρIx_ref, ρSl_str, ρSl_lst, ρSl_tup, ρApp_ref, θLst_ref, θStr_str, ςLst_ref, ρJoin_lst, γTup_tup, atI_0, atI_1, atI_2, atI_3, atI_4, atI_5, atI_6, atI_7, c_WIDTHS, sp_is_in_eq, sp_is_tuple_eq, sp_demand_eq, sp_is_bits_eq, sp_number_of_eq, sp_bits_of_eq, sp_least_of_eq, sp_code_of_eq, sp_code_eq, sp_is_code_eq, sp_decoded_of_eq, sp_decoded_eq, sp_worst_error_eq, sp_as_bits_eq, sp_of_bits_eq, sp__law_dice_eq, sp__law_roll_eq, sp__law_pick_eq, sp__law_steps_eq, sp__law_step_of_eq, sp__law_right_eq]
  refine ⟨div_ok ⟨by decide, by decide⟩, hZ _ _ ?_⟩
  clear hZ Z
  have hm : leastI (segI (absI s)) + stepI (absI s) * widthI (segI (absI s)) + widthI (segI (absI s)) / 2 = midI (absI s) := rfl
  simp only [hm]
  have c1 := isIn_of hs
  have c2 := isCode_of hg hA hB
  have c3 : codeD (.int s) = .tup [.int (sgnI s), .int (segI (absI s)), .int (stepI (absI s))] := rfl
  have c4 : decD (.tup [.int (sgnI s), .int (segI (absI s)), .int (stepI (absI s))]) = .int (decS s) := rfl
  obtain ⟨v1, v2, v3⟩ := decS_ok hs
  obtain ⟨m1, m2, m3, m4, m5⟩ := mid_ok hz
  have c5 := isIn_of v1
  have c6 : codeD (.int (decS s)) = .tup [.int (sgnI s), .int (segI (absI s)), .int (stepI (absI s))] := by
    show D.tup [.int (sgnI (decS s)), .int (segI (absI (decS s))), .int (stepI (absI (decS s)))] = _
    rw [v2, v3, m2, m3]
  have c7 : isInD (.int (segI (absI s))) 0 7 = true := isIn_of ⟨hA.1, by omega⟩
  have c8 : worD (.int (segI (absI s))) = .int (widthI (segI (absI s)) / 2) := rfl
  obtain ⟨n1, n2⟩ := decS_near hs
  -- the first test
  refine dSeq_step fun Z hZ => ?_
  refine if_two (fun hc => ?_) (hZ _ _ ?_)
  · simp only [dVar, dC, dOp, dUn, dTest_eq, dAnd, dOr, dNot, dAndV_eq, dOrV_eq, dNotV_eq, dIf, dChain_eq, dNil, dCons, dTup, dLst, dLstM, dCB, dBM, dNoPart, dPart_eq, dSl, dCall, dCallK, dNext, dBrk, dCnt, dSeq, dDrop, dRet, dRetN, dIfS, γName, γNil, γCons, γSub, dAsg, dPar, dAug, ιSeq_eq, ιRng1_eq, ιRng2_eq, dFor, dLc, dLcM, dYes, dT, dTold, onBl_eq, onInt_eq, onSeq_lst, onSeq_tup, onSeq_str, onSome_eq, lstAt_same, dRaise, startD, List.map_cons, List.map_nil, List.length_cons, List.length_nil, List.replicate_succ, List.replicate_zero, List.cons_append, List.nil_append, List.append_nil, List.getElem?_cons_zero, List.getElem?_cons_succ, List.set_cons_zero, List.set_cons_succ, Nat.reduceAdd, Nat.reduceSub, Nat.zero_add, Nat.sub_self, ρEq_int, ρEq_str, ρEq_bl, ρNe_int, ρNe_str, ρNe_bl, ρEq_t3, ρNe_t3, ρEq_t2, ρNe_t2, intsOf_mapf, strsOf_mapf, blsOf_mapf, gK_01_0, gK_02_01, gK_02_10, gK_03_012, gK_03_021, gK_03_102, gK_03_120, gK_03_201, gK_03_210, gK_11_0, gK_12_01, gK_12_10, gK_13_012, gK_13_021, gK_13_102, gK_13_120, gK_13_201, gK_13_210, eq_self, Bool.not_true, Bool.not_false, decide_true, decide_false, strsOf_c0, strsOf_c1, strsOf_c2, strsOf_c3, strsOf_c4, strsOf_c5, strsOf_c6, strsOf_c7, strsOf_c8, intsOf_c0, intsOf_c1, intsOf_c2, intsOf_c3, intsOf_c4, intsOf_c5, intsOf_c6, intsOf_c7, intsOf_c8, blsOf_c0, blsOf_c1, blsOf_c2, blsOf_c3, blsOf_c4, blsOf_c5, blsOf_c6, blsOf_c7, blsOf_c8, ixN_30, ixN_31, ixN_32, wipeD, if_true, if_false, Bool.false_eq_true, Bool.true_eq_false, true_and, and_true, ρAdd_int, ρAdd_str, ρAdd_tup, ρAdd_lst, ρAdd_rl, ρI_int, ρI0_int, ρMul_int, ρMul_str, ρNeg_int, ρCmp_int, ρCmp_str, ρIsN_eq, ρNotN_eq, isNonD_bl, isNonD_int, isNonD_str, isNonD_tup, isNonD_lst, isNonD_ref, isNonD_non, ρSgn_one, ρAbs_int, ρMax_two, ρMin_two, ρMax_lst, ρMin_lst, ρInt_int, ρInt_bl, ρStr_int, ρLen_str, ρLen_tup, ρLen_lst, ρLen_ref, ρSum_lst, ρAll_lst, ρAny_lst, ρTupO_tup, ρTupO_lst, ρIsi_eq, is_non_int, is_non_bool, is_non_str, is_non_tuple, is_non_list, is_bl_int, is_bl_bool, is_bl_str, is_bl_tuple, is_bl_list, is_int_int, is_int_bool, is_int_str, is_int_tuple, is_int_list, is_str_int, is_str_bool, is_str_str, is_str_tuple, is_str_list, is_tup_int, is_tup_bool, is_tup_str, is_tup_tuple, is_tup_list, is_lst_int, is_lst_bool, is_lst_str, is_lst_tuple, is_lst_list, tyN_non, tyN_bl, tyN_int, tyN_str, tyN_tup, tyN_lst, ρIx_tup, ρIx_lst, ρIx_str, ρIx_ref, ρSl_str, ρSl_lst, ρSl_tup, ρApp_ref, θLst_ref, θStr_str, ςLst_ref, ρJoin_lst, γTup_tup, atI_0, atI_1, atI_2, atI_3, atI_4, atI_5, atI_6, atI_7, c_WIDTHS, sp_is_in_eq, sp_is_tuple_eq, sp_demand_eq, sp_is_bits_eq, sp_number_of_eq, sp_bits_of_eq, sp_least_of_eq, sp_code_of_eq, sp_code_eq, sp_is_code_eq, sp_decoded_of_eq, sp_decoded_eq, sp_worst_error_eq, sp_as_bits_eq, sp_of_bits_eq, sp__law_dice_eq, sp__law_roll_eq, sp__law_pick_eq, sp__law_steps_eq, sp__law_step_of_eq, sp__law_right_eq, c1, c2, c3, c4, okC_i, not_rfl]
    by_cases h : s < 0
    · have e : decS s = -midI (absI s) := by rw [decS_eq, if_pos h]
      simp only [dVar, dC, dOp, dUn, dTest_eq, dAnd, dOr, dNot, dAndV_eq, dOrV_eq, dNotV_eq, dIf, dChain_eq, dNil, dCons, dTup, dLst, dLstM, dCB, dBM, dNoPart, dPart_eq, dSl, dCall, dCallK, dNext, dBrk, dCnt, dSeq, dDrop, dRet, dRetN, dIfS, γName, γNil, γCons, γSub, dAsg, dPar, dAug, ιSeq_eq, ιRng1_eq, ιRng2_eq, dFor, dLc, dLcM, dYes, dT, dTold, onBl_eq, onInt_eq, onSeq_lst, onSeq_tup, onSeq_str, onSome_eq, lstAt_same, dRaise, startD, List.map_cons, List.map_nil, List.length_cons, List.length_nil, List.replicate_succ, List.replicate_zero, List.cons_append, List.nil_append, List.append_nil, List.getElem?_cons_zero, List.getElem?_cons_succ, List.set_cons_zero, List.set_cons_succ, Nat.reduceAdd, Nat.reduceSub, Nat.zero_add, Nat.sub_self, ρEq_int, ρEq_str, ρEq_bl, ρNe_int, ρNe_str, ρNe_bl, ρEq_t3, ρNe_t3, ρEq_t2, ρNe_t2, intsOf_mapf, strsOf_mapf, blsOf_mapf, gK_01_0, gK_02_01, gK_02_10, gK_03_012, gK_03_021, gK_03_102, gK_03_120, gK_03_201, gK_03_210, gK_11_0, gK_12_01, gK_12_10, gK_13_012, gK_13_021, gK_13_102, gK_13_120, gK_13_201, gK_13_210, eq_self, Bool.not_true, Bool.not_false, decide_true, decide_false, strsOf_c0, strsOf_c1, strsOf_c2, strsOf_c3, strsOf_c4, strsOf_c5, strsOf_c6, strsOf_c7, strsOf_c8, intsOf_c0, intsOf_c1, intsOf_c2, intsOf_c3, intsOf_c4, intsOf_c5, intsOf_c6, intsOf_c7, intsOf_c8, blsOf_c0, blsOf_c1, blsOf_c2, blsOf_c3, blsOf_c4, blsOf_c5, blsOf_c6, blsOf_c7, blsOf_c8, ixN_30, ixN_31, ixN_32, wipeD, if_true, if_false, Bool.false_eq_true, Bool.true_eq_false, true_and, and_true, ρAdd_int, ρAdd_str, ρAdd_tup, ρAdd_lst, ρAdd_rl, ρI_int, ρI0_int, ρMul_int, ρMul_str, ρNeg_int, ρCmp_int, ρCmp_str, ρIsN_eq, ρNotN_eq, isNonD_bl, isNonD_int, isNonD_str, isNonD_tup, isNonD_lst, isNonD_ref, isNonD_non, ρSgn_one, ρAbs_int, ρMax_two, ρMin_two, ρMax_lst, ρMin_lst, ρInt_int, ρInt_bl, ρStr_int, ρLen_str, ρLen_tup, ρLen_lst, ρLen_ref, ρSum_lst, ρAll_lst, ρAny_lst, ρTupO_tup, ρTupO_lst, ρIsi_eq, is_non_int, is_non_bool, is_non_str, is_non_tuple, is_non_list, is_bl_int, is_bl_bool, is_bl_str, is_bl_tuple, is_bl_list, is_int_int, is_int_bool, is_int_str, is_int_tuple, is_int_list, is_str_int, is_str_bool, is_str_str, is_str_tuple, is_str_list, is_tup_int, is_tup_bool, is_tup_str, is_tup_tuple, is_tup_list, is_lst_int, is_lst_bool, is_lst_str, is_lst_tuple, is_lst_list, tyN_non, tyN_bl, tyN_int, tyN_str, tyN_tup, tyN_lst, ρIx_tup, ρIx_lst, ρIx_str, ρIx_ref, ρSl_str, ρSl_lst, ρSl_tup, ρApp_ref, θLst_ref, θStr_str, ςLst_ref, ρJoin_lst, γTup_tup, atI_0, atI_1, atI_2, atI_3, atI_4, atI_5, atI_6, atI_7, c_WIDTHS, sp_is_in_eq, sp_is_tuple_eq, sp_demand_eq, sp_is_bits_eq, sp_number_of_eq, sp_bits_of_eq, sp_least_of_eq, sp_code_of_eq, sp_code_eq, sp_is_code_eq, sp_decoded_of_eq, sp_decoded_eq, sp_worst_error_eq, sp_as_bits_eq, sp_of_bits_eq, sp__law_dice_eq, sp__law_roll_eq, sp__law_pick_eq, sp__law_steps_eq, sp__law_step_of_eq, sp__law_right_eq, c2, c4, okC_i, h, decide_true, e, not_rfl]
      exact hc
    · have e : decS s = midI (absI s) := by rw [decS_eq, if_neg h]
      simp only [dVar, dC, dOp, dUn, dTest_eq, dAnd, dOr, dNot, dAndV_eq, dOrV_eq, dNotV_eq, dIf, dChain_eq, dNil, dCons, dTup, dLst, dLstM, dCB, dBM, dNoPart, dPart_eq, dSl, dCall, dCallK, dNext, dBrk, dCnt, dSeq, dDrop, dRet, dRetN, dIfS, γName, γNil, γCons, γSub, dAsg, dPar, dAug, ιSeq_eq, ιRng1_eq, ιRng2_eq, dFor, dLc, dLcM, dYes, dT, dTold, onBl_eq, onInt_eq, onSeq_lst, onSeq_tup, onSeq_str, onSome_eq, lstAt_same, dRaise, startD, List.map_cons, List.map_nil, List.length_cons, List.length_nil, List.replicate_succ, List.replicate_zero, List.cons_append, List.nil_append, List.append_nil, List.getElem?_cons_zero, List.getElem?_cons_succ, List.set_cons_zero, List.set_cons_succ, Nat.reduceAdd, Nat.reduceSub, Nat.zero_add, Nat.sub_self, ρEq_int, ρEq_str, ρEq_bl, ρNe_int, ρNe_str, ρNe_bl, ρEq_t3, ρNe_t3, ρEq_t2, ρNe_t2, intsOf_mapf, strsOf_mapf, blsOf_mapf, gK_01_0, gK_02_01, gK_02_10, gK_03_012, gK_03_021, gK_03_102, gK_03_120, gK_03_201, gK_03_210, gK_11_0, gK_12_01, gK_12_10, gK_13_012, gK_13_021, gK_13_102, gK_13_120, gK_13_201, gK_13_210, eq_self, Bool.not_true, Bool.not_false, decide_true, decide_false, strsOf_c0, strsOf_c1, strsOf_c2, strsOf_c3, strsOf_c4, strsOf_c5, strsOf_c6, strsOf_c7, strsOf_c8, intsOf_c0, intsOf_c1, intsOf_c2, intsOf_c3, intsOf_c4, intsOf_c5, intsOf_c6, intsOf_c7, intsOf_c8, blsOf_c0, blsOf_c1, blsOf_c2, blsOf_c3, blsOf_c4, blsOf_c5, blsOf_c6, blsOf_c7, blsOf_c8, ixN_30, ixN_31, ixN_32, wipeD, if_true, if_false, Bool.false_eq_true, Bool.true_eq_false, true_and, and_true, ρAdd_int, ρAdd_str, ρAdd_tup, ρAdd_lst, ρAdd_rl, ρI_int, ρI0_int, ρMul_int, ρMul_str, ρNeg_int, ρCmp_int, ρCmp_str, ρIsN_eq, ρNotN_eq, isNonD_bl, isNonD_int, isNonD_str, isNonD_tup, isNonD_lst, isNonD_ref, isNonD_non, ρSgn_one, ρAbs_int, ρMax_two, ρMin_two, ρMax_lst, ρMin_lst, ρInt_int, ρInt_bl, ρStr_int, ρLen_str, ρLen_tup, ρLen_lst, ρLen_ref, ρSum_lst, ρAll_lst, ρAny_lst, ρTupO_tup, ρTupO_lst, ρIsi_eq, is_non_int, is_non_bool, is_non_str, is_non_tuple, is_non_list, is_bl_int, is_bl_bool, is_bl_str, is_bl_tuple, is_bl_list, is_int_int, is_int_bool, is_int_str, is_int_tuple, is_int_list, is_str_int, is_str_bool, is_str_str, is_str_tuple, is_str_list, is_tup_int, is_tup_bool, is_tup_str, is_tup_tuple, is_tup_list, is_lst_int, is_lst_bool, is_lst_str, is_lst_tuple, is_lst_list, tyN_non, tyN_bl, tyN_int, tyN_str, tyN_tup, tyN_lst, ρIx_tup, ρIx_lst, ρIx_str, ρIx_ref, ρSl_str, ρSl_lst, ρSl_tup, ρApp_ref, θLst_ref, θStr_str, ςLst_ref, ρJoin_lst, γTup_tup, atI_0, atI_1, atI_2, atI_3, atI_4, atI_5, atI_6, atI_7, c_WIDTHS, sp_is_in_eq, sp_is_tuple_eq, sp_demand_eq, sp_is_bits_eq, sp_number_of_eq, sp_bits_of_eq, sp_least_of_eq, sp_code_of_eq, sp_code_eq, sp_is_code_eq, sp_decoded_of_eq, sp_decoded_eq, sp_worst_error_eq, sp_as_bits_eq, sp_of_bits_eq, sp__law_dice_eq, sp__law_roll_eq, sp__law_pick_eq, sp__law_steps_eq, sp__law_step_of_eq, sp__law_right_eq, c2, c4, okC_i, h, decide_false, e, not_rfl]
      exact hc
  clear hZ Z
  -- the second
  refine dSeq_step fun Z hZ => ?_
  refine if_two (fun hc => ?_) (hZ _ _ ?_)
  · simp only [dVar, dC, dOp, dUn, dTest_eq, dAnd, dOr, dNot, dAndV_eq, dOrV_eq, dNotV_eq, dIf, dChain_eq, dNil, dCons, dTup, dLst, dLstM, dCB, dBM, dNoPart, dPart_eq, dSl, dCall, dCallK, dNext, dBrk, dCnt, dSeq, dDrop, dRet, dRetN, dIfS, γName, γNil, γCons, γSub, dAsg, dPar, dAug, ιSeq_eq, ιRng1_eq, ιRng2_eq, dFor, dLc, dLcM, dYes, dT, dTold, onBl_eq, onInt_eq, onSeq_lst, onSeq_tup, onSeq_str, onSome_eq, lstAt_same, dRaise, startD, List.map_cons, List.map_nil, List.length_cons, List.length_nil, List.replicate_succ, List.replicate_zero, List.cons_append, List.nil_append, List.append_nil, List.getElem?_cons_zero, List.getElem?_cons_succ, List.set_cons_zero, List.set_cons_succ, Nat.reduceAdd, Nat.reduceSub, Nat.zero_add, Nat.sub_self, ρEq_int, ρEq_str, ρEq_bl, ρNe_int, ρNe_str, ρNe_bl, ρEq_t3, ρNe_t3, ρEq_t2, ρNe_t2, intsOf_mapf, strsOf_mapf, blsOf_mapf, gK_01_0, gK_02_01, gK_02_10, gK_03_012, gK_03_021, gK_03_102, gK_03_120, gK_03_201, gK_03_210, gK_11_0, gK_12_01, gK_12_10, gK_13_012, gK_13_021, gK_13_102, gK_13_120, gK_13_201, gK_13_210, eq_self, Bool.not_true, Bool.not_false, decide_true, decide_false, strsOf_c0, strsOf_c1, strsOf_c2, strsOf_c3, strsOf_c4, strsOf_c5, strsOf_c6, strsOf_c7, strsOf_c8, intsOf_c0, intsOf_c1, intsOf_c2, intsOf_c3, intsOf_c4, intsOf_c5, intsOf_c6, intsOf_c7, intsOf_c8, blsOf_c0, blsOf_c1, blsOf_c2, blsOf_c3, blsOf_c4, blsOf_c5, blsOf_c6, blsOf_c7, blsOf_c8, ixN_30, ixN_31, ixN_32, wipeD, if_true, if_false, Bool.false_eq_true, Bool.true_eq_false, true_and, and_true, ρAdd_int, ρAdd_str, ρAdd_tup, ρAdd_lst, ρAdd_rl, ρI_int, ρI0_int, ρMul_int, ρMul_str, ρNeg_int, ρCmp_int, ρCmp_str, ρIsN_eq, ρNotN_eq, isNonD_bl, isNonD_int, isNonD_str, isNonD_tup, isNonD_lst, isNonD_ref, isNonD_non, ρSgn_one, ρAbs_int, ρMax_two, ρMin_two, ρMax_lst, ρMin_lst, ρInt_int, ρInt_bl, ρStr_int, ρLen_str, ρLen_tup, ρLen_lst, ρLen_ref, ρSum_lst, ρAll_lst, ρAny_lst, ρTupO_tup, ρTupO_lst, ρIsi_eq, is_non_int, is_non_bool, is_non_str, is_non_tuple, is_non_list, is_bl_int, is_bl_bool, is_bl_str, is_bl_tuple, is_bl_list, is_int_int, is_int_bool, is_int_str, is_int_tuple, is_int_list, is_str_int, is_str_bool, is_str_str, is_str_tuple, is_str_list, is_tup_int, is_tup_bool, is_tup_str, is_tup_tuple, is_tup_list, is_lst_int, is_lst_bool, is_lst_str, is_lst_tuple, is_lst_list, tyN_non, tyN_bl, tyN_int, tyN_str, tyN_tup, tyN_lst, ρIx_tup, ρIx_lst, ρIx_str, ρIx_ref, ρSl_str, ρSl_lst, ρSl_tup, ρApp_ref, θLst_ref, θStr_str, ςLst_ref, ρJoin_lst, γTup_tup, atI_0, atI_1, atI_2, atI_3, atI_4, atI_5, atI_6, atI_7, c_WIDTHS, sp_is_in_eq, sp_is_tuple_eq, sp_demand_eq, sp_is_bits_eq, sp_number_of_eq, sp_bits_of_eq, sp_least_of_eq, sp_code_of_eq, sp_code_eq, sp_is_code_eq, sp_decoded_of_eq, sp_decoded_eq, sp_worst_error_eq, sp_as_bits_eq, sp_of_bits_eq, sp__law_dice_eq, sp__law_roll_eq, sp__law_pick_eq, sp__law_steps_eq, sp__law_step_of_eq, sp__law_right_eq, c2, c4, c5, c6, c7, c8, okC_i, not_rfl, n1, decide_false, ha]
    by_cases h : 32 ≤ absI s
    · simp only [dVar, dC, dOp, dUn, dTest_eq, dAnd, dOr, dNot, dAndV_eq, dOrV_eq, dNotV_eq, dIf, dChain_eq, dNil, dCons, dTup, dLst, dLstM, dCB, dBM, dNoPart, dPart_eq, dSl, dCall, dCallK, dNext, dBrk, dCnt, dSeq, dDrop, dRet, dRetN, dIfS, γName, γNil, γCons, γSub, dAsg, dPar, dAug, ιSeq_eq, ιRng1_eq, ιRng2_eq, dFor, dLc, dLcM, dYes, dT, dTold, onBl_eq, onInt_eq, onSeq_lst, onSeq_tup, onSeq_str, onSome_eq, lstAt_same, dRaise, startD, List.map_cons, List.map_nil, List.length_cons, List.length_nil, List.replicate_succ, List.replicate_zero, List.cons_append, List.nil_append, List.append_nil, List.getElem?_cons_zero, List.getElem?_cons_succ, List.set_cons_zero, List.set_cons_succ, Nat.reduceAdd, Nat.reduceSub, Nat.zero_add, Nat.sub_self, ρEq_int, ρEq_str, ρEq_bl, ρNe_int, ρNe_str, ρNe_bl, ρEq_t3, ρNe_t3, ρEq_t2, ρNe_t2, intsOf_mapf, strsOf_mapf, blsOf_mapf, gK_01_0, gK_02_01, gK_02_10, gK_03_012, gK_03_021, gK_03_102, gK_03_120, gK_03_201, gK_03_210, gK_11_0, gK_12_01, gK_12_10, gK_13_012, gK_13_021, gK_13_102, gK_13_120, gK_13_201, gK_13_210, eq_self, Bool.not_true, Bool.not_false, decide_true, decide_false, strsOf_c0, strsOf_c1, strsOf_c2, strsOf_c3, strsOf_c4, strsOf_c5, strsOf_c6, strsOf_c7, strsOf_c8, intsOf_c0, intsOf_c1, intsOf_c2, intsOf_c3, intsOf_c4, intsOf_c5, intsOf_c6, intsOf_c7, intsOf_c8, blsOf_c0, blsOf_c1, blsOf_c2, blsOf_c3, blsOf_c4, blsOf_c5, blsOf_c6, blsOf_c7, blsOf_c8, ixN_30, ixN_31, ixN_32, wipeD, if_true, if_false, Bool.false_eq_true, Bool.true_eq_false, true_and, and_true, ρAdd_int, ρAdd_str, ρAdd_tup, ρAdd_lst, ρAdd_rl, ρI_int, ρI0_int, ρMul_int, ρMul_str, ρNeg_int, ρCmp_int, ρCmp_str, ρIsN_eq, ρNotN_eq, isNonD_bl, isNonD_int, isNonD_str, isNonD_tup, isNonD_lst, isNonD_ref, isNonD_non, ρSgn_one, ρAbs_int, ρMax_two, ρMin_two, ρMax_lst, ρMin_lst, ρInt_int, ρInt_bl, ρStr_int, ρLen_str, ρLen_tup, ρLen_lst, ρLen_ref, ρSum_lst, ρAll_lst, ρAny_lst, ρTupO_tup, ρTupO_lst, ρIsi_eq, is_non_int, is_non_bool, is_non_str, is_non_tuple, is_non_list, is_bl_int, is_bl_bool, is_bl_str, is_bl_tuple, is_bl_list, is_int_int, is_int_bool, is_int_str, is_int_tuple, is_int_list, is_str_int, is_str_bool, is_str_str, is_str_tuple, is_str_list, is_tup_int, is_tup_bool, is_tup_str, is_tup_tuple, is_tup_list, is_lst_int, is_lst_bool, is_lst_str, is_lst_tuple, is_lst_list, tyN_non, tyN_bl, tyN_int, tyN_str, tyN_tup, tyN_lst, ρIx_tup, ρIx_lst, ρIx_str, ρIx_ref, ρSl_str, ρSl_lst, ρSl_tup, ρApp_ref, θLst_ref, θStr_str, ςLst_ref, ρJoin_lst, γTup_tup, atI_0, atI_1, atI_2, atI_3, atI_4, atI_5, atI_6, atI_7, c_WIDTHS, sp_is_in_eq, sp_is_tuple_eq, sp_demand_eq, sp_is_bits_eq, sp_number_of_eq, sp_bits_of_eq, sp_least_of_eq, sp_code_of_eq, sp_code_eq, sp_is_code_eq, sp_decoded_of_eq, sp_decoded_eq, sp_worst_error_eq, sp_as_bits_eq, sp_of_bits_eq, sp__law_dice_eq, sp__law_roll_eq, sp__law_pick_eq, sp__law_steps_eq, sp__law_step_of_eq, sp__law_right_eq, h, decide_true, n2 h, decide_false]
      exact ⟨mul_ok ⟨by decide, by decide⟩, hc⟩
    · simp only [dVar, dC, dOp, dUn, dTest_eq, dAnd, dOr, dNot, dAndV_eq, dOrV_eq, dNotV_eq, dIf, dChain_eq, dNil, dCons, dTup, dLst, dLstM, dCB, dBM, dNoPart, dPart_eq, dSl, dCall, dCallK, dNext, dBrk, dCnt, dSeq, dDrop, dRet, dRetN, dIfS, γName, γNil, γCons, γSub, dAsg, dPar, dAug, ιSeq_eq, ιRng1_eq, ιRng2_eq, dFor, dLc, dLcM, dYes, dT, dTold, onBl_eq, onInt_eq, onSeq_lst, onSeq_tup, onSeq_str, onSome_eq, lstAt_same, dRaise, startD, List.map_cons, List.map_nil, List.length_cons, List.length_nil, List.replicate_succ, List.replicate_zero, List.cons_append, List.nil_append, List.append_nil, List.getElem?_cons_zero, List.getElem?_cons_succ, List.set_cons_zero, List.set_cons_succ, Nat.reduceAdd, Nat.reduceSub, Nat.zero_add, Nat.sub_self, ρEq_int, ρEq_str, ρEq_bl, ρNe_int, ρNe_str, ρNe_bl, ρEq_t3, ρNe_t3, ρEq_t2, ρNe_t2, intsOf_mapf, strsOf_mapf, blsOf_mapf, gK_01_0, gK_02_01, gK_02_10, gK_03_012, gK_03_021, gK_03_102, gK_03_120, gK_03_201, gK_03_210, gK_11_0, gK_12_01, gK_12_10, gK_13_012, gK_13_021, gK_13_102, gK_13_120, gK_13_201, gK_13_210, eq_self, Bool.not_true, Bool.not_false, decide_true, decide_false, strsOf_c0, strsOf_c1, strsOf_c2, strsOf_c3, strsOf_c4, strsOf_c5, strsOf_c6, strsOf_c7, strsOf_c8, intsOf_c0, intsOf_c1, intsOf_c2, intsOf_c3, intsOf_c4, intsOf_c5, intsOf_c6, intsOf_c7, intsOf_c8, blsOf_c0, blsOf_c1, blsOf_c2, blsOf_c3, blsOf_c4, blsOf_c5, blsOf_c6, blsOf_c7, blsOf_c8, ixN_30, ixN_31, ixN_32, wipeD, if_true, if_false, Bool.false_eq_true, Bool.true_eq_false, true_and, and_true, ρAdd_int, ρAdd_str, ρAdd_tup, ρAdd_lst, ρAdd_rl, ρI_int, ρI0_int, ρMul_int, ρMul_str, ρNeg_int, ρCmp_int, ρCmp_str, ρIsN_eq, ρNotN_eq, isNonD_bl, isNonD_int, isNonD_str, isNonD_tup, isNonD_lst, isNonD_ref, isNonD_non, ρSgn_one, ρAbs_int, ρMax_two, ρMin_two, ρMax_lst, ρMin_lst, ρInt_int, ρInt_bl, ρStr_int, ρLen_str, ρLen_tup, ρLen_lst, ρLen_ref, ρSum_lst, ρAll_lst, ρAny_lst, ρTupO_tup, ρTupO_lst, ρIsi_eq, is_non_int, is_non_bool, is_non_str, is_non_tuple, is_non_list, is_bl_int, is_bl_bool, is_bl_str, is_bl_tuple, is_bl_list, is_int_int, is_int_bool, is_int_str, is_int_tuple, is_int_list, is_str_int, is_str_bool, is_str_str, is_str_tuple, is_str_list, is_tup_int, is_tup_bool, is_tup_str, is_tup_tuple, is_tup_list, is_lst_int, is_lst_bool, is_lst_str, is_lst_tuple, is_lst_list, tyN_non, tyN_bl, tyN_int, tyN_str, tyN_tup, tyN_lst, ρIx_tup, ρIx_lst, ρIx_str, ρIx_ref, ρSl_str, ρSl_lst, ρSl_tup, ρApp_ref, θLst_ref, θStr_str, ςLst_ref, ρJoin_lst, γTup_tup, atI_0, atI_1, atI_2, atI_3, atI_4, atI_5, atI_6, atI_7, c_WIDTHS, sp_is_in_eq, sp_is_tuple_eq, sp_demand_eq, sp_is_bits_eq, sp_number_of_eq, sp_bits_of_eq, sp_least_of_eq, sp_code_of_eq, sp_code_eq, sp_is_code_eq, sp_decoded_of_eq, sp_decoded_eq, sp_worst_error_eq, sp_as_bits_eq, sp_of_bits_eq, sp__law_dice_eq, sp__law_roll_eq, sp__law_pick_eq, sp__law_steps_eq, sp__law_step_of_eq, sp__law_right_eq, h, decide_false]
      exact hc
  clear hZ Z
  -- more
  refine dSeq_step fun Z hZ => ?_
  simp only [dVar, dC, dOp, dUn, dTest_eq, dAnd, dOr, dNot, dAndV_eq, dOrV_eq, dNotV_eq, dIf, dChain_eq, dNil, dCons, dTup, dLst, dLstM, dCB, dBM, dNoPart, dPart_eq, dSl, dCall, dCallK, dNext, dBrk, dCnt, dSeq, dDrop, dRet, dRetN, dIfS, γName, γNil, γCons, γSub, dAsg, dPar, dAug, ιSeq_eq, ιRng1_eq, ιRng2_eq, dFor, dLc, dLcM, dYes, dT, dTold, onBl_eq, onInt_eq, onSeq_lst, onSeq_tup, onSeq_str, onSome_eq, lstAt_same, dRaise, startD, List.map_cons, List.map_nil, List.length_cons, List.length_nil, List.replicate_succ, List.replicate_zero, List.cons_append, List.nil_append, List.append_nil, List.getElem?_cons_zero, List.getElem?_cons_succ, List.set_cons_zero, List.set_cons_succ, Nat.reduceAdd, Nat.reduceSub, Nat.zero_add, Nat.sub_self, ρEq_int, ρEq_str, ρEq_bl, ρNe_int, ρNe_str, ρNe_bl, ρEq_t3, ρNe_t3, ρEq_t2, ρNe_t2, intsOf_mapf, strsOf_mapf, blsOf_mapf, gK_01_0, gK_02_01, gK_02_10, gK_03_012, gK_03_021, gK_03_102, gK_03_120, gK_03_201, gK_03_210, gK_11_0, gK_12_01, gK_12_10, gK_13_012, gK_13_021, gK_13_102, gK_13_120, gK_13_201, gK_13_210, eq_self, Bool.not_true, Bool.not_false, decide_true, decide_false, strsOf_c0, strsOf_c1, strsOf_c2, strsOf_c3, strsOf_c4, strsOf_c5, strsOf_c6, strsOf_c7, strsOf_c8, intsOf_c0, intsOf_c1, intsOf_c2, intsOf_c3, intsOf_c4, intsOf_c5, intsOf_c6, intsOf_c7, intsOf_c8, blsOf_c0, blsOf_c1, blsOf_c2, blsOf_c3, blsOf_c4, blsOf_c5, blsOf_c6, blsOf_c7, blsOf_c8, ixN_30, ixN_31, ixN_32, wipeD, if_true, if_false, Bool.false_eq_true, Bool.true_eq_false, true_and, and_true, ρAdd_int, ρAdd_str, ρAdd_tup, ρAdd_lst, ρAdd_rl, ρI_int, ρI0_int, ρMul_int, ρMul_str, ρNeg_int, ρCmp_int, ρCmp_str, ρIsN_eq, ρNotN_eq, isNonD_bl, isNonD_int, isNonD_str, isNonD_tup, isNonD_lst, isNonD_ref, isNonD_non, ρSgn_one, ρAbs_int, ρMax_two, ρMin_two, ρMax_lst, ρMin_lst, ρInt_int, ρInt_bl, ρStr_int, ρLen_str, ρLen_tup, ρLen_lst, ρLen_ref, ρSum_lst, ρAll_lst, ρAny_lst, ρTupO_tup, ρTupO_lst, ρIsi_eq, is_non_int, is_non_bool, is_non_str, is_non_tuple, is_non_list, is_bl_int, is_bl_bool, is_bl_str, is_bl_tuple, is_bl_list, is_int_int, is_int_bool, is_int_str, is_int_tuple, is_int_list, is_str_int, is_str_bool, is_str_str, is_str_tuple, is_str_list, is_tup_int, is_tup_bool, is_tup_str, is_tup_tuple, is_tup_list, is_lst_int, is_lst_bool, is_lst_str, is_lst_tuple, is_lst_list, tyN_non, tyN_bl, tyN_int, tyN_str, tyN_tup, tyN_lst, ρIx_tup, ρIx_lst, ρIx_str, ρIx_ref, ρSl_str, ρSl_lst, ρSl_tup, ρApp_ref, θLst_ref, θStr_str, ςLst_ref, ρJoin_lst, γTup_tup, atI_0, atI_1, atI_2, atI_3, atI_4, atI_5, atI_6, atI_7, c_WIDTHS, sp_is_in_eq, sp_is_tuple_eq, sp_demand_eq, sp_is_bits_eq, sp_number_of_eq, sp_bits_of_eq, sp_least_of_eq, sp_code_of_eq, sp_code_eq, sp_is_code_eq, sp_decoded_of_eq, sp_decoded_eq, sp_worst_error_eq, sp_as_bits_eq, sp_of_bits_eq, sp__law_dice_eq, sp__law_roll_eq, sp__law_pick_eq, sp__law_steps_eq, sp__law_step_of_eq, sp__law_right_eq]
  refine ⟨3, ys, rfl, hy, by decide, ⟨by decide, by decide⟩, fun ys r hy h1 h2 => ?_⟩
  simp only [dVar, dC, dOp, dUn, dTest_eq, dAnd, dOr, dNot, dAndV_eq, dOrV_eq, dNotV_eq, dIf, dChain_eq, dNil, dCons, dTup, dLst, dLstM, dCB, dBM, dNoPart, dPart_eq, dSl, dCall, dCallK, dNext, dBrk, dCnt, dSeq, dDrop, dRet, dRetN, dIfS, γName, γNil, γCons, γSub, dAsg, dPar, dAug, ιSeq_eq, ιRng1_eq, ιRng2_eq, dFor, dLc, dLcM, dYes, dT, dTold, onBl_eq, onInt_eq, onSeq_lst, onSeq_tup, onSeq_str, onSome_eq, lstAt_same, dRaise, startD, List.map_cons, List.map_nil, List.length_cons, List.length_nil, List.replicate_succ, List.replicate_zero, List.cons_append, List.nil_append, List.append_nil, List.getElem?_cons_zero, List.getElem?_cons_succ, List.set_cons_zero, List.set_cons_succ, Nat.reduceAdd, Nat.reduceSub, Nat.zero_add, Nat.sub_self, ρEq_int, ρEq_str, ρEq_bl, ρNe_int, ρNe_str, ρNe_bl, ρEq_t3, ρNe_t3, ρEq_t2, ρNe_t2, intsOf_mapf, strsOf_mapf, blsOf_mapf, gK_01_0, gK_02_01, gK_02_10, gK_03_012, gK_03_021, gK_03_102, gK_03_120, gK_03_201, gK_03_210, gK_11_0, gK_12_01, gK_12_10, gK_13_012, gK_13_021, gK_13_102, gK_13_120, gK_13_201, gK_13_210, eq_self, Bool.not_true, Bool.not_false, decide_true, decide_false, strsOf_c0, strsOf_c1, strsOf_c2, strsOf_c3, strsOf_c4, strsOf_c5, strsOf_c6, strsOf_c7, strsOf_c8, intsOf_c0, intsOf_c1, intsOf_c2, intsOf_c3, intsOf_c4, intsOf_c5, intsOf_c6, intsOf_c7, intsOf_c8, blsOf_c0, blsOf_c1, blsOf_c2, blsOf_c3, blsOf_c4, blsOf_c5, blsOf_c6, blsOf_c7, blsOf_c8, ixN_30, ixN_31, ixN_32, wipeD, if_true, if_false, Bool.false_eq_true, Bool.true_eq_false, true_and, and_true, ρAdd_int, ρAdd_str, ρAdd_tup, ρAdd_lst, ρAdd_rl, ρI_int, ρI0_int, ρMul_int, ρMul_str, ρNeg_int, ρCmp_int, ρCmp_str, ρIsN_eq, ρNotN_eq, isNonD_bl, isNonD_int, isNonD_str, isNonD_tup, isNonD_lst, isNonD_ref, isNonD_non, ρSgn_one, ρAbs_int, ρMax_two, ρMin_two, ρMax_lst, ρMin_lst, ρInt_int, ρInt_bl, ρStr_int, ρLen_str, ρLen_tup, ρLen_lst, ρLen_ref, ρSum_lst, ρAll_lst, ρAny_lst, ρTupO_tup, ρTupO_lst, ρIsi_eq, is_non_int, is_non_bool, is_non_str, is_non_tuple, is_non_list, is_bl_int, is_bl_bool, is_bl_str, is_bl_tuple, is_bl_list, is_int_int, is_int_bool, is_int_str, is_int_tuple, is_int_list, is_str_int, is_str_bool, is_str_str, is_str_tuple, is_str_list, is_tup_int, is_tup_bool, is_tup_str, is_tup_tuple, is_tup_list, is_lst_int, is_lst_bool, is_lst_str, is_lst_tuple, is_lst_list, tyN_non, tyN_bl, tyN_int, tyN_str, tyN_tup, tyN_lst, ρIx_tup, ρIx_lst, ρIx_str, ρIx_ref, ρSl_str, ρSl_lst, ρSl_tup, ρApp_ref, θLst_ref, θStr_str, ςLst_ref, ρJoin_lst, γTup_tup, atI_0, atI_1, atI_2, atI_3, atI_4, atI_5, atI_6, atI_7, c_WIDTHS, sp_is_in_eq, sp_is_tuple_eq, sp_demand_eq, sp_is_bits_eq, sp_number_of_eq, sp_bits_of_eq, sp_least_of_eq, sp_code_of_eq, sp_code_eq, sp_is_code_eq, sp_decoded_of_eq, sp_decoded_eq, sp_worst_error_eq, sp_as_bits_eq, sp_of_bits_eq, sp__law_dice_eq, sp__law_roll_eq, sp__law_pick_eq, sp__law_steps_eq, sp__law_step_of_eq, sp__law_right_eq, tset_tset]
  refine ⟨by rw [sizeLine_eq]; decide, 4, ys, rfl, hy, by decide, ⟨by simp [seqOf], by simp [seqOf]⟩, fun ys d hy hd => ?_⟩
  refine hZ _ _ ?_
  clear hZ Z
  have ht : ∃ t : Int, d = .int t ∧ -4095 ≤ t ∧ t ≤ 4095 := by
    simp only [seqOf, List.mem_cons, List.not_mem_nil, or_false] at hd
    rcases hd with rfl | rfl | rfl
    · exact ⟨_, rfl, hs.1, hs.2⟩
    · refine ⟨_, rfl, ?_, ?_⟩ <;> split <;> omega
    · exact ⟨_, rfl, by omega, by omega⟩
  obtain ⟨t, rfl, ht⟩ := ht
  clear hd h1 h2
  have d1 := isIn_of ht
  have d2 := isCode_of (sgnI_ok t) (segI_ok (absI t)) (step_in (absI_ok t ht)).1
  have d3 : codeD (.int t) = .tup [.int (sgnI t), .int (segI (absI t)), .int (stepI (absI t))] := rfl
  have d4 : decD (.tup [.int (sgnI t), .int (segI (absI t)), .int (stepI (absI t))]) = .int (decS t) := rfl
  refine dSeq_step fun Z hZ => ?_
  refine if_two (fun hc => ?_) (hZ _ _ ?_)
  · by_cases h : s ≤ t
    · have e1 : ¬ decS t < decS s := by have := decS_mono hs.1 h ht.2; omega
      have e2 : ¬ t < s := by omega
      simp only [dVar, dC, dOp, dUn, dTest_eq, dAnd, dOr, dNot, dAndV_eq, dOrV_eq, dNotV_eq, dIf, dChain_eq, dNil, dCons, dTup, dLst, dLstM, dCB, dBM, dNoPart, dPart_eq, dSl, dCall, dCallK, dNext, dBrk, dCnt, dSeq, dDrop, dRet, dRetN, dIfS, γName, γNil, γCons, γSub, dAsg, dPar, dAug, ιSeq_eq, ιRng1_eq, ιRng2_eq, dFor, dLc, dLcM, dYes, dT, dTold, onBl_eq, onInt_eq, onSeq_lst, onSeq_tup, onSeq_str, onSome_eq, lstAt_same, dRaise, startD, List.map_cons, List.map_nil, List.length_cons, List.length_nil, List.replicate_succ, List.replicate_zero, List.cons_append, List.nil_append, List.append_nil, List.getElem?_cons_zero, List.getElem?_cons_succ, List.set_cons_zero, List.set_cons_succ, Nat.reduceAdd, Nat.reduceSub, Nat.zero_add, Nat.sub_self, ρEq_int, ρEq_str, ρEq_bl, ρNe_int, ρNe_str, ρNe_bl, ρEq_t3, ρNe_t3, ρEq_t2, ρNe_t2, intsOf_mapf, strsOf_mapf, blsOf_mapf, gK_01_0, gK_02_01, gK_02_10, gK_03_012, gK_03_021, gK_03_102, gK_03_120, gK_03_201, gK_03_210, gK_11_0, gK_12_01, gK_12_10, gK_13_012, gK_13_021, gK_13_102, gK_13_120, gK_13_201, gK_13_210, eq_self, Bool.not_true, Bool.not_false, decide_true, decide_false, strsOf_c0, strsOf_c1, strsOf_c2, strsOf_c3, strsOf_c4, strsOf_c5, strsOf_c6, strsOf_c7, strsOf_c8, intsOf_c0, intsOf_c1, intsOf_c2, intsOf_c3, intsOf_c4, intsOf_c5, intsOf_c6, intsOf_c7, intsOf_c8, blsOf_c0, blsOf_c1, blsOf_c2, blsOf_c3, blsOf_c4, blsOf_c5, blsOf_c6, blsOf_c7, blsOf_c8, ixN_30, ixN_31, ixN_32, wipeD, if_true, if_false, Bool.false_eq_true, Bool.true_eq_false, true_and, and_true, ρAdd_int, ρAdd_str, ρAdd_tup, ρAdd_lst, ρAdd_rl, ρI_int, ρI0_int, ρMul_int, ρMul_str, ρNeg_int, ρCmp_int, ρCmp_str, ρIsN_eq, ρNotN_eq, isNonD_bl, isNonD_int, isNonD_str, isNonD_tup, isNonD_lst, isNonD_ref, isNonD_non, ρSgn_one, ρAbs_int, ρMax_two, ρMin_two, ρMax_lst, ρMin_lst, ρInt_int, ρInt_bl, ρStr_int, ρLen_str, ρLen_tup, ρLen_lst, ρLen_ref, ρSum_lst, ρAll_lst, ρAny_lst, ρTupO_tup, ρTupO_lst, ρIsi_eq, is_non_int, is_non_bool, is_non_str, is_non_tuple, is_non_list, is_bl_int, is_bl_bool, is_bl_str, is_bl_tuple, is_bl_list, is_int_int, is_int_bool, is_int_str, is_int_tuple, is_int_list, is_str_int, is_str_bool, is_str_str, is_str_tuple, is_str_list, is_tup_int, is_tup_bool, is_tup_str, is_tup_tuple, is_tup_list, is_lst_int, is_lst_bool, is_lst_str, is_lst_tuple, is_lst_list, tyN_non, tyN_bl, tyN_int, tyN_str, tyN_tup, tyN_lst, ρIx_tup, ρIx_lst, ρIx_str, ρIx_ref, ρSl_str, ρSl_lst, ρSl_tup, ρApp_ref, θLst_ref, θStr_str, ςLst_ref, ρJoin_lst, γTup_tup, atI_0, atI_1, atI_2, atI_3, atI_4, atI_5, atI_6, atI_7, c_WIDTHS, sp_is_in_eq, sp_is_tuple_eq, sp_demand_eq, sp_is_bits_eq, sp_number_of_eq, sp_bits_of_eq, sp_least_of_eq, sp_code_of_eq, sp_code_eq, sp_is_code_eq, sp_decoded_of_eq, sp_decoded_eq, sp_worst_error_eq, sp_as_bits_eq, sp_of_bits_eq, sp__law_dice_eq, sp__law_roll_eq, sp__law_pick_eq, sp__law_steps_eq, sp__law_step_of_eq, sp__law_right_eq, c2, c4, d1, d2, d3, d4, okC_i, h, e1, e2, decide_true, decide_false]
      exact hc
    · have e2 : t < s := by omega
      have e1 : ¬ decS s < decS t := by have := decS_mono ht.1 (Int.le_of_lt e2) hs.2; omega
      simp only [dVar, dC, dOp, dUn, dTest_eq, dAnd, dOr, dNot, dAndV_eq, dOrV_eq, dNotV_eq, dIf, dChain_eq, dNil, dCons, dTup, dLst, dLstM, dCB, dBM, dNoPart, dPart_eq, dSl, dCall, dCallK, dNext, dBrk, dCnt, dSeq, dDrop, dRet, dRetN, dIfS, γName, γNil, γCons, γSub, dAsg, dPar, dAug, ιSeq_eq, ιRng1_eq, ιRng2_eq, dFor, dLc, dLcM, dYes, dT, dTold, onBl_eq, onInt_eq, onSeq_lst, onSeq_tup, onSeq_str, onSome_eq, lstAt_same, dRaise, startD, List.map_cons, List.map_nil, List.length_cons, List.length_nil, List.replicate_succ, List.replicate_zero, List.cons_append, List.nil_append, List.append_nil, List.getElem?_cons_zero, List.getElem?_cons_succ, List.set_cons_zero, List.set_cons_succ, Nat.reduceAdd, Nat.reduceSub, Nat.zero_add, Nat.sub_self, ρEq_int, ρEq_str, ρEq_bl, ρNe_int, ρNe_str, ρNe_bl, ρEq_t3, ρNe_t3, ρEq_t2, ρNe_t2, intsOf_mapf, strsOf_mapf, blsOf_mapf, gK_01_0, gK_02_01, gK_02_10, gK_03_012, gK_03_021, gK_03_102, gK_03_120, gK_03_201, gK_03_210, gK_11_0, gK_12_01, gK_12_10, gK_13_012, gK_13_021, gK_13_102, gK_13_120, gK_13_201, gK_13_210, eq_self, Bool.not_true, Bool.not_false, decide_true, decide_false, strsOf_c0, strsOf_c1, strsOf_c2, strsOf_c3, strsOf_c4, strsOf_c5, strsOf_c6, strsOf_c7, strsOf_c8, intsOf_c0, intsOf_c1, intsOf_c2, intsOf_c3, intsOf_c4, intsOf_c5, intsOf_c6, intsOf_c7, intsOf_c8, blsOf_c0, blsOf_c1, blsOf_c2, blsOf_c3, blsOf_c4, blsOf_c5, blsOf_c6, blsOf_c7, blsOf_c8, ixN_30, ixN_31, ixN_32, wipeD, if_true, if_false, Bool.false_eq_true, Bool.true_eq_false, true_and, and_true, ρAdd_int, ρAdd_str, ρAdd_tup, ρAdd_lst, ρAdd_rl, ρI_int, ρI0_int, ρMul_int, ρMul_str, ρNeg_int, ρCmp_int, ρCmp_str, ρIsN_eq, ρNotN_eq, isNonD_bl, isNonD_int, isNonD_str, isNonD_tup, isNonD_lst, isNonD_ref, isNonD_non, ρSgn_one, ρAbs_int, ρMax_two, ρMin_two, ρMax_lst, ρMin_lst, ρInt_int, ρInt_bl, ρStr_int, ρLen_str, ρLen_tup, ρLen_lst, ρLen_ref, ρSum_lst, ρAll_lst, ρAny_lst, ρTupO_tup, ρTupO_lst, ρIsi_eq, is_non_int, is_non_bool, is_non_str, is_non_tuple, is_non_list, is_bl_int, is_bl_bool, is_bl_str, is_bl_tuple, is_bl_list, is_int_int, is_int_bool, is_int_str, is_int_tuple, is_int_list, is_str_int, is_str_bool, is_str_str, is_str_tuple, is_str_list, is_tup_int, is_tup_bool, is_tup_str, is_tup_tuple, is_tup_list, is_lst_int, is_lst_bool, is_lst_str, is_lst_tuple, is_lst_list, tyN_non, tyN_bl, tyN_int, tyN_str, tyN_tup, tyN_lst, ρIx_tup, ρIx_lst, ρIx_str, ρIx_ref, ρSl_str, ρSl_lst, ρSl_tup, ρApp_ref, θLst_ref, θStr_str, ςLst_ref, ρJoin_lst, γTup_tup, atI_0, atI_1, atI_2, atI_3, atI_4, atI_5, atI_6, atI_7, c_WIDTHS, sp_is_in_eq, sp_is_tuple_eq, sp_demand_eq, sp_is_bits_eq, sp_number_of_eq, sp_bits_of_eq, sp_least_of_eq, sp_code_of_eq, sp_code_eq, sp_is_code_eq, sp_decoded_of_eq, sp_decoded_eq, sp_worst_error_eq, sp_as_bits_eq, sp_of_bits_eq, sp__law_dice_eq, sp__law_roll_eq, sp__law_pick_eq, sp__law_steps_eq, sp__law_step_of_eq, sp__law_right_eq, c2, c4, d1, d2, d3, d4, okC_i, h, e1, e2, decide_true, decide_false]
      exact hc
  clear hZ Z
  -- signs
  obtain ⟨g1, g2, g3, g4⟩ := signs_ok hg hA hB
  have hlog : ∀ {i : Int}, 0 ≤ i ∧ i ≤ 1 → i.natAbs.log2 < 1920 := fun {i} h => by
    have : i = 0 ∨ i = 1 := by omega
    rcases this with rfl | rfl <;> decide
  have hp : ∀ i : Int, 0 ≤ i % 2 ∧ i % 2 ≤ 1 := fun i => by omega
  have e0 : ("" : Str).length = 0 := by decide +kernel
  have esum : ∀ (f : Int → Int) (l : List Int), ((l.map fun i => strI (f i % 2)).map (·.length)).sum ≤ l.length := fun f l => by
    induction l with
    | nil => exact Nat.le_refl _
    | cons a l ih =>
      simp only [List.map_cons, List.sum_cons, List.length_cons]
      rw [strI01 (by have := hp (f a); omega)]
      omega
  refine dSeq_step fun Z hZ => ?_
  simp only [dVar, dC, dOp, dUn, dTest_eq, dAnd, dOr, dNot, dAndV_eq, dOrV_eq, dNotV_eq, dIf, dChain_eq, dNil, dCons, dTup, dLst, dLstM, dCB, dBM, dNoPart, dPart_eq, dSl, dCall, dCallK, dNext, dBrk, dCnt, dSeq, dDrop, dRet, dRetN, dIfS, γName, γNil, γCons, γSub, dAsg, dPar, dAug, ιSeq_eq, ιRng1_eq, ιRng2_eq, dFor, dLc, dLcM, dYes, dT, dTold, onBl_eq, onInt_eq, onSeq_lst, onSeq_tup, onSeq_str, onSome_eq, lstAt_same, dRaise, startD, List.map_cons, List.map_nil, List.length_cons, List.length_nil, List.replicate_succ, List.replicate_zero, List.cons_append, List.nil_append, List.append_nil, List.getElem?_cons_zero, List.getElem?_cons_succ, List.set_cons_zero, List.set_cons_succ, Nat.reduceAdd, Nat.reduceSub, Nat.zero_add, Nat.sub_self, ρEq_int, ρEq_str, ρEq_bl, ρNe_int, ρNe_str, ρNe_bl, ρEq_t3, ρNe_t3, ρEq_t2, ρNe_t2, intsOf_mapf, strsOf_mapf, blsOf_mapf, gK_01_0, gK_02_01, gK_02_10, gK_03_012, gK_03_021, gK_03_102, gK_03_120, gK_03_201, gK_03_210, gK_11_0, gK_12_01, gK_12_10, gK_13_012, gK_13_021, gK_13_102, gK_13_120, gK_13_201, gK_13_210, eq_self, Bool.not_true, Bool.not_false, decide_true, decide_false, strsOf_c0, strsOf_c1, strsOf_c2, strsOf_c3, strsOf_c4, strsOf_c5, strsOf_c6, strsOf_c7, strsOf_c8, intsOf_c0, intsOf_c1, intsOf_c2, intsOf_c3, intsOf_c4, intsOf_c5, intsOf_c6, intsOf_c7, intsOf_c8, blsOf_c0, blsOf_c1, blsOf_c2, blsOf_c3, blsOf_c4, blsOf_c5, blsOf_c6, blsOf_c7, blsOf_c8, ixN_30, ixN_31, ixN_32, wipeD, if_true, if_false, Bool.false_eq_true, Bool.true_eq_false, true_and, and_true, ρAdd_int, ρAdd_str, ρAdd_tup, ρAdd_lst, ρAdd_rl, ρI_int, ρI0_int, ρMul_int, ρMul_str, ρNeg_int, ρCmp_int, ρCmp_str, ρIsN_eq, ρNotN_eq, isNonD_bl, isNonD_int, isNonD_str, isNonD_tup, isNonD_lst, isNonD_ref, isNonD_non, ρSgn_one, ρAbs_int, ρMax_two, ρMin_two, ρMax_lst, ρMin_lst, ρInt_int, ρInt_bl, ρStr_int, ρLen_str, ρLen_tup, ρLen_lst, ρLen_ref, ρSum_lst, ρAll_lst, ρAny_lst, ρTupO_tup, ρTupO_lst, ρIsi_eq, is_non_int, is_non_bool, is_non_str, is_non_tuple, is_non_list, is_bl_int, is_bl_bool, is_bl_str, is_bl_tuple, is_bl_list, is_int_int, is_int_bool, is_int_str, is_int_tuple, is_int_list, is_str_int, is_str_bool, is_str_str, is_str_tuple, is_str_list, is_tup_int, is_tup_bool, is_tup_str, is_tup_tuple, is_tup_list, is_lst_int, is_lst_bool, is_lst_str, is_lst_tuple, is_lst_list, tyN_non, tyN_bl, tyN_int, tyN_str, tyN_tup, tyN_lst, ρIx_tup, ρIx_lst, ρIx_str, ρIx_ref, ρSl_str, ρSl_lst, ρSl_tup, ρApp_ref, θLst_ref, θStr_str, ςLst_ref, ρJoin_lst, γTup_tup, atI_0, atI_1, atI_2, atI_3, atI_4, atI_5, atI_6, atI_7, c_WIDTHS, sp_is_in_eq, sp_is_tuple_eq, sp_demand_eq, sp_is_bits_eq, sp_number_of_eq, sp_bits_of_eq, sp_least_of_eq, sp_code_of_eq, sp_code_eq, sp_is_code_eq, sp_decoded_of_eq, sp_decoded_eq, sp_worst_error_eq, sp_as_bits_eq, sp_of_bits_eq, sp__law_dice_eq, sp__law_roll_eq, sp__law_pick_eq, sp__law_steps_eq, sp__law_step_of_eq, sp__law_right_eq, atI_0]
  refine ⟨hlog hg, by rw [sizeLine_eq]; decide, fun L hL => ?_⟩
  refine lc_map (l := [2, 1, 0]) (g := D.int) (fun i => .str (strI (segI (absI s) / 2 ^ i.toNat % 2))) (by rw [sizeLine_eq]; decide) (fun c hc τ' k' hk' => ?_) ?_
  · have hc : 0 ≤ c := by simp at hc; omega
    simp only [dVar, dC, dOp, dUn, dTest_eq, dAnd, dOr, dNot, dAndV_eq, dOrV_eq, dNotV_eq, dIf, dChain_eq, dNil, dCons, dTup, dLst, dLstM, dCB, dBM, dNoPart, dPart_eq, dSl, dCall, dCallK, dNext, dBrk, dCnt, dSeq, dDrop, dRet, dRetN, dIfS, γName, γNil, γCons, γSub, dAsg, dPar, dAug, ιSeq_eq, ιRng1_eq, ιRng2_eq, dFor, dLc, dLcM, dYes, dT, dTold, onBl_eq, onInt_eq, onSeq_lst, onSeq_tup, onSeq_str, onSome_eq, lstAt_same, dRaise, startD, List.map_cons, List.map_nil, List.length_cons, List.length_nil, List.replicate_succ, List.replicate_zero, List.cons_append, List.nil_append, List.append_nil, List.getElem?_cons_zero, List.getElem?_cons_succ, List.set_cons_zero, List.set_cons_succ, Nat.reduceAdd, Nat.reduceSub, Nat.zero_add, Nat.sub_self, ρEq_int, ρEq_str, ρEq_bl, ρNe_int, ρNe_str, ρNe_bl, ρEq_t3, ρNe_t3, ρEq_t2, ρNe_t2, intsOf_mapf, strsOf_mapf, blsOf_mapf, gK_01_0, gK_02_01, gK_02_10, gK_03_012, gK_03_021, gK_03_102, gK_03_120, gK_03_201, gK_03_210, gK_11_0, gK_12_01, gK_12_10, gK_13_012, gK_13_021, gK_13_102, gK_13_120, gK_13_201, gK_13_210, eq_self, Bool.not_true, Bool.not_false, decide_true, decide_false, strsOf_c0, strsOf_c1, strsOf_c2, strsOf_c3, strsOf_c4, strsOf_c5, strsOf_c6, strsOf_c7, strsOf_c8, intsOf_c0, intsOf_c1, intsOf_c2, intsOf_c3, intsOf_c4, intsOf_c5, intsOf_c6, intsOf_c7, intsOf_c8, blsOf_c0, blsOf_c1, blsOf_c2, blsOf_c3, blsOf_c4, blsOf_c5, blsOf_c6, blsOf_c7, blsOf_c8, ixN_30, ixN_31, ixN_32, wipeD, if_true, if_false, Bool.false_eq_true, Bool.true_eq_false, true_and, and_true, ρAdd_int, ρAdd_str, ρAdd_tup, ρAdd_lst, ρAdd_rl, ρI_int, ρI0_int, ρMul_int, ρMul_str, ρNeg_int, ρCmp_int, ρCmp_str, ρIsN_eq, ρNotN_eq, isNonD_bl, isNonD_int, isNonD_str, isNonD_tup, isNonD_lst, isNonD_ref, isNonD_non, ρSgn_one, ρAbs_int, ρMax_two, ρMin_two, ρMax_lst, ρMin_lst, ρInt_int, ρInt_bl, ρStr_int, ρLen_str, ρLen_tup, ρLen_lst, ρLen_ref, ρSum_lst, ρAll_lst, ρAny_lst, ρTupO_tup, ρTupO_lst, ρIsi_eq, is_non_int, is_non_bool, is_non_str, is_non_tuple, is_non_list, is_bl_int, is_bl_bool, is_bl_str, is_bl_tuple, is_bl_list, is_int_int, is_int_bool, is_int_str, is_int_tuple, is_int_list, is_str_int, is_str_bool, is_str_str, is_str_tuple, is_str_list, is_tup_int, is_tup_bool, is_tup_str, is_tup_tuple, is_tup_list, is_lst_int, is_lst_bool, is_lst_str, is_lst_tuple, is_lst_list, tyN_non, tyN_bl, tyN_int, tyN_str, tyN_tup, tyN_lst, ρIx_tup, ρIx_lst, ρIx_str, ρIx_ref, ρSl_str, ρSl_lst, ρSl_tup, ρApp_ref, θLst_ref, θStr_str, ςLst_ref, ρJoin_lst, γTup_tup, atI_0, atI_1, atI_2, atI_3, atI_4, atI_5, atI_6, atI_7, c_WIDTHS, sp_is_in_eq, sp_is_tuple_eq, sp_demand_eq, sp_is_bits_eq, sp_number_of_eq, sp_bits_of_eq, sp_least_of_eq, sp_code_of_eq, sp_code_eq, sp_is_code_eq, sp_decoded_of_eq, sp_decoded_eq, sp_worst_error_eq, sp_as_bits_eq, sp_of_bits_eq, sp__law_dice_eq, sp__law_roll_eq, sp__law_pick_eq, sp__law_steps_eq, sp__law_step_of_eq, sp__law_right_eq]
    exact ⟨hc, by decide, hlog (hp _), hk'⟩
  simp only [dVar, dC, dOp, dUn, dTest_eq, dAnd, dOr, dNot, dAndV_eq, dOrV_eq, dNotV_eq, dIf, dChain_eq, dNil, dCons, dTup, dLst, dLstM, dCB, dBM, dNoPart, dPart_eq, dSl, dCall, dCallK, dNext, dBrk, dCnt, dSeq, dDrop, dRet, dRetN, dIfS, γName, γNil, γCons, γSub, dAsg, dPar, dAug, ιSeq_eq, ιRng1_eq, ιRng2_eq, dFor, dLc, dLcM, dYes, dT, dTold, onBl_eq, onInt_eq, onSeq_lst, onSeq_tup, onSeq_str, onSome_eq, lstAt_same, dRaise, startD, List.map_cons, List.map_nil, List.length_cons, List.length_nil, List.replicate_succ, List.replicate_zero, List.cons_append, List.nil_append, List.append_nil, List.getElem?_cons_zero, List.getElem?_cons_succ, List.set_cons_zero, List.set_cons_succ, Nat.reduceAdd, Nat.reduceSub, Nat.zero_add, Nat.sub_self, ρEq_int, ρEq_str, ρEq_bl, ρNe_int, ρNe_str, ρNe_bl, ρEq_t3, ρNe_t3, ρEq_t2, ρNe_t2, intsOf_mapf, strsOf_mapf, blsOf_mapf, gK_01_0, gK_02_01, gK_02_10, gK_03_012, gK_03_021, gK_03_102, gK_03_120, gK_03_201, gK_03_210, gK_11_0, gK_12_01, gK_12_10, gK_13_012, gK_13_021, gK_13_102, gK_13_120, gK_13_201, gK_13_210, eq_self, Bool.not_true, Bool.not_false, decide_true, decide_false, strsOf_c0, strsOf_c1, strsOf_c2, strsOf_c3, strsOf_c4, strsOf_c5, strsOf_c6, strsOf_c7, strsOf_c8, intsOf_c0, intsOf_c1, intsOf_c2, intsOf_c3, intsOf_c4, intsOf_c5, intsOf_c6, intsOf_c7, intsOf_c8, blsOf_c0, blsOf_c1, blsOf_c2, blsOf_c3, blsOf_c4, blsOf_c5, blsOf_c6, blsOf_c7, blsOf_c8, ixN_30, ixN_31, ixN_32, wipeD, if_true, if_false, Bool.false_eq_true, Bool.true_eq_false, true_and, and_true, ρAdd_int, ρAdd_str, ρAdd_tup, ρAdd_lst, ρAdd_rl, ρI_int, ρI0_int, ρMul_int, ρMul_str, ρNeg_int, ρCmp_int, ρCmp_str, ρIsN_eq, ρNotN_eq, isNonD_bl, isNonD_int, isNonD_str, isNonD_tup, isNonD_lst, isNonD_ref, isNonD_non, ρSgn_one, ρAbs_int, ρMax_two, ρMin_two, ρMax_lst, ρMin_lst, ρInt_int, ρInt_bl, ρStr_int, ρLen_str, ρLen_tup, ρLen_lst, ρLen_ref, ρSum_lst, ρAll_lst, ρAny_lst, ρTupO_tup, ρTupO_lst, ρIsi_eq, is_non_int, is_non_bool, is_non_str, is_non_tuple, is_non_list, is_bl_int, is_bl_bool, is_bl_str, is_bl_tuple, is_bl_list, is_int_int, is_int_bool, is_int_str, is_int_tuple, is_int_list, is_str_int, is_str_bool, is_str_str, is_str_tuple, is_str_list, is_tup_int, is_tup_bool, is_tup_str, is_tup_tuple, is_tup_list, is_lst_int, is_lst_bool, is_lst_str, is_lst_tuple, is_lst_list, tyN_non, tyN_bl, tyN_int, tyN_str, tyN_tup, tyN_lst, ρIx_tup, ρIx_lst, ρIx_str, ρIx_ref, ρSl_str, ρSl_lst, ρSl_tup, ρApp_ref, θLst_ref, θStr_str, ςLst_ref, ρJoin_lst, γTup_tup, atI_0, atI_1, atI_2, atI_3, atI_4, atI_5, atI_6, atI_7, c_WIDTHS, sp_is_in_eq, sp_is_tuple_eq, sp_demand_eq, sp_is_bits_eq, sp_number_of_eq, sp_bits_of_eq, sp_least_of_eq, sp_code_of_eq, sp_code_eq, sp_is_code_eq, sp_decoded_of_eq, sp_decoded_eq, sp_worst_error_eq, sp_as_bits_eq, sp_of_bits_eq, sp__law_dice_eq, sp__law_roll_eq, sp__law_pick_eq, sp__law_steps_eq, sp__law_step_of_eq, sp__law_right_eq, tset_del hL]
  refine ⟨?_, ?_, ?_⟩
  · have := esum (fun i => segI (absI s) / 2 ^ i.toNat) [2, 1, 0]
    simp only [List.map_cons, List.map_nil, List.length_cons, List.length_nil] at this ⊢
    rw [e0]
    omega
  · simp only [List.map_cons, List.map_nil] at g2 ⊢
    exact sz1000 (by omega)
  refine ⟨by rw [sizeLine_eq]; decide, fun L hL => ?_⟩
  refine lc_map (l := [3, 2, 1, 0]) (g := D.int) (fun i => .str (strI (stepI (absI s) / 2 ^ i.toNat % 2))) (by rw [sizeLine_eq]; decide) (fun c hc τ' k' hk' => ?_) ?_
  · have hc : 0 ≤ c := by simp at hc; omega
    simp only [dVar, dC, dOp, dUn, dTest_eq, dAnd, dOr, dNot, dAndV_eq, dOrV_eq, dNotV_eq, dIf, dChain_eq, dNil, dCons, dTup, dLst, dLstM, dCB, dBM, dNoPart, dPart_eq, dSl, dCall, dCallK, dNext, dBrk, dCnt, dSeq, dDrop, dRet, dRetN, dIfS, γName, γNil, γCons, γSub, dAsg, dPar, dAug, ιSeq_eq, ιRng1_eq, ιRng2_eq, dFor, dLc, dLcM, dYes, dT, dTold, onBl_eq, onInt_eq, onSeq_lst, onSeq_tup, onSeq_str, onSome_eq, lstAt_same, dRaise, startD, List.map_cons, List.map_nil, List.length_cons, List.length_nil, List.replicate_succ, List.replicate_zero, List.cons_append, List.nil_append, List.append_nil, List.getElem?_cons_zero, List.getElem?_cons_succ, List.set_cons_zero, List.set_cons_succ, Nat.reduceAdd, Nat.reduceSub, Nat.zero_add, Nat.sub_self, ρEq_int, ρEq_str, ρEq_bl, ρNe_int, ρNe_str, ρNe_bl, ρEq_t3, ρNe_t3, ρEq_t2, ρNe_t2, intsOf_mapf, strsOf_mapf, blsOf_mapf, gK_01_0, gK_02_01, gK_02_10, gK_03_012, gK_03_021, gK_03_102, gK_03_120, gK_03_201, gK_03_210, gK_11_0, gK_12_01, gK_12_10, gK_13_012, gK_13_021, gK_13_102, gK_13_120, gK_13_201, gK_13_210, eq_self, Bool.not_true, Bool.not_false, decide_true, decide_false, strsOf_c0, strsOf_c1, strsOf_c2, strsOf_c3, strsOf_c4, strsOf_c5, strsOf_c6, strsOf_c7, strsOf_c8, intsOf_c0, intsOf_c1, intsOf_c2, intsOf_c3, intsOf_c4, intsOf_c5, intsOf_c6, intsOf_c7, intsOf_c8, blsOf_c0, blsOf_c1, blsOf_c2, blsOf_c3, blsOf_c4, blsOf_c5, blsOf_c6, blsOf_c7, blsOf_c8, ixN_30, ixN_31, ixN_32, wipeD, if_true, if_false, Bool.false_eq_true, Bool.true_eq_false, true_and, and_true, ρAdd_int, ρAdd_str, ρAdd_tup, ρAdd_lst, ρAdd_rl, ρI_int, ρI0_int, ρMul_int, ρMul_str, ρNeg_int, ρCmp_int, ρCmp_str, ρIsN_eq, ρNotN_eq, isNonD_bl, isNonD_int, isNonD_str, isNonD_tup, isNonD_lst, isNonD_ref, isNonD_non, ρSgn_one, ρAbs_int, ρMax_two, ρMin_two, ρMax_lst, ρMin_lst, ρInt_int, ρInt_bl, ρStr_int, ρLen_str, ρLen_tup, ρLen_lst, ρLen_ref, ρSum_lst, ρAll_lst, ρAny_lst, ρTupO_tup, ρTupO_lst, ρIsi_eq, is_non_int, is_non_bool, is_non_str, is_non_tuple, is_non_list, is_bl_int, is_bl_bool, is_bl_str, is_bl_tuple, is_bl_list, is_int_int, is_int_bool, is_int_str, is_int_tuple, is_int_list, is_str_int, is_str_bool, is_str_str, is_str_tuple, is_str_list, is_tup_int, is_tup_bool, is_tup_str, is_tup_tuple, is_tup_list, is_lst_int, is_lst_bool, is_lst_str, is_lst_tuple, is_lst_list, tyN_non, tyN_bl, tyN_int, tyN_str, tyN_tup, tyN_lst, ρIx_tup, ρIx_lst, ρIx_str, ρIx_ref, ρSl_str, ρSl_lst, ρSl_tup, ρApp_ref, θLst_ref, θStr_str, ςLst_ref, ρJoin_lst, γTup_tup, atI_0, atI_1, atI_2, atI_3, atI_4, atI_5, atI_6, atI_7, c_WIDTHS, sp_is_in_eq, sp_is_tuple_eq, sp_demand_eq, sp_is_bits_eq, sp_number_of_eq, sp_bits_of_eq, sp_least_of_eq, sp_code_of_eq, sp_code_eq, sp_is_code_eq, sp_decoded_of_eq, sp_decoded_eq, sp_worst_error_eq, sp_as_bits_eq, sp_of_bits_eq, sp__law_dice_eq, sp__law_roll_eq, sp__law_pick_eq, sp__law_steps_eq, sp__law_step_of_eq, sp__law_right_eq]
    exact ⟨hc, by decide, hlog (hp _), hk'⟩
  simp only [dVar, dC, dOp, dUn, dTest_eq, dAnd, dOr, dNot, dAndV_eq, dOrV_eq, dNotV_eq, dIf, dChain_eq, dNil, dCons, dTup, dLst, dLstM, dCB, dBM, dNoPart, dPart_eq, dSl, dCall, dCallK, dNext, dBrk, dCnt, dSeq, dDrop, dRet, dRetN, dIfS, γName, γNil, γCons, γSub, dAsg, dPar, dAug, ιSeq_eq, ιRng1_eq, ιRng2_eq, dFor, dLc, dLcM, dYes, dT, dTold, onBl_eq, onInt_eq, onSeq_lst, onSeq_tup, onSeq_str, onSome_eq, lstAt_same, dRaise, startD, List.map_cons, List.map_nil, List.length_cons, List.length_nil, List.replicate_succ, List.replicate_zero, List.cons_append, List.nil_append, List.append_nil, List.getElem?_cons_zero, List.getElem?_cons_succ, List.set_cons_zero, List.set_cons_succ, Nat.reduceAdd, Nat.reduceSub, Nat.zero_add, Nat.sub_self, ρEq_int, ρEq_str, ρEq_bl, ρNe_int, ρNe_str, ρNe_bl, ρEq_t3, ρNe_t3, ρEq_t2, ρNe_t2, intsOf_mapf, strsOf_mapf, blsOf_mapf, gK_01_0, gK_02_01, gK_02_10, gK_03_012, gK_03_021, gK_03_102, gK_03_120, gK_03_201, gK_03_210, gK_11_0, gK_12_01, gK_12_10, gK_13_012, gK_13_021, gK_13_102, gK_13_120, gK_13_201, gK_13_210, eq_self, Bool.not_true, Bool.not_false, decide_true, decide_false, strsOf_c0, strsOf_c1, strsOf_c2, strsOf_c3, strsOf_c4, strsOf_c5, strsOf_c6, strsOf_c7, strsOf_c8, intsOf_c0, intsOf_c1, intsOf_c2, intsOf_c3, intsOf_c4, intsOf_c5, intsOf_c6, intsOf_c7, intsOf_c8, blsOf_c0, blsOf_c1, blsOf_c2, blsOf_c3, blsOf_c4, blsOf_c5, blsOf_c6, blsOf_c7, blsOf_c8, ixN_30, ixN_31, ixN_32, wipeD, if_true, if_false, Bool.false_eq_true, Bool.true_eq_false, true_and, and_true, ρAdd_int, ρAdd_str, ρAdd_tup, ρAdd_lst, ρAdd_rl, ρI_int, ρI0_int, ρMul_int, ρMul_str, ρNeg_int, ρCmp_int, ρCmp_str, ρIsN_eq, ρNotN_eq, isNonD_bl, isNonD_int, isNonD_str, isNonD_tup, isNonD_lst, isNonD_ref, isNonD_non, ρSgn_one, ρAbs_int, ρMax_two, ρMin_two, ρMax_lst, ρMin_lst, ρInt_int, ρInt_bl, ρStr_int, ρLen_str, ρLen_tup, ρLen_lst, ρLen_ref, ρSum_lst, ρAll_lst, ρAny_lst, ρTupO_tup, ρTupO_lst, ρIsi_eq, is_non_int, is_non_bool, is_non_str, is_non_tuple, is_non_list, is_bl_int, is_bl_bool, is_bl_str, is_bl_tuple, is_bl_list, is_int_int, is_int_bool, is_int_str, is_int_tuple, is_int_list, is_str_int, is_str_bool, is_str_str, is_str_tuple, is_str_list, is_tup_int, is_tup_bool, is_tup_str, is_tup_tuple, is_tup_list, is_lst_int, is_lst_bool, is_lst_str, is_lst_tuple, is_lst_list, tyN_non, tyN_bl, tyN_int, tyN_str, tyN_tup, tyN_lst, ρIx_tup, ρIx_lst, ρIx_str, ρIx_ref, ρSl_str, ρSl_lst, ρSl_tup, ρApp_ref, θLst_ref, θStr_str, ςLst_ref, ρJoin_lst, γTup_tup, atI_0, atI_1, atI_2, atI_3, atI_4, atI_5, atI_6, atI_7, c_WIDTHS, sp_is_in_eq, sp_is_tuple_eq, sp_demand_eq, sp_is_bits_eq, sp_number_of_eq, sp_bits_of_eq, sp_least_of_eq, sp_code_of_eq, sp_code_eq, sp_is_code_eq, sp_decoded_of_eq, sp_decoded_eq, sp_worst_error_eq, sp_as_bits_eq, sp_of_bits_eq, sp__law_dice_eq, sp__law_roll_eq, sp__law_pick_eq, sp__law_steps_eq, sp__law_step_of_eq, sp__law_right_eq, tset_del hL]
  simp only [List.map_cons, List.map_nil] at g2 g3
  refine ⟨?_, ?_, hZ _ _ ?_⟩
  · have := esum (fun i => stepI (absI s) / 2 ^ i.toNat) [3, 2, 1, 0]
    simp only [List.map_cons, List.map_nil, List.length_cons, List.length_nil] at this ⊢
    rw [e0]
    omega
  · rw [Str.length_append]
    exact sz1000 (by omega)
  clear hZ Z
  have g5 : (strI (sgnI s) ++ Txt.join "" [strI (segI (absI s) / 2 ^ Int.toNat 2 % 2), strI (segI (absI s) / 2 ^ Int.toNat 1 % 2), strI (segI (absI s) / 2 ^ Int.toNat 0 % 2)]) ++ Txt.join "" [strI (stepI (absI s) / 2 ^ Int.toNat 3 % 2), strI (stepI (absI s) / 2 ^ Int.toNat 2 % 2), strI (stepI (absI s) / 2 ^ Int.toNat 1 % 2), strI (stepI (absI s) / 2 ^ Int.toNat 0 % 2)] = asbS (sgnI s) (segI (absI s)) (stepI (absI s)) := g1
  rw [g5]
  obtain ⟨b1, b2, b3⟩ := bits_ok hg hA hB
  have b4 : asbD (.tup [.int (sgnI s), .int (segI (absI s)), .int (stepI (absI s))]) = .str (asbS (sgnI s) (segI (absI s)) (stepI (absI s))) := rfl
  refine dSeq_step fun Z hZ => ?_
  refine if_two (fun hc => ?_) (hZ _ _ ?_)
  · simp only [dVar, dC, dOp, dUn, dTest_eq, dAnd, dOr, dNot, dAndV_eq, dOrV_eq, dNotV_eq, dIf, dChain_eq, dNil, dCons, dTup, dLst, dLstM, dCB, dBM, dNoPart, dPart_eq, dSl, dCall, dCallK, dNext, dBrk, dCnt, dSeq, dDrop, dRet, dRetN, dIfS, γName, γNil, γCons, γSub, dAsg, dPar, dAug, ιSeq_eq, ιRng1_eq, ιRng2_eq, dFor, dLc, dLcM, dYes, dT, dTold, onBl_eq, onInt_eq, onSeq_lst, onSeq_tup, onSeq_str, onSome_eq, lstAt_same, dRaise, startD, List.map_cons, List.map_nil, List.length_cons, List.length_nil, List.replicate_succ, List.replicate_zero, List.cons_append, List.nil_append, List.append_nil, List.getElem?_cons_zero, List.getElem?_cons_succ, List.set_cons_zero, List.set_cons_succ, Nat.reduceAdd, Nat.reduceSub, Nat.zero_add, Nat.sub_self, ρEq_int, ρEq_str, ρEq_bl, ρNe_int, ρNe_str, ρNe_bl, ρEq_t3, ρNe_t3, ρEq_t2, ρNe_t2, intsOf_mapf, strsOf_mapf, blsOf_mapf, gK_01_0, gK_02_01, gK_02_10, gK_03_012, gK_03_021, gK_03_102, gK_03_120, gK_03_201, gK_03_210, gK_11_0, gK_12_01, gK_12_10, gK_13_012, gK_13_021, gK_13_102, gK_13_120, gK_13_201, gK_13_210, eq_self, Bool.not_true, Bool.not_false, decide_true, decide_false, strsOf_c0, strsOf_c1, strsOf_c2, strsOf_c3, strsOf_c4, strsOf_c5, strsOf_c6, strsOf_c7, strsOf_c8, intsOf_c0, intsOf_c1, intsOf_c2, intsOf_c3, intsOf_c4, intsOf_c5, intsOf_c6, intsOf_c7, intsOf_c8, blsOf_c0, blsOf_c1, blsOf_c2, blsOf_c3, blsOf_c4, blsOf_c5, blsOf_c6, blsOf_c7, blsOf_c8, ixN_30, ixN_31, ixN_32, wipeD, if_true, if_false, Bool.false_eq_true, Bool.true_eq_false, true_and, and_true, ρAdd_int, ρAdd_str, ρAdd_tup, ρAdd_lst, ρAdd_rl, ρI_int, ρI0_int, ρMul_int, ρMul_str, ρNeg_int, ρCmp_int, ρCmp_str, ρIsN_eq, ρNotN_eq, isNonD_bl, isNonD_int, isNonD_str, isNonD_tup, isNonD_lst, isNonD_ref, isNonD_non, ρSgn_one, ρAbs_int, ρMax_two, ρMin_two, ρMax_lst, ρMin_lst, ρInt_int, ρInt_bl, ρStr_int, ρLen_str, ρLen_tup, ρLen_lst, ρLen_ref, ρSum_lst, ρAll_lst, ρAny_lst, ρTupO_tup, ρTupO_lst, ρIsi_eq, is_non_int, is_non_bool, is_non_str, is_non_tuple, is_non_list, is_bl_int, is_bl_bool, is_bl_str, is_bl_tuple, is_bl_list, is_int_int, is_int_bool, is_int_str, is_int_tuple, is_int_list, is_str_int, is_str_bool, is_str_str, is_str_tuple, is_str_list, is_tup_int, is_tup_bool, is_tup_str, is_tup_tuple, is_tup_list, is_lst_int, is_lst_bool, is_lst_str, is_lst_tuple, is_lst_list, tyN_non, tyN_bl, tyN_int, tyN_str, tyN_tup, tyN_lst, ρIx_tup, ρIx_lst, ρIx_str, ρIx_ref, ρSl_str, ρSl_lst, ρSl_tup, ρApp_ref, θLst_ref, θStr_str, ςLst_ref, ρJoin_lst, γTup_tup, atI_0, atI_1, atI_2, atI_3, atI_4, atI_5, atI_6, atI_7, c_WIDTHS, sp_is_in_eq, sp_is_tuple_eq, sp_demand_eq, sp_is_bits_eq, sp_number_of_eq, sp_bits_of_eq, sp_least_of_eq, sp_code_of_eq, sp_code_eq, sp_is_code_eq, sp_decoded_of_eq, sp_decoded_eq, sp_worst_error_eq, sp_as_bits_eq, sp_of_bits_eq, sp__law_dice_eq, sp__law_roll_eq, sp__law_pick_eq, sp__law_steps_eq, sp__law_step_of_eq, sp__law_right_eq, c2, okC_i, b1, b2, b3, b4, not_rfl]
    exact hc
  clear hZ Z
  -- sizes
  refine dSeq_step fun Z hZ => ?_
  simp only [dVar, dC, dOp, dUn, dTest_eq, dAnd, dOr, dNot, dAndV_eq, dOrV_eq, dNotV_eq, dIf, dChain_eq, dNil, dCons, dTup, dLst, dLstM, dCB, dBM, dNoPart, dPart_eq, dSl, dCall, dCallK, dNext, dBrk, dCnt, dSeq, dDrop, dRet, dRetN, dIfS, γName, γNil, γCons, γSub, dAsg, dPar, dAug, ιSeq_eq, ιRng1_eq, ιRng2_eq, dFor, dLc, dLcM, dYes, dT, dTold, onBl_eq, onInt_eq, onSeq_lst, onSeq_tup, onSeq_str, onSome_eq, lstAt_same, dRaise, startD, List.map_cons, List.map_nil, List.length_cons, List.length_nil, List.replicate_succ, List.replicate_zero, List.cons_append, List.nil_append, List.append_nil, List.getElem?_cons_zero, List.getElem?_cons_succ, List.set_cons_zero, List.set_cons_succ, Nat.reduceAdd, Nat.reduceSub, Nat.zero_add, Nat.sub_self, ρEq_int, ρEq_str, ρEq_bl, ρNe_int, ρNe_str, ρNe_bl, ρEq_t3, ρNe_t3, ρEq_t2, ρNe_t2, intsOf_mapf, strsOf_mapf, blsOf_mapf, gK_01_0, gK_02_01, gK_02_10, gK_03_012, gK_03_021, gK_03_102, gK_03_120, gK_03_201, gK_03_210, gK_11_0, gK_12_01, gK_12_10, gK_13_012, gK_13_021, gK_13_102, gK_13_120, gK_13_201, gK_13_210, eq_self, Bool.not_true, Bool.not_false, decide_true, decide_false, strsOf_c0, strsOf_c1, strsOf_c2, strsOf_c3, strsOf_c4, strsOf_c5, strsOf_c6, strsOf_c7, strsOf_c8, intsOf_c0, intsOf_c1, intsOf_c2, intsOf_c3, intsOf_c4, intsOf_c5, intsOf_c6, intsOf_c7, intsOf_c8, blsOf_c0, blsOf_c1, blsOf_c2, blsOf_c3, blsOf_c4, blsOf_c5, blsOf_c6, blsOf_c7, blsOf_c8, ixN_30, ixN_31, ixN_32, wipeD, if_true, if_false, Bool.false_eq_true, Bool.true_eq_false, true_and, and_true, ρAdd_int, ρAdd_str, ρAdd_tup, ρAdd_lst, ρAdd_rl, ρI_int, ρI0_int, ρMul_int, ρMul_str, ρNeg_int, ρCmp_int, ρCmp_str, ρIsN_eq, ρNotN_eq, isNonD_bl, isNonD_int, isNonD_str, isNonD_tup, isNonD_lst, isNonD_ref, isNonD_non, ρSgn_one, ρAbs_int, ρMax_two, ρMin_two, ρMax_lst, ρMin_lst, ρInt_int, ρInt_bl, ρStr_int, ρLen_str, ρLen_tup, ρLen_lst, ρLen_ref, ρSum_lst, ρAll_lst, ρAny_lst, ρTupO_tup, ρTupO_lst, ρIsi_eq, is_non_int, is_non_bool, is_non_str, is_non_tuple, is_non_list, is_bl_int, is_bl_bool, is_bl_str, is_bl_tuple, is_bl_list, is_int_int, is_int_bool, is_int_str, is_int_tuple, is_int_list, is_str_int, is_str_bool, is_str_str, is_str_tuple, is_str_list, is_tup_int, is_tup_bool, is_tup_str, is_tup_tuple, is_tup_list, is_lst_int, is_lst_bool, is_lst_str, is_lst_tuple, is_lst_list, tyN_non, tyN_bl, tyN_int, tyN_str, tyN_tup, tyN_lst, ρIx_tup, ρIx_lst, ρIx_str, ρIx_ref, ρSl_str, ρSl_lst, ρSl_tup, ρApp_ref, θLst_ref, θStr_str, ςLst_ref, ρJoin_lst, γTup_tup, atI_0, atI_1, atI_2, atI_3, atI_4, atI_5, atI_6, atI_7, c_WIDTHS, sp_is_in_eq, sp_is_tuple_eq, sp_demand_eq, sp_is_bits_eq, sp_number_of_eq, sp_bits_of_eq, sp_least_of_eq, sp_code_of_eq, sp_code_eq, sp_is_code_eq, sp_decoded_of_eq, sp_decoded_eq, sp_worst_error_eq, sp_as_bits_eq, sp_of_bits_eq, sp__law_dice_eq, sp__law_roll_eq, sp__law_pick_eq, sp__law_steps_eq, sp__law_step_of_eq, sp__law_right_eq]
  refine fun L hL => ?_
  refine lc_fm (l := stepsL) (g := rowD) (fun r => if decide (r.1 = segI (absI s)) = true then some (rowD r) else none) (by rw [rows_len]; exact sz1000 (by decide)) (fun r hr τ' k' hk' => ?_) ?_
  · obtain ⟨a, b, c, d⟩ := r
    simp only [rowD] at hk' ⊢
    simp only [dVar, dC, dOp, dUn, dTest_eq, dAnd, dOr, dNot, dAndV_eq, dOrV_eq, dNotV_eq, dIf, dChain_eq, dNil, dCons, dTup, dLst, dLstM, dCB, dBM, dNoPart, dPart_eq, dSl, dCall, dCallK, dNext, dBrk, dCnt, dSeq, dDrop, dRet, dRetN, dIfS, γName, γNil, γCons, γSub, dAsg, dPar, dAug, ιSeq_eq, ιRng1_eq, ιRng2_eq, dFor, dLc, dLcM, dYes, dT, dTold, onBl_eq, onInt_eq, onSeq_lst, onSeq_tup, onSeq_str, onSome_eq, lstAt_same, dRaise, startD, List.map_cons, List.map_nil, List.length_cons, List.length_nil, List.replicate_succ, List.replicate_zero, List.cons_append, List.nil_append, List.append_nil, List.getElem?_cons_zero, List.getElem?_cons_succ, List.set_cons_zero, List.set_cons_succ, Nat.reduceAdd, Nat.reduceSub, Nat.zero_add, Nat.sub_self, ρEq_int, ρEq_str, ρEq_bl, ρNe_int, ρNe_str, ρNe_bl, ρEq_t3, ρNe_t3, ρEq_t2, ρNe_t2, intsOf_mapf, strsOf_mapf, blsOf_mapf, gK_01_0, gK_02_01, gK_02_10, gK_03_012, gK_03_021, gK_03_102, gK_03_120, gK_03_201, gK_03_210, gK_11_0, gK_12_01, gK_12_10, gK_13_012, gK_13_021, gK_13_102, gK_13_120, gK_13_201, gK_13_210, eq_self, Bool.not_true, Bool.not_false, decide_true, decide_false, strsOf_c0, strsOf_c1, strsOf_c2, strsOf_c3, strsOf_c4, strsOf_c5, strsOf_c6, strsOf_c7, strsOf_c8, intsOf_c0, intsOf_c1, intsOf_c2, intsOf_c3, intsOf_c4, intsOf_c5, intsOf_c6, intsOf_c7, intsOf_c8, blsOf_c0, blsOf_c1, blsOf_c2, blsOf_c3, blsOf_c4, blsOf_c5, blsOf_c6, blsOf_c7, blsOf_c8, ixN_30, ixN_31, ixN_32, wipeD, if_true, if_false, Bool.false_eq_true, Bool.true_eq_false, true_and, and_true, ρAdd_int, ρAdd_str, ρAdd_tup, ρAdd_lst, ρAdd_rl, ρI_int, ρI0_int, ρMul_int, ρMul_str, ρNeg_int, ρCmp_int, ρCmp_str, ρIsN_eq, ρNotN_eq, isNonD_bl, isNonD_int, isNonD_str, isNonD_tup, isNonD_lst, isNonD_ref, isNonD_non, ρSgn_one, ρAbs_int, ρMax_two, ρMin_two, ρMax_lst, ρMin_lst, ρInt_int, ρInt_bl, ρStr_int, ρLen_str, ρLen_tup, ρLen_lst, ρLen_ref, ρSum_lst, ρAll_lst, ρAny_lst, ρTupO_tup, ρTupO_lst, ρIsi_eq, is_non_int, is_non_bool, is_non_str, is_non_tuple, is_non_list, is_bl_int, is_bl_bool, is_bl_str, is_bl_tuple, is_bl_list, is_int_int, is_int_bool, is_int_str, is_int_tuple, is_int_list, is_str_int, is_str_bool, is_str_str, is_str_tuple, is_str_list, is_tup_int, is_tup_bool, is_tup_str, is_tup_tuple, is_tup_list, is_lst_int, is_lst_bool, is_lst_str, is_lst_tuple, is_lst_list, tyN_non, tyN_bl, tyN_int, tyN_str, tyN_tup, tyN_lst, ρIx_tup, ρIx_lst, ρIx_str, ρIx_ref, ρSl_str, ρSl_lst, ρSl_tup, ρApp_ref, θLst_ref, θStr_str, ςLst_ref, ρJoin_lst, γTup_tup, atI_0, atI_1, atI_2, atI_3, atI_4, atI_5, atI_6, atI_7, c_WIDTHS, sp_is_in_eq, sp_is_tuple_eq, sp_demand_eq, sp_is_bits_eq, sp_number_of_eq, sp_bits_of_eq, sp_least_of_eq, sp_code_of_eq, sp_code_eq, sp_is_code_eq, sp_decoded_of_eq, sp_decoded_eq, sp_worst_error_eq, sp_as_bits_eq, sp_of_bits_eq, sp__law_dice_eq, sp__law_roll_eq, sp__law_pick_eq, sp__law_steps_eq, sp__law_step_of_eq, sp__law_right_eq]
    by_cases e1 : a = segI (absI s)
    · simpa only [e1, decide_true, if_true] using hk'
    · simpa only [e1, decide_false, Bool.false_eq_true, if_false] using hk'
  simp only [dVar, dC, dOp, dUn, dTest_eq, dAnd, dOr, dNot, dAndV_eq, dOrV_eq, dNotV_eq, dIf, dChain_eq, dNil, dCons, dTup, dLst, dLstM, dCB, dBM, dNoPart, dPart_eq, dSl, dCall, dCallK, dNext, dBrk, dCnt, dSeq, dDrop, dRet, dRetN, dIfS, γName, γNil, γCons, γSub, dAsg, dPar, dAug, ιSeq_eq, ιRng1_eq, ιRng2_eq, dFor, dLc, dLcM, dYes, dT, dTold, onBl_eq, onInt_eq, onSeq_lst, onSeq_tup, onSeq_str, onSome_eq, lstAt_same, dRaise, startD, List.map_cons, List.map_nil, List.length_cons, List.length_nil, List.replicate_succ, List.replicate_zero, List.cons_append, List.nil_append, List.append_nil, List.getElem?_cons_zero, List.getElem?_cons_succ, List.set_cons_zero, List.set_cons_succ, Nat.reduceAdd, Nat.reduceSub, Nat.zero_add, Nat.sub_self, ρEq_int, ρEq_str, ρEq_bl, ρNe_int, ρNe_str, ρNe_bl, ρEq_t3, ρNe_t3, ρEq_t2, ρNe_t2, intsOf_mapf, strsOf_mapf, blsOf_mapf, gK_01_0, gK_02_01, gK_02_10, gK_03_012, gK_03_021, gK_03_102, gK_03_120, gK_03_201, gK_03_210, gK_11_0, gK_12_01, gK_12_10, gK_13_012, gK_13_021, gK_13_102, gK_13_120, gK_13_201, gK_13_210, eq_self, Bool.not_true, Bool.not_false, decide_true, decide_false, strsOf_c0, strsOf_c1, strsOf_c2, strsOf_c3, strsOf_c4, strsOf_c5, strsOf_c6, strsOf_c7, strsOf_c8, intsOf_c0, intsOf_c1, intsOf_c2, intsOf_c3, intsOf_c4, intsOf_c5, intsOf_c6, intsOf_c7, intsOf_c8, blsOf_c0, blsOf_c1, blsOf_c2, blsOf_c3, blsOf_c4, blsOf_c5, blsOf_c6, blsOf_c7, blsOf_c8, ixN_30, ixN_31, ixN_32, wipeD, if_true, if_false, Bool.false_eq_true, Bool.true_eq_false, true_and, and_true, ρAdd_int, ρAdd_str, ρAdd_tup, ρAdd_lst, ρAdd_rl, ρI_int, ρI0_int, ρMul_int, ρMul_str, ρNeg_int, ρCmp_int, ρCmp_str, ρIsN_eq, ρNotN_eq, isNonD_bl, isNonD_int, isNonD_str, isNonD_tup, isNonD_lst, isNonD_ref, isNonD_non, ρSgn_one, ρAbs_int, ρMax_two, ρMin_two, ρMax_lst, ρMin_lst, ρInt_int, ρInt_bl, ρStr_int, ρLen_str, ρLen_tup, ρLen_lst, ρLen_ref, ρSum_lst, ρAll_lst, ρAny_lst, ρTupO_tup, ρTupO_lst, ρIsi_eq, is_non_int, is_non_bool, is_non_str, is_non_tuple, is_non_list, is_bl_int, is_bl_bool, is_bl_str, is_bl_tuple, is_bl_list, is_int_int, is_int_bool, is_int_str, is_int_tuple, is_int_list, is_str_int, is_str_bool, is_str_str, is_str_tuple, is_str_list, is_tup_int, is_tup_bool, is_tup_str, is_tup_tuple, is_tup_list, is_lst_int, is_lst_bool, is_lst_str, is_lst_tuple, is_lst_list, tyN_non, tyN_bl, tyN_int, tyN_str, tyN_tup, tyN_lst, ρIx_tup, ρIx_lst, ρIx_str, ρIx_ref, ρSl_str, ρSl_lst, ρSl_tup, ρApp_ref, θLst_ref, θStr_str, ςLst_ref, ρJoin_lst, γTup_tup, atI_0, atI_1, atI_2, atI_3, atI_4, atI_5, atI_6, atI_7, c_WIDTHS, sp_is_in_eq, sp_is_tuple_eq, sp_demand_eq, sp_is_bits_eq, sp_number_of_eq, sp_bits_of_eq, sp_least_of_eq, sp_code_of_eq, sp_code_eq, sp_is_code_eq, sp_decoded_of_eq, sp_decoded_eq, sp_worst_error_eq, sp_as_bits_eq, sp_of_bits_eq, sp__law_dice_eq, sp__law_roll_eq, sp__law_pick_eq, sp__law_steps_eq, sp__law_step_of_eq, sp__law_right_eq, tset_del hL, fm_filter]
  refine hZ _ _ ?_
  clear hZ Z hL L
  -- worst
  refine dSeq_step fun Z hZ => ?_
  simp only [dVar, dC, dOp, dUn, dTest_eq, dAnd, dOr, dNot, dAndV_eq, dOrV_eq, dNotV_eq, dIf, dChain_eq, dNil, dCons, dTup, dLst, dLstM, dCB, dBM, dNoPart, dPart_eq, dSl, dCall, dCallK, dNext, dBrk, dCnt, dSeq, dDrop, dRet, dRetN, dIfS, γName, γNil, γCons, γSub, dAsg, dPar, dAug, ιSeq_eq, ιRng1_eq, ιRng2_eq, dFor, dLc, dLcM, dYes, dT, dTold, onBl_eq, onInt_eq, onSeq_lst, onSeq_tup, onSeq_str, onSome_eq, lstAt_same, dRaise, startD, List.map_cons, List.map_nil, List.length_cons, List.length_nil, List.replicate_succ, List.replicate_zero, List.cons_append, List.nil_append, List.append_nil, List.getElem?_cons_zero, List.getElem?_cons_succ, List.set_cons_zero, List.set_cons_succ, Nat.reduceAdd, Nat.reduceSub, Nat.zero_add, Nat.sub_self, ρEq_int, ρEq_str, ρEq_bl, ρNe_int, ρNe_str, ρNe_bl, ρEq_t3, ρNe_t3, ρEq_t2, ρNe_t2, intsOf_mapf, strsOf_mapf, blsOf_mapf, gK_01_0, gK_02_01, gK_02_10, gK_03_012, gK_03_021, gK_03_102, gK_03_120, gK_03_201, gK_03_210, gK_11_0, gK_12_01, gK_12_10, gK_13_012, gK_13_021, gK_13_102, gK_13_120, gK_13_201, gK_13_210, eq_self, Bool.not_true, Bool.not_false, decide_true, decide_false, strsOf_c0, strsOf_c1, strsOf_c2, strsOf_c3, strsOf_c4, strsOf_c5, strsOf_c6, strsOf_c7, strsOf_c8, intsOf_c0, intsOf_c1, intsOf_c2, intsOf_c3, intsOf_c4, intsOf_c5, intsOf_c6, intsOf_c7, intsOf_c8, blsOf_c0, blsOf_c1, blsOf_c2, blsOf_c3, blsOf_c4, blsOf_c5, blsOf_c6, blsOf_c7, blsOf_c8, ixN_30, ixN_31, ixN_32, wipeD, if_true, if_false, Bool.false_eq_true, Bool.true_eq_false, true_and, and_true, ρAdd_int, ρAdd_str, ρAdd_tup, ρAdd_lst, ρAdd_rl, ρI_int, ρI0_int, ρMul_int, ρMul_str, ρNeg_int, ρCmp_int, ρCmp_str, ρIsN_eq, ρNotN_eq, isNonD_bl, isNonD_int, isNonD_str, isNonD_tup, isNonD_lst, isNonD_ref, isNonD_non, ρSgn_one, ρAbs_int, ρMax_two, ρMin_two, ρMax_lst, ρMin_lst, ρInt_int, ρInt_bl, ρStr_int, ρLen_str, ρLen_tup, ρLen_lst, ρLen_ref, ρSum_lst, ρAll_lst, ρAny_lst, ρTupO_tup, ρTupO_lst, ρIsi_eq, is_non_int, is_non_bool, is_non_str, is_non_tuple, is_non_list, is_bl_int, is_bl_bool, is_bl_str, is_bl_tuple, is_bl_list, is_int_int, is_int_bool, is_int_str, is_int_tuple, is_int_list, is_str_int, is_str_bool, is_str_str, is_str_tuple, is_str_list, is_tup_int, is_tup_bool, is_tup_str, is_tup_tuple, is_tup_list, is_lst_int, is_lst_bool, is_lst_str, is_lst_tuple, is_lst_list, tyN_non, tyN_bl, tyN_int, tyN_str, tyN_tup, tyN_lst, ρIx_tup, ρIx_lst, ρIx_str, ρIx_ref, ρSl_str, ρSl_lst, ρSl_tup, ρApp_ref, θLst_ref, θStr_str, ςLst_ref, ρJoin_lst, γTup_tup, atI_0, atI_1, atI_2, atI_3, atI_4, atI_5, atI_6, atI_7, c_WIDTHS, sp_is_in_eq, sp_is_tuple_eq, sp_demand_eq, sp_is_bits_eq, sp_number_of_eq, sp_bits_of_eq, sp_least_of_eq, sp_code_of_eq, sp_code_eq, sp_is_code_eq, sp_decoded_of_eq, sp_decoded_eq, sp_worst_error_eq, sp_as_bits_eq, sp_of_bits_eq, sp__law_dice_eq, sp__law_roll_eq, sp__law_pick_eq, sp__law_steps_eq, sp__law_step_of_eq, sp__law_right_eq]
  refine fun L hL => ?_
  refine lc_map (l := stepsL.filter fun r => decide (r.1 = segI (absI s))) (g := rowD) (fun r => .int (worF r)) (sz1000 (filt_len _)) (fun r hr τ' k' hk' => ?_) ?_
  · obtain ⟨a, b, c, d⟩ := r
    simp only [rowD] at hk' ⊢
    simp only [dVar, dC, dOp, dUn, dTest_eq, dAnd, dOr, dNot, dAndV_eq, dOrV_eq, dNotV_eq, dIf, dChain_eq, dNil, dCons, dTup, dLst, dLstM, dCB, dBM, dNoPart, dPart_eq, dSl, dCall, dCallK, dNext, dBrk, dCnt, dSeq, dDrop, dRet, dRetN, dIfS, γName, γNil, γCons, γSub, dAsg, dPar, dAug, ιSeq_eq, ιRng1_eq, ιRng2_eq, dFor, dLc, dLcM, dYes, dT, dTold, onBl_eq, onInt_eq, onSeq_lst, onSeq_tup, onSeq_str, onSome_eq, lstAt_same, dRaise, startD, List.map_cons, List.map_nil, List.length_cons, List.length_nil, List.replicate_succ, List.replicate_zero, List.cons_append, List.nil_append, List.append_nil, List.getElem?_cons_zero, List.getElem?_cons_succ, List.set_cons_zero, List.set_cons_succ, Nat.reduceAdd, Nat.reduceSub, Nat.zero_add, Nat.sub_self, ρEq_int, ρEq_str, ρEq_bl, ρNe_int, ρNe_str, ρNe_bl, ρEq_t3, ρNe_t3, ρEq_t2, ρNe_t2, intsOf_mapf, strsOf_mapf, blsOf_mapf, gK_01_0, gK_02_01, gK_02_10, gK_03_012, gK_03_021, gK_03_102, gK_03_120, gK_03_201, gK_03_210, gK_11_0, gK_12_01, gK_12_10, gK_13_012, gK_13_021, gK_13_102, gK_13_120, gK_13_201, gK_13_210, eq_self, Bool.not_true, Bool.not_false, decide_true, decide_false, strsOf_c0, strsOf_c1, strsOf_c2, strsOf_c3, strsOf_c4, strsOf_c5, strsOf_c6, strsOf_c7, strsOf_c8, intsOf_c0, intsOf_c1, intsOf_c2, intsOf_c3, intsOf_c4, intsOf_c5, intsOf_c6, intsOf_c7, intsOf_c8, blsOf_c0, blsOf_c1, blsOf_c2, blsOf_c3, blsOf_c4, blsOf_c5, blsOf_c6, blsOf_c7, blsOf_c8, ixN_30, ixN_31, ixN_32, wipeD, if_true, if_false, Bool.false_eq_true, Bool.true_eq_false, true_and, and_true, ρAdd_int, ρAdd_str, ρAdd_tup, ρAdd_lst, ρAdd_rl, ρI_int, ρI0_int, ρMul_int, ρMul_str, ρNeg_int, ρCmp_int, ρCmp_str, ρIsN_eq, ρNotN_eq, isNonD_bl, isNonD_int, isNonD_str, isNonD_tup, isNonD_lst, isNonD_ref, isNonD_non, ρSgn_one, ρAbs_int, ρMax_two, ρMin_two, ρMax_lst, ρMin_lst, ρInt_int, ρInt_bl, ρStr_int, ρLen_str, ρLen_tup, ρLen_lst, ρLen_ref, ρSum_lst, ρAll_lst, ρAny_lst, ρTupO_tup, ρTupO_lst, ρIsi_eq, is_non_int, is_non_bool, is_non_str, is_non_tuple, is_non_list, is_bl_int, is_bl_bool, is_bl_str, is_bl_tuple, is_bl_list, is_int_int, is_int_bool, is_int_str, is_int_tuple, is_int_list, is_str_int, is_str_bool, is_str_str, is_str_tuple, is_str_list, is_tup_int, is_tup_bool, is_tup_str, is_tup_tuple, is_tup_list, is_lst_int, is_lst_bool, is_lst_str, is_lst_tuple, is_lst_list, tyN_non, tyN_bl, tyN_int, tyN_str, tyN_tup, tyN_lst, ρIx_tup, ρIx_lst, ρIx_str, ρIx_ref, ρSl_str, ρSl_lst, ρSl_tup, ρApp_ref, θLst_ref, θStr_str, ςLst_ref, ρJoin_lst, γTup_tup, atI_0, atI_1, atI_2, atI_3, atI_4, atI_5, atI_6, atI_7, c_WIDTHS, sp_is_in_eq, sp_is_tuple_eq, sp_demand_eq, sp_is_bits_eq, sp_number_of_eq, sp_bits_of_eq, sp_least_of_eq, sp_code_of_eq, sp_code_eq, sp_is_code_eq, sp_decoded_of_eq, sp_decoded_eq, sp_worst_error_eq, sp_as_bits_eq, sp_of_bits_eq, sp__law_dice_eq, sp__law_roll_eq, sp__law_pick_eq, sp__law_steps_eq, sp__law_step_of_eq, sp__law_right_eq]
    exact ⟨div_ok ⟨by decide, by decide⟩, div_ok ⟨by decide, by decide⟩, hk'⟩
  simp only [dVar, dC, dOp, dUn, dTest_eq, dAnd, dOr, dNot, dAndV_eq, dOrV_eq, dNotV_eq, dIf, dChain_eq, dNil, dCons, dTup, dLst, dLstM, dCB, dBM, dNoPart, dPart_eq, dSl, dCall, dCallK, dNext, dBrk, dCnt, dSeq, dDrop, dRet, dRetN, dIfS, γName, γNil, γCons, γSub, dAsg, dPar, dAug, ιSeq_eq, ιRng1_eq, ιRng2_eq, dFor, dLc, dLcM, dYes, dT, dTold, onBl_eq, onInt_eq, onSeq_lst, onSeq_tup, onSeq_str, onSome_eq, lstAt_same, dRaise, startD, List.map_cons, List.map_nil, List.length_cons, List.length_nil, List.replicate_succ, List.replicate_zero, List.cons_append, List.nil_append, List.append_nil, List.getElem?_cons_zero, List.getElem?_cons_succ, List.set_cons_zero, List.set_cons_succ, Nat.reduceAdd, Nat.reduceSub, Nat.zero_add, Nat.sub_self, ρEq_int, ρEq_str, ρEq_bl, ρNe_int, ρNe_str, ρNe_bl, ρEq_t3, ρNe_t3, ρEq_t2, ρNe_t2, intsOf_mapf, strsOf_mapf, blsOf_mapf, gK_01_0, gK_02_01, gK_02_10, gK_03_012, gK_03_021, gK_03_102, gK_03_120, gK_03_201, gK_03_210, gK_11_0, gK_12_01, gK_12_10, gK_13_012, gK_13_021, gK_13_102, gK_13_120, gK_13_201, gK_13_210, eq_self, Bool.not_true, Bool.not_false, decide_true, decide_false, strsOf_c0, strsOf_c1, strsOf_c2, strsOf_c3, strsOf_c4, strsOf_c5, strsOf_c6, strsOf_c7, strsOf_c8, intsOf_c0, intsOf_c1, intsOf_c2, intsOf_c3, intsOf_c4, intsOf_c5, intsOf_c6, intsOf_c7, intsOf_c8, blsOf_c0, blsOf_c1, blsOf_c2, blsOf_c3, blsOf_c4, blsOf_c5, blsOf_c6, blsOf_c7, blsOf_c8, ixN_30, ixN_31, ixN_32, wipeD, if_true, if_false, Bool.false_eq_true, Bool.true_eq_false, true_and, and_true, ρAdd_int, ρAdd_str, ρAdd_tup, ρAdd_lst, ρAdd_rl, ρI_int, ρI0_int, ρMul_int, ρMul_str, ρNeg_int, ρCmp_int, ρCmp_str, ρIsN_eq, ρNotN_eq, isNonD_bl, isNonD_int, isNonD_str, isNonD_tup, isNonD_lst, isNonD_ref, isNonD_non, ρSgn_one, ρAbs_int, ρMax_two, ρMin_two, ρMax_lst, ρMin_lst, ρInt_int, ρInt_bl, ρStr_int, ρLen_str, ρLen_tup, ρLen_lst, ρLen_ref, ρSum_lst, ρAll_lst, ρAny_lst, ρTupO_tup, ρTupO_lst, ρIsi_eq, is_non_int, is_non_bool, is_non_str, is_non_tuple, is_non_list, is_bl_int, is_bl_bool, is_bl_str, is_bl_tuple, is_bl_list, is_int_int, is_int_bool, is_int_str, is_int_tuple, is_int_list, is_str_int, is_str_bool, is_str_str, is_str_tuple, is_str_list, is_tup_int, is_tup_bool, is_tup_str, is_tup_tuple, is_tup_list, is_lst_int, is_lst_bool, is_lst_str, is_lst_tuple, is_lst_list, tyN_non, tyN_bl, tyN_int, tyN_str, tyN_tup, tyN_lst, ρIx_tup, ρIx_lst, ρIx_str, ρIx_ref, ρSl_str, ρSl_lst, ρSl_tup, ρApp_ref, θLst_ref, θStr_str, ςLst_ref, ρJoin_lst, γTup_tup, atI_0, atI_1, atI_2, atI_3, atI_4, atI_5, atI_6, atI_7, c_WIDTHS, sp_is_in_eq, sp_is_tuple_eq, sp_demand_eq, sp_is_bits_eq, sp_number_of_eq, sp_bits_of_eq, sp_least_of_eq, sp_code_of_eq, sp_code_eq, sp_is_code_eq, sp_decoded_of_eq, sp_decoded_eq, sp_worst_error_eq, sp_as_bits_eq, sp_of_bits_eq, sp__law_dice_eq, sp__law_roll_eq, sp__law_pick_eq, sp__law_steps_eq, sp__law_step_of_eq, sp__law_right_eq, tset_del hL, worst_ok hA]
  refine hZ _ _ ?_
  clear hZ Z hL L
  refine dSeq_step fun Z hZ => ?_
  refine if_two (fun hc => ?_) (hZ _ _ ?_)
  · simp only [dVar, dC, dOp, dUn, dTest_eq, dAnd, dOr, dNot, dAndV_eq, dOrV_eq, dNotV_eq, dIf, dChain_eq, dNil, dCons, dTup, dLst, dLstM, dCB, dBM, dNoPart, dPart_eq, dSl, dCall, dCallK, dNext, dBrk, dCnt, dSeq, dDrop, dRet, dRetN, dIfS, γName, γNil, γCons, γSub, dAsg, dPar, dAug, ιSeq_eq, ιRng1_eq, ιRng2_eq, dFor, dLc, dLcM, dYes, dT, dTold, onBl_eq, onInt_eq, onSeq_lst, onSeq_tup, onSeq_str, onSome_eq, lstAt_same, dRaise, startD, List.map_cons, List.map_nil, List.length_cons, List.length_nil, List.replicate_succ, List.replicate_zero, List.cons_append, List.nil_append, List.append_nil, List.getElem?_cons_zero, List.getElem?_cons_succ, List.set_cons_zero, List.set_cons_succ, Nat.reduceAdd, Nat.reduceSub, Nat.zero_add, Nat.sub_self, ρEq_int, ρEq_str, ρEq_bl, ρNe_int, ρNe_str, ρNe_bl, ρEq_t3, ρNe_t3, ρEq_t2, ρNe_t2, intsOf_mapf, strsOf_mapf, blsOf_mapf, gK_01_0, gK_02_01, gK_02_10, gK_03_012, gK_03_021, gK_03_102, gK_03_120, gK_03_201, gK_03_210, gK_11_0, gK_12_01, gK_12_10, gK_13_012, gK_13_021, gK_13_102, gK_13_120, gK_13_201, gK_13_210, eq_self, Bool.not_true, Bool.not_false, decide_true, decide_false, strsOf_c0, strsOf_c1, strsOf_c2, strsOf_c3, strsOf_c4, strsOf_c5, strsOf_c6, strsOf_c7, strsOf_c8, intsOf_c0, intsOf_c1, intsOf_c2, intsOf_c3, intsOf_c4, intsOf_c5, intsOf_c6, intsOf_c7, intsOf_c8, blsOf_c0, blsOf_c1, blsOf_c2, blsOf_c3, blsOf_c4, blsOf_c5, blsOf_c6, blsOf_c7, blsOf_c8, ixN_30, ixN_31, ixN_32, wipeD, if_true, if_false, Bool.false_eq_true, Bool.true_eq_false, true_and, and_true, ρAdd_int, ρAdd_str, ρAdd_tup, ρAdd_lst, ρAdd_rl, ρI_int, ρI0_int, ρMul_int, ρMul_str, ρNeg_int, ρCmp_int, ρCmp_str, ρIsN_eq, ρNotN_eq, isNonD_bl, isNonD_int, isNonD_str, isNonD_tup, isNonD_lst, isNonD_ref, isNonD_non, ρSgn_one, ρAbs_int, ρMax_two, ρMin_two, ρMax_lst, ρMin_lst, ρInt_int, ρInt_bl, ρStr_int, ρLen_str, ρLen_tup, ρLen_lst, ρLen_ref, ρSum_lst, ρAll_lst, ρAny_lst, ρTupO_tup, ρTupO_lst, ρIsi_eq, is_non_int, is_non_bool, is_non_str, is_non_tuple, is_non_list, is_bl_int, is_bl_bool, is_bl_str, is_bl_tuple, is_bl_list, is_int_int, is_int_bool, is_int_str, is_int_tuple, is_int_list, is_str_int, is_str_bool, is_str_str, is_str_tuple, is_str_list, is_tup_int, is_tup_bool, is_tup_str, is_tup_tuple, is_tup_list, is_lst_int, is_lst_bool, is_lst_str, is_lst_tuple, is_lst_list, tyN_non, tyN_bl, tyN_int, tyN_str, tyN_tup, tyN_lst, ρIx_tup, ρIx_lst, ρIx_str, ρIx_ref, ρSl_str, ρSl_lst, ρSl_tup, ρApp_ref, θLst_ref, θStr_str, ςLst_ref, ρJoin_lst, γTup_tup, atI_0, atI_1, atI_2, atI_3, atI_4, atI_5, atI_6, atI_7, c_WIDTHS, sp_is_in_eq, sp_is_tuple_eq, sp_demand_eq, sp_is_bits_eq, sp_number_of_eq, sp_bits_of_eq, sp_least_of_eq, sp_code_of_eq, sp_code_eq, sp_is_code_eq, sp_decoded_of_eq, sp_decoded_eq, sp_worst_error_eq, sp_as_bits_eq, sp_of_bits_eq, sp__law_dice_eq, sp__law_roll_eq, sp__law_pick_eq, sp__law_steps_eq, sp__law_step_of_eq, sp__law_right_eq, c7, c8, not_rfl]
    exact hc
  clear hZ Z
  -- bad
  refine dSeq_step fun Z hZ => ?_
  simp only [dVar, dC, dOp, dUn, dTest_eq, dAnd, dOr, dNot, dAndV_eq, dOrV_eq, dNotV_eq, dIf, dChain_eq, dNil, dCons, dTup, dLst, dLstM, dCB, dBM, dNoPart, dPart_eq, dSl, dCall, dCallK, dNext, dBrk, dCnt, dSeq, dDrop, dRet, dRetN, dIfS, γName, γNil, γCons, γSub, dAsg, dPar, dAug, ιSeq_eq, ιRng1_eq, ιRng2_eq, dFor, dLc, dLcM, dYes, dT, dTold, onBl_eq, onInt_eq, onSeq_lst, onSeq_tup, onSeq_str, onSome_eq, lstAt_same, dRaise, startD, List.map_cons, List.map_nil, List.length_cons, List.length_nil, List.replicate_succ, List.replicate_zero, List.cons_append, List.nil_append, List.append_nil, List.getElem?_cons_zero, List.getElem?_cons_succ, List.set_cons_zero, List.set_cons_succ, Nat.reduceAdd, Nat.reduceSub, Nat.zero_add, Nat.sub_self, ρEq_int, ρEq_str, ρEq_bl, ρNe_int, ρNe_str, ρNe_bl, ρEq_t3, ρNe_t3, ρEq_t2, ρNe_t2, intsOf_mapf, strsOf_mapf, blsOf_mapf, gK_01_0, gK_02_01, gK_02_10, gK_03_012, gK_03_021, gK_03_102, gK_03_120, gK_03_201, gK_03_210, gK_11_0, gK_12_01, gK_12_10, gK_13_012, gK_13_021, gK_13_102, gK_13_120, gK_13_201, gK_13_210, eq_self, Bool.not_true, Bool.not_false, decide_true, decide_false, strsOf_c0, strsOf_c1, strsOf_c2, strsOf_c3, strsOf_c4, strsOf_c5, strsOf_c6, strsOf_c7, strsOf_c8, intsOf_c0, intsOf_c1, intsOf_c2, intsOf_c3, intsOf_c4, intsOf_c5, intsOf_c6, intsOf_c7, intsOf_c8, blsOf_c0, blsOf_c1, blsOf_c2, blsOf_c3, blsOf_c4, blsOf_c5, blsOf_c6, blsOf_c7, blsOf_c8, ixN_30, ixN_31, ixN_32, wipeD, if_true, if_false, Bool.false_eq_true, Bool.true_eq_false, true_and, and_true, ρAdd_int, ρAdd_str, ρAdd_tup, ρAdd_lst, ρAdd_rl, ρI_int, ρI0_int, ρMul_int, ρMul_str, ρNeg_int, ρCmp_int, ρCmp_str, ρIsN_eq, ρNotN_eq, isNonD_bl, isNonD_int, isNonD_str, isNonD_tup, isNonD_lst, isNonD_ref, isNonD_non, ρSgn_one, ρAbs_int, ρMax_two, ρMin_two, ρMax_lst, ρMin_lst, ρInt_int, ρInt_bl, ρStr_int, ρLen_str, ρLen_tup, ρLen_lst, ρLen_ref, ρSum_lst, ρAll_lst, ρAny_lst, ρTupO_tup, ρTupO_lst, ρIsi_eq, is_non_int, is_non_bool, is_non_str, is_non_tuple, is_non_list, is_bl_int, is_bl_bool, is_bl_str, is_bl_tuple, is_bl_list, is_int_int, is_int_bool, is_int_str, is_int_tuple, is_int_list, is_str_int, is_str_bool, is_str_str, is_str_tuple, is_str_list, is_tup_int, is_tup_bool, is_tup_str, is_tup_tuple, is_tup_list, is_lst_int, is_lst_bool, is_lst_str, is_lst_tuple, is_lst_list, tyN_non, tyN_bl, tyN_int, tyN_str, tyN_tup, tyN_lst, ρIx_tup, ρIx_lst, ρIx_str, ρIx_ref, ρSl_str, ρSl_lst, ρSl_tup, ρApp_ref, θLst_ref, θStr_str, ςLst_ref, ρJoin_lst, γTup_tup, atI_0, atI_1, atI_2, atI_3, atI_4, atI_5, atI_6, atI_7, c_WIDTHS, sp_is_in_eq, sp_is_tuple_eq, sp_demand_eq, sp_is_bits_eq, sp_number_of_eq, sp_bits_of_eq, sp_least_of_eq, sp_code_of_eq, sp_code_eq, sp_is_code_eq, sp_decoded_of_eq, sp_decoded_eq, sp_worst_error_eq, sp_as_bits_eq, sp_of_bits_eq, sp__law_dice_eq, sp__law_roll_eq, sp__law_pick_eq, sp__law_steps_eq, sp__law_step_of_eq, sp__law_right_eq]
  refine ⟨szn, szn, szn, szn, szn, szn, szn, 5, ys, rfl, hy, by decide, ⟨by simp [seqOf], by simp [seqOf]⟩, fun ys d hy hd => hZ _ _ ?_⟩
  clear hZ Z
  obtain ⟨o1, o2⟩ := bad_ok d hd
  clear hd
  simp only [tset_tset]
  refine dSeq_step fun Z hZ => ?_
  simp only [dVar, dC, dOp, dUn, dTest_eq, dAnd, dOr, dNot, dAndV_eq, dOrV_eq, dNotV_eq, dIf, dChain_eq, dNil, dCons, dTup, dLst, dLstM, dCB, dBM, dNoPart, dPart_eq, dSl, dCall, dCallK, dNext, dBrk, dCnt, dSeq, dDrop, dRet, dRetN, dIfS, γName, γNil, γCons, γSub, dAsg, dPar, dAug, ιSeq_eq, ιRng1_eq, ιRng2_eq, dFor, dLc, dLcM, dYes, dT, dTold, onBl_eq, onInt_eq, onSeq_lst, onSeq_tup, onSeq_str, onSome_eq, lstAt_same, dRaise, startD, List.map_cons, List.map_nil, List.length_cons, List.length_nil, List.replicate_succ, List.replicate_zero, List.cons_append, List.nil_append, List.append_nil, List.getElem?_cons_zero, List.getElem?_cons_succ, List.set_cons_zero, List.set_cons_succ, Nat.reduceAdd, Nat.reduceSub, Nat.zero_add, Nat.sub_self, ρEq_int, ρEq_str, ρEq_bl, ρNe_int, ρNe_str, ρNe_bl, ρEq_t3, ρNe_t3, ρEq_t2, ρNe_t2, intsOf_mapf, strsOf_mapf, blsOf_mapf, gK_01_0, gK_02_01, gK_02_10, gK_03_012, gK_03_021, gK_03_102, gK_03_120, gK_03_201, gK_03_210, gK_11_0, gK_12_01, gK_12_10, gK_13_012, gK_13_021, gK_13_102, gK_13_120, gK_13_201, gK_13_210, eq_self, Bool.not_true, Bool.not_false, decide_true, decide_false, strsOf_c0, strsOf_c1, strsOf_c2, strsOf_c3, strsOf_c4, strsOf_c5, strsOf_c6, strsOf_c7, strsOf_c8, intsOf_c0, intsOf_c1, intsOf_c2, intsOf_c3, intsOf_c4, intsOf_c5, intsOf_c6, intsOf_c7, intsOf_c8, blsOf_c0, blsOf_c1, blsOf_c2, blsOf_c3, blsOf_c4, blsOf_c5, blsOf_c6, blsOf_c7, blsOf_c8, ixN_30, ixN_31, ixN_32, wipeD, if_true, if_false, Bool.false_eq_true, Bool.true_eq_false, true_and, and_true, ρAdd_int, ρAdd_str, ρAdd_tup, ρAdd_lst, ρAdd_rl, ρI_int, ρI0_int, ρMul_int, ρMul_str, ρNeg_int, ρCmp_int, ρCmp_str, ρIsN_eq, ρNotN_eq, isNonD_bl, isNonD_int, isNonD_str, isNonD_tup, isNonD_lst, isNonD_ref, isNonD_non, ρSgn_one, ρAbs_int, ρMax_two, ρMin_two, ρMax_lst, ρMin_lst, ρInt_int, ρInt_bl, ρStr_int, ρLen_str, ρLen_tup, ρLen_lst, ρLen_ref, ρSum_lst, ρAll_lst, ρAny_lst, ρTupO_tup, ρTupO_lst, ρIsi_eq, is_non_int, is_non_bool, is_non_str, is_non_tuple, is_non_list, is_bl_int, is_bl_bool, is_bl_str, is_bl_tuple, is_bl_list, is_int_int, is_int_bool, is_int_str, is_int_tuple, is_int_list, is_str_int, is_str_bool, is_str_str, is_str_tuple, is_str_list, is_tup_int, is_tup_bool, is_tup_str, is_tup_tuple, is_tup_list, is_lst_int, is_lst_bool, is_lst_str, is_lst_tuple, is_lst_list, tyN_non, tyN_bl, tyN_int, tyN_str, tyN_tup, tyN_lst, ρIx_tup, ρIx_lst, ρIx_str, ρIx_ref, ρSl_str, ρSl_lst, ρSl_tup, ρApp_ref, θLst_ref, θStr_str, ςLst_ref, ρJoin_lst, γTup_tup, atI_0, atI_1, atI_2, atI_3, atI_4, atI_5, atI_6, atI_7, c_WIDTHS, sp_is_in_eq, sp_is_tuple_eq, sp_demand_eq, sp_is_bits_eq, sp_number_of_eq, sp_bits_of_eq, sp_least_of_eq, sp_code_of_eq, sp_code_eq, sp_is_code_eq, sp_decoded_of_eq, sp_decoded_eq, sp_worst_error_eq, sp_as_bits_eq, sp_of_bits_eq, sp__law_dice_eq, sp__law_roll_eq, sp__law_pick_eq, sp__law_steps_eq, sp__law_step_of_eq, sp__law_right_eq, o1, o2, tset_tset]
  refine ⟨szn, 6, ys, rfl, hy, by decide, ⟨by simp [seqOf], by simp [seqOf]⟩, fun ys d1 hy hd1 => ?_⟩
  obtain ⟨p1, p2⟩ := bad1_ok d1 hd1
  clear hd1
  simp only [dVar, dC, dOp, dUn, dTest_eq, dAnd, dOr, dNot, dAndV_eq, dOrV_eq, dNotV_eq, dIf, dChain_eq, dNil, dCons, dTup, dLst, dLstM, dCB, dBM, dNoPart, dPart_eq, dSl, dCall, dCallK, dNext, dBrk, dCnt, dSeq, dDrop, dRet, dRetN, dIfS, γName, γNil, γCons, γSub, dAsg, dPar, dAug, ιSeq_eq, ιRng1_eq, ιRng2_eq, dFor, dLc, dLcM, dYes, dT, dTold, onBl_eq, onInt_eq, onSeq_lst, onSeq_tup, onSeq_str, onSome_eq, lstAt_same, dRaise, startD, List.map_cons, List.map_nil, List.length_cons, List.length_nil, List.replicate_succ, List.replicate_zero, List.cons_append, List.nil_append, List.append_nil, List.getElem?_cons_zero, List.getElem?_cons_succ, List.set_cons_zero, List.set_cons_succ, Nat.reduceAdd, Nat.reduceSub, Nat.zero_add, Nat.sub_self, ρEq_int, ρEq_str, ρEq_bl, ρNe_int, ρNe_str, ρNe_bl, ρEq_t3, ρNe_t3, ρEq_t2, ρNe_t2, intsOf_mapf, strsOf_mapf, blsOf_mapf, gK_01_0, gK_02_01, gK_02_10, gK_03_012, gK_03_021, gK_03_102, gK_03_120, gK_03_201, gK_03_210, gK_11_0, gK_12_01, gK_12_10, gK_13_012, gK_13_021, gK_13_102, gK_13_120, gK_13_201, gK_13_210, eq_self, Bool.not_true, Bool.not_false, decide_true, decide_false, strsOf_c0, strsOf_c1, strsOf_c2, strsOf_c3, strsOf_c4, strsOf_c5, strsOf_c6, strsOf_c7, strsOf_c8, intsOf_c0, intsOf_c1, intsOf_c2, intsOf_c3, intsOf_c4, intsOf_c5, intsOf_c6, intsOf_c7, intsOf_c8, blsOf_c0, blsOf_c1, blsOf_c2, blsOf_c3, blsOf_c4, blsOf_c5, blsOf_c6, blsOf_c7, blsOf_c8, ixN_30, ixN_31, ixN_32, wipeD, if_true, if_false, Bool.false_eq_true, Bool.true_eq_false, true_and, and_true, ρAdd_int, ρAdd_str, ρAdd_tup, ρAdd_lst, ρAdd_rl, ρI_int, ρI0_int, ρMul_int, ρMul_str, ρNeg_int, ρCmp_int, ρCmp_str, ρIsN_eq, ρNotN_eq, isNonD_bl, isNonD_int, isNonD_str, isNonD_tup, isNonD_lst, isNonD_ref, isNonD_non, ρSgn_one, ρAbs_int, ρMax_two, ρMin_two, ρMax_lst, ρMin_lst, ρInt_int, ρInt_bl, ρStr_int, ρLen_str, ρLen_tup, ρLen_lst, ρLen_ref, ρSum_lst, ρAll_lst, ρAny_lst, ρTupO_tup, ρTupO_lst, ρIsi_eq, is_non_int, is_non_bool, is_non_str, is_non_tuple, is_non_list, is_bl_int, is_bl_bool, is_bl_str, is_bl_tuple, is_bl_list, is_int_int, is_int_bool, is_int_str, is_int_tuple, is_int_list, is_str_int, is_str_bool, is_str_str, is_str_tuple, is_str_list, is_tup_int, is_tup_bool, is_tup_str, is_tup_tuple, is_tup_list, is_lst_int, is_lst_bool, is_lst_str, is_lst_tuple, is_lst_list, tyN_non, tyN_bl, tyN_int, tyN_str, tyN_tup, tyN_lst, ρIx_tup, ρIx_lst, ρIx_str, ρIx_ref, ρSl_str, ρSl_lst, ρSl_tup, ρApp_ref, θLst_ref, θStr_str, ςLst_ref, ρJoin_lst, γTup_tup, atI_0, atI_1, atI_2, atI_3, atI_4, atI_5, atI_6, atI_7, c_WIDTHS, sp_is_in_eq, sp_is_tuple_eq, sp_demand_eq, sp_is_bits_eq, sp_number_of_eq, sp_bits_of_eq, sp_least_of_eq, sp_code_of_eq, sp_code_eq, sp_is_code_eq, sp_decoded_of_eq, sp_decoded_eq, sp_worst_error_eq, sp_as_bits_eq, sp_of_bits_eq, sp__law_dice_eq, sp__law_roll_eq, sp__law_pick_eq, sp__law_steps_eq, sp__law_step_of_eq, sp__law_right_eq, o1, o2, p1, p2, tset_tset]
  trace_state
  refine ⟨szn, 7, ys, rfl, hy, by decide, ⟨by simp [seqOf], by simp [seqOf]⟩, fun ys d3 hy hd3 => ?_⟩
  obtain ⟨q1, q2⟩ := bad3_ok d3 hd3
  clear hd3
  simp only [dVar, dC, dOp, dUn, dTest_eq, dAnd, dOr, dNot, dAndV_eq, dOrV_eq, dNotV_eq, dIf, dChain_eq, dNil, dCons, dTup, dLst, dLstM, dCB, dBM, dNoPart, dPart_eq, dSl, dCall, dCallK, dNext, dBrk, dCnt, dSeq, dDrop, dRet, dRetN, dIfS, γName, γNil, γCons, γSub, dAsg, dPar, dAug, ιSeq_eq, ιRng1_eq, ιRng2_eq, dFor, dLc, dLcM, dYes, dT, dTold, onBl_eq, onInt_eq, onSeq_lst, onSeq_tup, onSeq_str, onSome_eq, lstAt_same, dRaise, startD, List.map_cons, List.map_nil, List.length_cons, List.length_nil, List.replicate_succ, List.replicate_zero, List.cons_append, List.nil_append, List.append_nil, List.getElem?_cons_zero, List.getElem?_cons_succ, List.set_cons_zero, List.set_cons_succ, Nat.reduceAdd, Nat.reduceSub, Nat.zero_add, Nat.sub_self, ρEq_int, ρEq_str, ρEq_bl, ρNe_int, ρNe_str, ρNe_bl, ρEq_t3, ρNe_t3, ρEq_t2, ρNe_t2, intsOf_mapf, strsOf_mapf, blsOf_mapf, gK_01_0, gK_02_01, gK_02_10, gK_03_012, gK_03_021, gK_03_102, gK_03_120, gK_03_201, gK_03_210, gK_11_0, gK_12_01, gK_12_10, gK_13_012, gK_13_021, gK_13_102, gK_13_120, gK_13_201, gK_13_210, eq_self, Bool.not_true, Bool.not_false, decide_true, decide_false, strsOf_c0, strsOf_c1, strsOf_c2, strsOf_c3, strsOf_c4, strsOf_c5, strsOf_c6, strsOf_c7, strsOf_c8, intsOf_c0, intsOf_c1, intsOf_c2, intsOf_c3, intsOf_c4, intsOf_c5, intsOf_c6, intsOf_c7, intsOf_c8, blsOf_c0, blsOf_c1, blsOf_c2, blsOf_c3, blsOf_c4, blsOf_c5, blsOf_c6, blsOf_c7, blsOf_c8, ixN_30, ixN_31, ixN_32, wipeD, if_true, if_false, Bool.false_eq_true, Bool.true_eq_false, true_and, and_true, ρAdd_int, ρAdd_str, ρAdd_tup, ρAdd_lst, ρAdd_rl, ρI_int, ρI0_int, ρMul_int, ρMul_str, ρNeg_int, ρCmp_int, ρCmp_str, ρIsN_eq, ρNotN_eq, isNonD_bl, isNonD_int, isNonD_str, isNonD_tup, isNonD_lst, isNonD_ref, isNonD_non, ρSgn_one, ρAbs_int, ρMax_two, ρMin_two, ρMax_lst, ρMin_lst, ρInt_int, ρInt_bl, ρStr_int, ρLen_str, ρLen_tup, ρLen_lst, ρLen_ref, ρSum_lst, ρAll_lst, ρAny_lst, ρTupO_tup, ρTupO_lst, ρIsi_eq, is_non_int, is_non_bool, is_non_str, is_non_tuple, is_non_list, is_bl_int, is_bl_bool, is_bl_str, is_bl_tuple, is_bl_list, is_int_int, is_int_bool, is_int_str, is_int_tuple, is_int_list, is_str_int, is_str_bool, is_str_str, is_str_tuple, is_str_list, is_tup_int, is_tup_bool, is_tup_str, is_tup_tuple, is_tup_list, is_lst_int, is_lst_bool, is_lst_str, is_lst_tuple, is_lst_list, tyN_non, tyN_bl, tyN_int, tyN_str, tyN_tup, tyN_lst, ρIx_tup, ρIx_lst, ρIx_str, ρIx_ref, ρSl_str, ρSl_lst, ρSl_tup, ρApp_ref, θLst_ref, θStr_str, ςLst_ref, ρJoin_lst, γTup_tup, atI_0, atI_1, atI_2, atI_3, atI_4, atI_5, atI_6, atI_7, c_WIDTHS, sp_is_in_eq, sp_is_tuple_eq, sp_demand_eq, sp_is_bits_eq, sp_number_of_eq, sp_bits_of_eq, sp_least_of_eq, sp_code_of_eq, sp_code_eq, sp_is_code_eq, sp_decoded_of_eq, sp_decoded_eq, sp_worst_error_eq, sp_as_bits_eq, sp_of_bits_eq, sp__law_dice_eq, sp__law_roll_eq, sp__law_pick_eq, sp__law_steps_eq, sp__law_step_of_eq, sp__law_right_eq, o1, o2, q1, q2, tset_tset]
  refine ⟨szn, hZ _ _ ?_⟩
  clear hZ Z
  simp only [dVar, dC, dOp, dUn, dTest_eq, dAnd, dOr, dNot, dAndV_eq, dOrV_eq, dNotV_eq, dIf, dChain_eq, dNil, dCons, dTup, dLst, dLstM, dCB, dBM, dNoPart, dPart_eq, dSl, dCall, dCallK, dNext, dBrk, dCnt, dSeq, dDrop, dRet, dRetN, dIfS, γName, γNil, γCons, γSub, dAsg, dPar, dAug, ιSeq_eq, ιRng1_eq, ιRng2_eq, dFor, dLc, dLcM, dYes, dT, dTold, onBl_eq, onInt_eq, onSeq_lst, onSeq_tup, onSeq_str, onSome_eq, lstAt_same, dRaise, startD, List.map_cons, List.map_nil, List.length_cons, List.length_nil, List.replicate_succ, List.replicate_zero, List.cons_append, List.nil_append, List.append_nil, List.getElem?_cons_zero, List.getElem?_cons_succ, List.set_cons_zero, List.set_cons_succ, Nat.reduceAdd, Nat.reduceSub, Nat.zero_add, Nat.sub_self, ρEq_int, ρEq_str, ρEq_bl, ρNe_int, ρNe_str, ρNe_bl, ρEq_t3, ρNe_t3, ρEq_t2, ρNe_t2, intsOf_mapf, strsOf_mapf, blsOf_mapf, gK_01_0, gK_02_01, gK_02_10, gK_03_012, gK_03_021, gK_03_102, gK_03_120, gK_03_201, gK_03_210, gK_11_0, gK_12_01, gK_12_10, gK_13_012, gK_13_021, gK_13_102, gK_13_120, gK_13_201, gK_13_210, eq_self, Bool.not_true, Bool.not_false, decide_true, decide_false, strsOf_c0, strsOf_c1, strsOf_c2, strsOf_c3, strsOf_c4, strsOf_c5, strsOf_c6, strsOf_c7, strsOf_c8, intsOf_c0, intsOf_c1, intsOf_c2, intsOf_c3, intsOf_c4, intsOf_c5, intsOf_c6, intsOf_c7, intsOf_c8, blsOf_c0, blsOf_c1, blsOf_c2, blsOf_c3, blsOf_c4, blsOf_c5, blsOf_c6, blsOf_c7, blsOf_c8, ixN_30, ixN_31, ixN_32, wipeD, if_true, if_false, Bool.false_eq_true, Bool.true_eq_false, true_and, and_true, ρAdd_int, ρAdd_str, ρAdd_tup, ρAdd_lst, ρAdd_rl, ρI_int, ρI0_int, ρMul_int, ρMul_str, ρNeg_int, ρCmp_int, ρCmp_str, ρIsN_eq, ρNotN_eq, isNonD_bl, isNonD_int, isNonD_str, isNonD_tup, isNonD_lst, isNonD_ref, isNonD_non, ρSgn_one, ρAbs_int, ρMax_two, ρMin_two, ρMax_lst, ρMin_lst, ρInt_int, ρInt_bl, ρStr_int, ρLen_str, ρLen_tup, ρLen_lst, ρLen_ref, ρSum_lst, ρAll_lst, ρAny_lst, ρTupO_tup, ρTupO_lst, ρIsi_eq, is_non_int, is_non_bool, is_non_str, is_non_tuple, is_non_list, is_bl_int, is_bl_bool, is_bl_str, is_bl_tuple, is_bl_list, is_int_int, is_int_bool, is_int_str, is_int_tuple, is_int_list, is_str_int, is_str_bool, is_str_str, is_str_tuple, is_str_list, is_tup_int, is_tup_bool, is_tup_str, is_tup_tuple, is_tup_list, is_lst_int, is_lst_bool, is_lst_str, is_lst_tuple, is_lst_list, tyN_non, tyN_bl, tyN_int, tyN_str, tyN_tup, tyN_lst, ρIx_tup, ρIx_lst, ρIx_str, ρIx_ref, ρSl_str, ρSl_lst, ρSl_tup, ρApp_ref, θLst_ref, θStr_str, ςLst_ref, ρJoin_lst, γTup_tup, atI_0, atI_1, atI_2, atI_3, atI_4, atI_5, atI_6, atI_7, c_WIDTHS, sp_is_in_eq, sp_is_tuple_eq, sp_demand_eq, sp_is_bits_eq, sp_number_of_eq, sp_bits_of_eq, sp_least_of_eq, sp_code_of_eq, sp_code_eq, sp_is_code_eq, sp_decoded_of_eq, sp_decoded_eq, sp_worst_error_eq, sp_as_bits_eq, sp_of_bits_eq, sp__law_dice_eq, sp__law_roll_eq, sp__law_pick_eq, sp__law_steps_eq, sp__law_step_of_eq, sp__law_right_eq, tset_tset]
  refine ⟨⟨by decide, by decide, by decide⟩, ⟨by decide, by decide, by decide⟩, szn, 8, ys, rfl, hy, by decide, ⟨by simp [seqOf], by simp [seqOf]⟩, fun ys d5 hy hd5 => ?_⟩
  obtain ⟨r1, r2⟩ := bad5_ok d5 hd5
  clear hd5
  simp only [dVar, dC, dOp, dUn, dTest_eq, dAnd, dOr, dNot, dAndV_eq, dOrV_eq, dNotV_eq, dIf, dChain_eq, dNil, dCons, dTup, dLst, dLstM, dCB, dBM, dNoPart, dPart_eq, dSl, dCall, dCallK, dNext, dBrk, dCnt, dSeq, dDrop, dRet, dRetN, dIfS, γName, γNil, γCons, γSub, dAsg, dPar, dAug, ιSeq_eq, ιRng1_eq, ιRng2_eq, dFor, dLc, dLcM, dYes, dT, dTold, onBl_eq, onInt_eq, onSeq_lst, onSeq_tup, onSeq_str, onSome_eq, lstAt_same, dRaise, startD, List.map_cons, List.map_nil, List.length_cons, List.length_nil, List.replicate_succ, List.replicate_zero, List.cons_append, List.nil_append, List.append_nil, List.getElem?_cons_zero, List.getElem?_cons_succ, List.set_cons_zero, List.set_cons_succ, Nat.reduceAdd, Nat.reduceSub, Nat.zero_add, Nat.sub_self, ρEq_int, ρEq_str, ρEq_bl, ρNe_int, ρNe_str, ρNe_bl, ρEq_t3, ρNe_t3, ρEq_t2, ρNe_t2, intsOf_mapf, strsOf_mapf, blsOf_mapf, gK_01_0, gK_02_01, gK_02_10, gK_03_012, gK_03_021, gK_03_102, gK_03_120, gK_03_201, gK_03_210, gK_11_0, gK_12_01, gK_12_10, gK_13_012, gK_13_021, gK_13_102, gK_13_120, gK_13_201, gK_13_210, eq_self, Bool.not_true, Bool.not_false, decide_true, decide_false, strsOf_c0, strsOf_c1, strsOf_c2, strsOf_c3, strsOf_c4, strsOf_c5, strsOf_c6, strsOf_c7, strsOf_c8, intsOf_c0, intsOf_c1, intsOf_c2, intsOf_c3, intsOf_c4, intsOf_c5, intsOf_c6, intsOf_c7, intsOf_c8, blsOf_c0, blsOf_c1, blsOf_c2, blsOf_c3, blsOf_c4, blsOf_c5, blsOf_c6, blsOf_c7, blsOf_c8, ixN_30, ixN_31, ixN_32, wipeD, if_true, if_false, Bool.false_eq_true, Bool.true_eq_false, true_and, and_true, ρAdd_int, ρAdd_str, ρAdd_tup, ρAdd_lst, ρAdd_rl, ρI_int, ρI0_int, ρMul_int, ρMul_str, ρNeg_int, ρCmp_int, ρCmp_str, ρIsN_eq, ρNotN_eq, isNonD_bl, isNonD_int, isNonD_str, isNonD_tup, isNonD_lst, isNonD_ref, isNonD_non, ρSgn_one, ρAbs_int, ρMax_two, ρMin_two, ρMax_lst, ρMin_lst, ρInt_int, ρInt_bl, ρStr_int, ρLen_str, ρLen_tup, ρLen_lst, ρLen_ref, ρSum_lst, ρAll_lst, ρAny_lst, ρTupO_tup, ρTupO_lst, ρIsi_eq, is_non_int, is_non_bool, is_non_str, is_non_tuple, is_non_list, is_bl_int, is_bl_bool, is_bl_str, is_bl_tuple, is_bl_list, is_int_int, is_int_bool, is_int_str, is_int_tuple, is_int_list, is_str_int, is_str_bool, is_str_str, is_str_tuple, is_str_list, is_tup_int, is_tup_bool, is_tup_str, is_tup_tuple, is_tup_list, is_lst_int, is_lst_bool, is_lst_str, is_lst_tuple, is_lst_list, tyN_non, tyN_bl, tyN_int, tyN_str, tyN_tup, tyN_lst, ρIx_tup, ρIx_lst, ρIx_str, ρIx_ref, ρSl_str, ρSl_lst, ρSl_tup, ρApp_ref, θLst_ref, θStr_str, ςLst_ref, ρJoin_lst, γTup_tup, atI_0, atI_1, atI_2, atI_3, atI_4, atI_5, atI_6, atI_7, c_WIDTHS, sp_is_in_eq, sp_is_tuple_eq, sp_demand_eq, sp_is_bits_eq, sp_number_of_eq, sp_bits_of_eq, sp_least_of_eq, sp_code_of_eq, sp_code_eq, sp_is_code_eq, sp_decoded_of_eq, sp_decoded_eq, sp_worst_error_eq, sp_as_bits_eq, sp_of_bits_eq, sp__law_dice_eq, sp__law_roll_eq, sp__law_pick_eq, sp__law_steps_eq, sp__law_step_of_eq, sp__law_right_eq, r1, r2, tset_tset]
  refine ⟨szn, szn, szn, ?_⟩
  refine eqA_ls (is := ["sample", "code", "segment", "code", "bits"]) (js := ["sample", "code", "segment", "code", "bits"]) (by decide +kernel) (by decide +kernel) ?_
  rw [decide_eq_true rfl]
  exact Fin.same (hk ys)
end
end LW

set_option Elab.async false
set_option linter.all false
set_option maxRecDepth 100000
set_option maxHeartbeats 0
namespace LW
open PySem PySem.Spec PyProof.Rows L2 DL DX
section
variable {w : World} {K : PySem.W.Frag} {mg : Str → Option Value} {base : Heap}
/-! ### law -/
theorem sc_law : FnScope ["script", "spot"] ["script"] (defScope s_law) := ⟨rfl, rfl, rfl, by decide +kernel, rfl, by decide +kernel, by decide +kernel⟩
theorem bn_law (M : Mod K mg) : L2.Binds K M.f_law.choose ["script"] [] := fun_binds M.f_law.choose_spec fun _ _ _ _ _ _ us hl => match us, hl with | [_], _ => rfl
theorem law_a : codeD (.int (-1)) = .tup [.int 1, .int 0, .int 0] ∧ codeD (.int 0) = .tup [.int 0, .int 0, .int 0] ∧ codeD (.int 4095) = .tup [.int 0, .int 7, .int 15] := ⟨rfl, rfl, rfl⟩
theorem law_b : decD (.tup [.int 1, .int 0, .int 0]) = .int (-1) ∧ decD (.tup [.int 0, .int 0, .int 0]) = .int 1 := ⟨rfl, rfl⟩
theorem law_c : isInD (.int (-1)) (-4095) 4095 = true ∧ isInD (.int 0) (-4095) 4095 = true ∧ isInD (.int 4095) (-4095) 4095 = true := by decide
theorem law_d : isCodeD (.tup [.int 1, .int 0, .int 0]) = true ∧ isCodeD (.tup [.int 0, .int 0, .int 0]) = true := by decide
def sp_law : SpD := fun τ ds k KE => match ds with
  | [.lst ns] => ∃ zs : List Int, ns = zs.map D.int ∧ zs.length ≤ 63 ∧ ∀ τ', k τ' (.bl true)
  | _ => False
theorem sp_law_eq {τ : TD} {k : DK} {KE : XD} {ns : List D} : sp_law τ [.lst ns] k KE = (∃ zs : List Int, ns = zs.map D.int ∧ zs.length ≤ 63 ∧ ∀ τ', k τ' (.bl true)) := rfl
theorem ok_law (M : Mod K mg) (TB : LamX.TabB base mg (He.cT K ("_law_right", none)).1 (He.cT K ("_law_right", none)).2) : FnD prog w K mg base (TT K) 8 (He.fAd K ("law", none)) M.f_law.choose ["script"] sp_law := by
  refine fnD_of M.f_law.choose_spec sc_law fun KE => ⟨_, fun cdv A outer s H E hr => (pdss_cons (pds_for ownD rfl (pdi_range1 rfl M.b_range (pda_cons (pd_callB (cr_maxU rfl) ok_max rfl M.b_max boot_max (pda_cons pd_int (pda_cons (pd_callB (cr_minU rfl) ok_min rfl M.b_min boot_min (pda_cons pd_int (pda_cons (pd_callB cr_len ok_len rfl M.b_len boot_len (pda_cons (pd_var (pv 0)) pda_nil)) pda_nil))) pda_nil))) pda_nil)) (pdg_name (i := 1) sc_law.nd rfl (by first | exact .inl rfl | exact .inr rfl)) (pdss_one (pds_if (pdt_not (pdt_val (pd_call (ok__law_right M TB) (hr.mono (by decide)) rfl M.g__law_right M.f__law_right.choose_spec.kp (bn__law_right M) .nil .nil passD (pda_cons (pd_call (ok__law_dice M) (hr.mono (by decide)) rfl M.g__law_dice M.f__law_dice.choose_spec.kp (bn__law_dice M) .nil .nil passD (pda_cons (pd_var (pv 0)) (pda_cons (pd_var (pv 1)) pda_nil))) pda_nil)))) (pdss_one (pds_ret pd_bl)) pdss_nil))) (pdss_one (pds_ret (pd_and (pd_cmp (op_eqU (room_eq hr)) ok_eq (pd_call (ok_decoded M) (hr.mono (by decide)) rfl M.g_decoded M.f_decoded.choose_spec.kp (bn_decoded M) .nil .nil passD (pda_cons (pd_call (ok_code M) (hr.mono (by decide)) rfl M.g_code M.f_code.choose_spec.kp (bn_code M) .nil .nil passD (pda_cons (pd_un un_neg ok_neg pd_int) pda_nil)) pda_nil)) (pd_un un_neg ok_neg pd_int) (nomark _)) (pd_and (pd_cmp (op_eqU (room_eq hr)) ok_eq (pd_call (ok_decoded M) (hr.mono (by decide)) rfl M.g_decoded M.f_decoded.choose_spec.kp (bn_decoded M) .nil .nil passD (pda_cons (pd_call (ok_code M) (hr.mono (by decide)) rfl M.g_code M.f_code.choose_spec.kp (bn_code M) .nil .nil passD (pda_cons pd_int pda_nil)) pda_nil)) pd_int (nomark _)) (pd_one (pd_cmp (op_eqU (room_eq hr)) ok_eq (pd_call (ok_code M) (hr.mono (by decide)) rfl M.g_code M.f_code.choose_spec.kp (bn_code M) .nil .nil passD (pda_cons pd_int pda_nil)) (pd_tup (pda_cons pd_int (pda_cons pd_int (pda_cons pd_int pda_nil)))) (nomark _)))))))), ?_⟩
  intro τ ds k hl h
  unfold sp_law at h
  split at h
  case h_2 => exact h.elim
  rename_i ns
  obtain ⟨zs, rfl, hz, hk⟩ := h
  refine dSeq_step fun Z hZ => ?_
  simp only [dVar, dC, dOp, dUn, dTest_eq, dAnd, dOr, dNot, dAndV_eq, dOrV_eq, dNotV_eq, dIf, dChain_eq, dNil, dCons, dTup, dLst, dLstM, dCB, dBM, dNoPart, dPart_eq, dSl, dCall, dCallK, dNext, dBrk, dCnt, dSeq, dDrop, dRet, dRetN, dIfS, γName, γNil, γCons, γSub, dAsg, dPar, dAug, ιSeq_eq, ιRng1_eq, ιRng2_eq, dFor, dLc, dLcM, dYes, dT, dTold, onBl_eq, onInt_eq, onSeq_lst, onSeq_tup, onSeq_str, onSome_eq, lstAt_same, dRaise, startD, List.map_cons, List.map_nil, List.length_cons, List.length_nil, List.replicate_succ, List.replicate_zero, List.cons_append, List.nil_append, List.append_nil, List.getElem?_cons_zero, List.getElem?_cons_succ, List.set_cons_zero, List.set_cons_succ, Nat.reduceAdd, Nat.reduceSub, Nat.zero_add, Nat.sub_self, ρEq_int, ρEq_str, ρEq_bl, ρNe_int, ρNe_str, ρNe_bl, ρEq_t3, ρNe_t3, ρEq_t2, ρNe_t2, intsOf_mapf, strsOf_mapf, blsOf_mapf, gK_01_0, gK_02_01, gK_02_10, gK_03_012, gK_03_021, gK_03_102, gK_03_120, gK_03_201, gK_03_210, gK_11_0, gK_12_01, gK_12_10, gK_13_012, gK_13_021, gK_13_102, gK_13_120, gK_13_201, gK_13_210, eq_self, Bool.not_true, Bool.not_false, decide_true, decide_false, strsOf_c0, strsOf_c1, strsOf_c2, strsOf_c3, strsOf_c4, strsOf_c5, strsOf_c6, strsOf_c7, strsOf_c8, intsOf_c0, intsOf_c1, intsOf_c2, intsOf_c3, intsOf_c4, intsOf_c5, intsOf_c6, intsOf_c7, intsOf_c8, blsOf_c0, blsOf_c1, blsOf_c2, blsOf_c3, blsOf_c4, blsOf_c5, blsOf_c6, blsOf_c7, blsOf_c8, ixN_30, ixN_31, ixN_32, wipeD, if_true, if_false, Bool.false_eq_true, Bool.true_eq_false, true_and, and_true, ρAdd_int, ρAdd_str, ρAdd_tup, ρAdd_lst, ρAdd_rl, ρI_int, ρI0_int, ρMul_int, ρMul_str, ρNeg_int, ρCmp_int, ρCmp_str, ρIsN_eq, ρNotN_eq, isNonD_bl, isNonD_int, isNonD_str, isNonD_tup, isNonD_lst, isNonD_ref, isNonD_non, ρSgn_one, ρAbs_int, ρMax_two, ρMin_two, ρMax_lst, ρMin_lst, ρInt_int, ρInt_bl, ρStr_int, ρLen_str, ρLen_tup, ρLen_lst, ρLen_ref, ρSum_lst, ρAll_lst, ρAny_lst, ρTupO_tup, ρTupO_lst, ρIsi_eq, is_non_int, is_non_bool, is_non_str, is_non_tuple, is_non_list, is_bl_int, is_bl_bool, is_bl_str, is_bl_tuple, is_bl_list, is_int_int, is_int_bool, is_int_str, is_int_tuple, is_int_list, is_str_int, is_str_bool, is_str_str, is_str_tuple, is_str_list, is_tup_int, is_tup_bool, is_tup_str, is_tup_tuple, is_tup_list, is_lst_int, is_lst_bool, is_lst_str, is_lst_tuple, is_lst_list, tyN_non, tyN_bl, tyN_int, tyN_str, tyN_tup, tyN_lst, ρIx_tup, ρIx_lst, ρIx_str, ρIx_ref, ρSl_str, ρSl_lst, ρSl_tup, ρApp_ref, θLst_ref, θStr_str, ςLst_ref, ρJoin_lst, γTup_tup, atI_0, atI_1, atI_2, atI_3, atI_4, atI_5, atI_6, atI_7, c_WIDTHS, sp_is_in_eq, sp_is_tuple_eq, sp_demand_eq, sp_is_bits_eq, sp_number_of_eq, sp_bits_of_eq, sp_least_of_eq, sp_code_of_eq, sp_code_eq, sp_is_code_eq, sp_decoded_of_eq, sp_decoded_eq, sp_worst_error_eq, sp_as_bits_eq, sp_of_bits_eq, sp__law_dice_eq, sp__law_roll_eq, sp__law_pick_eq, sp__law_steps_eq, sp__law_step_of_eq, sp__law_right_eq, sp_law_eq, List.length_map]
  refine ⟨⟨by omega, by omega⟩, ?_⟩
  refine loop_st (α := Nat) (g := fun (i : Nat) => .int (0 + (i : Int))) (s0 := ()) (fun _ τ' ds => ∃ x, ds = [some (.lst (zs.map D.int)), x]) (fun _ _ => ()) _ (fun c hc _ τ' ds hI G hG => ?_) ⟨none, rfl⟩ (fun τ' ds hI => ?_)
  · obtain ⟨x, rfl⟩ := hI
    have hc : c < 1000 := by
      have := List.mem_range.mp hc
      omega
    simp only [dVar, dC, dOp, dUn, dTest_eq, dAnd, dOr, dNot, dAndV_eq, dOrV_eq, dNotV_eq, dIf, dChain_eq, dNil, dCons, dTup, dLst, dLstM, dCB, dBM, dNoPart, dPart_eq, dSl, dCall, dCallK, dNext, dBrk, dCnt, dSeq, dDrop, dRet, dRetN, dIfS, γName, γNil, γCons, γSub, dAsg, dPar, dAug, ιSeq_eq, ιRng1_eq, ιRng2_eq, dFor, dLc, dLcM, dYes, dT, dTold, onBl_eq, onInt_eq, onSeq_lst, onSeq_tup, onSeq_str, onSome_eq, lstAt_same, dRaise, startD, List.map_cons, List.map_nil, List.length_cons, List.length_nil, List.replicate_succ, List.replicate_zero, List.cons_append, List.nil_append, List.append_nil, List.getElem?_cons_zero, List.getElem?_cons_succ, List.set_cons_zero, List.set_cons_succ, Nat.reduceAdd, Nat.reduceSub, Nat.zero_add, Nat.sub_self, ρEq_int, ρEq_str, ρEq_bl, ρNe_int, ρNe_str, ρNe_bl, ρEq_t3, ρNe_t3, ρEq_t2, ρNe_t2, intsOf_mapf, strsOf_mapf, blsOf_mapf, gK_01_0, gK_02_01, gK_02_10, gK_03_012, gK_03_021, gK_03_102, gK_03_120, gK_03_201, gK_03_210, gK_11_0, gK_12_01, gK_12_10, gK_13_012, gK_13_021, gK_13_102, gK_13_120, gK_13_201, gK_13_210, eq_self, Bool.not_true, Bool.not_false, decide_true, decide_false, strsOf_c0, strsOf_c1, strsOf_c2, strsOf_c3, strsOf_c4, strsOf_c5, strsOf_c6, strsOf_c7, strsOf_c8, intsOf_c0, intsOf_c1, intsOf_c2, intsOf_c3, intsOf_c4, intsOf_c5, intsOf_c6, intsOf_c7, intsOf_c8, blsOf_c0, blsOf_c1, blsOf_c2, blsOf_c3, blsOf_c4, blsOf_c5, blsOf_c6, blsOf_c7, blsOf_c8, ixN_30, ixN_31, ixN_32, wipeD, if_true, if_false, Bool.false_eq_true, Bool.true_eq_false, true_and, and_true, ρAdd_int, ρAdd_str, ρAdd_tup, ρAdd_lst, ρAdd_rl, ρI_int, ρI0_int, ρMul_int, ρMul_str, ρNeg_int, ρCmp_int, ρCmp_str, ρIsN_eq, ρNotN_eq, isNonD_bl, isNonD_int, isNonD_str, isNonD_tup, isNonD_lst, isNonD_ref, isNonD_non, ρSgn_one, ρAbs_int, ρMax_two, ρMin_two, ρMax_lst, ρMin_lst, ρInt_int, ρInt_bl, ρStr_int, ρLen_str, ρLen_tup, ρLen_lst, ρLen_ref, ρSum_lst, ρAll_lst, ρAny_lst, ρTupO_tup, ρTupO_lst, ρIsi_eq, is_non_int, is_non_bool, is_non_str, is_non_tuple, is_non_list, is_bl_int, is_bl_bool, is_bl_str, is_bl_tuple, is_bl_list, is_int_int, is_int_bool, is_int_str, is_int_tuple, is_int_list, is_str_int, is_str_bool, is_str_str, is_str_tuple, is_str_list, is_tup_int, is_tup_bool, is_tup_str, is_tup_tuple, is_tup_list, is_lst_int, is_lst_bool, is_lst_str, is_lst_tuple, is_lst_list, tyN_non, tyN_bl, tyN_int, tyN_str, tyN_tup, tyN_lst, ρIx_tup, ρIx_lst, ρIx_str, ρIx_ref, ρSl_str, ρSl_lst, ρSl_tup, ρApp_ref, θLst_ref, θStr_str, ςLst_ref, ρJoin_lst, γTup_tup, atI_0, atI_1, atI_2, atI_3, atI_4, atI_5, atI_6, atI_7, c_WIDTHS, sp_is_in_eq, sp_is_tuple_eq, sp_demand_eq, sp_is_bits_eq, sp_number_of_eq, sp_bits_of_eq, sp_least_of_eq, sp_code_of_eq, sp_code_eq, sp_is_code_eq, sp_decoded_of_eq, sp_decoded_eq, sp_worst_error_eq, sp_as_bits_eq, sp_of_bits_eq, sp__law_dice_eq, sp__law_roll_eq, sp__law_pick_eq, sp__law_steps_eq, sp__law_step_of_eq, sp__law_right_eq, sp_law_eq]
    refine ⟨zs, rfl, hz, by omega, by omega, fun p xs hx hp => ?_⟩
    exact ⟨xs, rfl, hx, fun ys => hG _ _ ⟨_, rfl⟩⟩
  · obtain ⟨x, rfl⟩ := hI
    refine hZ _ _ ?_
    simp only [dVar, dC, dOp, dUn, dTest_eq, dAnd, dOr, dNot, dAndV_eq, dOrV_eq, dNotV_eq, dIf, dChain_eq, dNil, dCons, dTup, dLst, dLstM, dCB, dBM, dNoPart, dPart_eq, dSl, dCall, dCallK, dNext, dBrk, dCnt, dSeq, dDrop, dRet, dRetN, dIfS, γName, γNil, γCons, γSub, dAsg, dPar, dAug, ιSeq_eq, ιRng1_eq, ιRng2_eq, dFor, dLc, dLcM, dYes, dT, dTold, onBl_eq, onInt_eq, onSeq_lst, onSeq_tup, onSeq_str, onSome_eq, lstAt_same, dRaise, startD, List.map_cons, List.map_nil, List.length_cons, List.length_nil, List.replicate_succ, List.replicate_zero, List.cons_append, List.nil_append, List.append_nil, List.getElem?_cons_zero, List.getElem?_cons_succ, List.set_cons_zero, List.set_cons_succ, Nat.reduceAdd, Nat.reduceSub, Nat.zero_add, Nat.sub_self, ρEq_int, ρEq_str, ρEq_bl, ρNe_int, ρNe_str, ρNe_bl, ρEq_t3, ρNe_t3, ρEq_t2, ρNe_t2, intsOf_mapf, strsOf_mapf, blsOf_mapf, gK_01_0, gK_02_01, gK_02_10, gK_03_012, gK_03_021, gK_03_102, gK_03_120, gK_03_201, gK_03_210, gK_11_0, gK_12_01, gK_12_10, gK_13_012, gK_13_021, gK_13_102, gK_13_120, gK_13_201, gK_13_210, eq_self, Bool.not_true, Bool.not_false, decide_true, decide_false, strsOf_c0, strsOf_c1, strsOf_c2, strsOf_c3, strsOf_c4, strsOf_c5, strsOf_c6, strsOf_c7, strsOf_c8, intsOf_c0, intsOf_c1, intsOf_c2, intsOf_c3, intsOf_c4, intsOf_c5, intsOf_c6, intsOf_c7, intsOf_c8, blsOf_c0, blsOf_c1, blsOf_c2, blsOf_c3, blsOf_c4, blsOf_c5, blsOf_c6, blsOf_c7, blsOf_c8, ixN_30, ixN_31, ixN_32, wipeD, if_true, if_false, Bool.false_eq_true, Bool.true_eq_false, true_and, and_true, ρAdd_int, ρAdd_str, ρAdd_tup, ρAdd_lst, ρAdd_rl, ρI_int, ρI0_int, ρMul_int, ρMul_str, ρNeg_int, ρCmp_int, ρCmp_str, ρIsN_eq, ρNotN_eq, isNonD_bl, isNonD_int, isNonD_str, isNonD_tup, isNonD_lst, isNonD_ref, isNonD_non, ρSgn_one, ρAbs_int, ρMax_two, ρMin_two, ρMax_lst, ρMin_lst, ρInt_int, ρInt_bl, ρStr_int, ρLen_str, ρLen_tup, ρLen_lst, ρLen_ref, ρSum_lst, ρAll_lst, ρAny_lst, ρTupO_tup, ρTupO_lst, ρIsi_eq, is_non_int, is_non_bool, is_non_str, is_non_tuple, is_non_list, is_bl_int, is_bl_bool, is_bl_str, is_bl_tuple, is_bl_list, is_int_int, is_int_bool, is_int_str, is_int_tuple, is_int_list, is_str_int, is_str_bool, is_str_str, is_str_tuple, is_str_list, is_tup_int, is_tup_bool, is_tup_str, is_tup_tuple, is_tup_list, is_lst_int, is_lst_bool, is_lst_str, is_lst_tuple, is_lst_list, tyN_non, tyN_bl, tyN_int, tyN_str, tyN_tup, tyN_lst, ρIx_tup, ρIx_lst, ρIx_str, ρIx_ref, ρSl_str, ρSl_lst, ρSl_tup, ρApp_ref, θLst_ref, θStr_str, ςLst_ref, ρJoin_lst, γTup_tup, atI_0, atI_1, atI_2, atI_3, atI_4, atI_5, atI_6, atI_7, c_WIDTHS, sp_is_in_eq, sp_is_tuple_eq, sp_demand_eq, sp_is_bits_eq, sp_number_of_eq, sp_bits_of_eq, sp_least_of_eq, sp_code_of_eq, sp_code_eq, sp_is_code_eq, sp_decoded_of_eq, sp_decoded_eq, sp_worst_error_eq, sp_as_bits_eq, sp_of_bits_eq, sp__law_dice_eq, sp__law_roll_eq, sp__law_pick_eq, sp__law_steps_eq, sp__law_step_of_eq, sp__law_right_eq, sp_law_eq, law_a, law_b, law_c, law_d, okC_i]
    exact ⟨szn, Fin.same (hk _)⟩
end
def d_is_in : He.DefD := ⟨("is_in", none), "is_in", "is_in", defArgs s_is_in, defBody s_is_in, defScope s_is_in, [], []⟩
def d_is_tuple : He.DefD := ⟨("is_tuple", none), "is_tuple", "is_tuple", defArgs s_is_tuple, defBody s_is_tuple, defScope s_is_tuple, [], []⟩
def d_demand : He.DefD := ⟨("demand", none), "demand", "demand", defArgs s_demand, defBody s_demand, defScope s_demand, [], []⟩
def d_is_bits : He.DefD := ⟨("is_bits", none), "is_bits", "is_bits", defArgs s_is_bits, defBody s_is_bits, defScope s_is_bits, [], []⟩
def d_number_of : He.DefD := ⟨("number_of", none), "number_of", "number_of", defArgs s_number_of, defBody s_number_of, defScope s_number_of, [], []⟩
def d_bits_of : He.DefD := ⟨("bits_of", none), "bits_of", "bits_of", defArgs s_bits_of, defBody s_bits_of, defScope s_bits_of, [], []⟩
def d_least_of : He.DefD := ⟨("least_of", none), "least_of", "least_of", defArgs s_least_of, defBody s_least_of, defScope s_least_of, [], []⟩
def d_code_of : He.DefD := ⟨("code_of", none), "code_of", "code_of", defArgs s_code_of, defBody s_code_of, defScope s_code_of, [], []⟩
def d_code : He.DefD := ⟨("code", none), "code", "code", defArgs s_code, defBody s_code, defScope s_code, [], []⟩
def d_is_code : He.DefD := ⟨("is_code", none), "is_code", "is_code", defArgs s_is_code, defBody s_is_code, defScope s_is_code, [], []⟩
def d_decoded_of : He.DefD := ⟨("decoded_of", none), "decoded_of", "decoded_of", defArgs s_decoded_of, defBody s_decoded_of, defScope s_decoded_of, [], []⟩
def d_decoded : He.DefD := ⟨("decoded", none), "decoded", "decoded", defArgs s_decoded, defBody s_decoded, defScope s_decoded, [], []⟩
def d_worst_error : He.DefD := ⟨("worst_error", none), "worst_error", "worst_error", defArgs s_worst_error, defBody s_worst_error, defScope s_worst_error, [], []⟩
def d_as_bits : He.DefD := ⟨("as_bits", none), "as_bits", "as_bits", defArgs s_as_bits, defBody s_as_bits, defScope s_as_bits, [], []⟩
def d_of_bits : He.DefD := ⟨("of_bits", none), "of_bits", "of_bits", defArgs s_of_bits, defBody s_of_bits, defScope s_of_bits, [], []⟩
def d__law_dice : He.DefD := ⟨("_law_dice", none), "_law_dice", "_law_dice", defArgs s__law_dice, defBody s__law_dice, defScope s__law_dice, [], []⟩
def d__law_roll : He.DefD := ⟨("_law_roll", none), "_law_roll", "_law_roll", defArgs s__law_roll, defBody s__law_roll, defScope s__law_roll, [], []⟩
def d__law_pick : He.DefD := ⟨("_law_pick", none), "_law_pick", "_law_pick", defArgs s__law_pick, defBody s__law_pick, defScope s__law_pick, [], []⟩
def d__law_refused : He.DefD := ⟨("_law_refused", none), "_law_refused", "_law_refused", defArgs s__law_refused, defBody s__law_refused, defScope s__law_refused, [], []⟩
def d__law_steps : He.DefD := ⟨("_law_steps", none), "_law_steps", "_law_steps", defArgs s__law_steps, defBody s__law_steps, defScope s__law_steps, [], []⟩
def d__law_step_of : He.DefD := ⟨("_law_step_of", none), "_law_step_of", "_law_step_of", defArgs s__law_step_of, defBody s__law_step_of, defScope s__law_step_of, [], []⟩
def d__law_right : He.DefD := ⟨("_law_right", none), "_law_right", "_law_right", defArgs s__law_right, defBody s__law_right, defScope s__law_right, [], []⟩
def d_law : He.DefD := ⟨("law", none), "law", "law", defArgs s_law, defBody s_law, defScope s_law, [], []⟩
def fn : List He.DefD := [d_is_in, d_is_tuple, d_demand, d_is_bits, d_number_of, d_bits_of, d_least_of, d_code_of, d_code, d_is_code, d_decoded_of, d_decoded, d_worst_error, d_as_bits, d_of_bits, d__law_dice, d__law_roll, d__law_pick, d__law_refused, d__law_steps, d__law_step_of, d__law_right, d_law]
def fa : List He.Fa := [.glo "RingError", .glo "BadArgument", .glo "is_in", .glo "is_tuple", .glo "demand", .glo "is_bits", .glo "number_of", .glo "bits_of", .glo "least_of", .glo "code_of", .glo "code", .glo "is_code", .glo "decoded_of", .glo "decoded", .glo "worst_error", .glo "as_bits", .glo "of_bits", .glo "_law_dice", .glo "_law_roll", .glo "_law_pick", .glo "_law_refused", .glo "_law_steps", .glo "_law_step_of", .glo "_law_right", .glo "law", .int "MOST_SAMPLE" (4095), .int "MOST_SEGMENT" (7), .int "MOST_STEP" (15), .int "STEPS" (16), .glo "WIDTHS", .free "abs", .free "all", .free "bool", .free "int", .free "isinstance", .free "len", .free "max", .free "min", .free "range", .free "str", .free "super", .free "tuple"]
def er_BadArgument : DErr := ⟨"BadArgument", "name", (clsInit (top 2)).map fun q => (q.1, "BadArgument.__init__", q.2.1, .stmts q.2.2.1, q.2.2.2, mainGlobals, ["__class__"], builtinsNs)⟩
def es : List DErr := [er_BadArgument]
def tf : List He.Defn := [("_law_right", none)]
def ex (K : PySem.W.Frag) : Bool := (He.tupB K "WIDTHS" [.int 2, .int 2, .int 4, .int 8, .int 16, .int 32, .int 64, .int 128] && (errB K "BadArgument" "name" prog.main.file && true))
def names : List PySem.Str := ["RingError", "BadArgument", "is_in", "is_tuple", "demand", "is_bits", "number_of", "bits_of", "MOST_SAMPLE", "MOST_SEGMENT", "MOST_STEP", "STEPS", "WIDTHS", "least_of", "code_of", "code", "is_code", "decoded_of", "decoded", "worst_error", "as_bits", "of_bits", "_law_dice", "_law_roll", "_law_pick", "_law_refused", "_law_steps", "_law_step_of", "_law_right"]
abbrev R : PySem.W.OpenRow := PySem.W.OpenLaw.row PySem.Challenge.rw_ringthrough_k41_whole_companding
abbrev hk : PySem.W.Hook := hookY 6 fa fn es tf ex
def ob (s : PySem.W.SharedT) : AlY := obsY 6 fa fn es tf ex (HandSHeadRun.getT s)
theorem ob_eq (s : PySem.W.SharedT) : ob s = hk.obs s.abs := obsY_eq (HandSHeadRun.getT_eq s)
theorem run (w : World) : HandSHeadRun.RunEq R (PySem.W.view R.prog [34]) hk ob 6000 names w := by
  intro os
  kernel_rfl
section
variable {K : PySem.W.Frag} {h : Heap} {mg : Str → Option Value}
theorem init_BadArgument (c : SaysY fa fn es tf ex h K) : initW K "BadArgument" = er_BadArgument.val := c.init 0 (e := er_BadArgument) rfl
theorem mod_of (X : K.In h) (G : h.Ns mainGlobals mg) (c : SaysY fa fn es tf ex h K) : Mod K mg := by
  have hx := c.more
  unfold ex at hx
  obtain ⟨x0, hx⟩ := He.ba hx
  obtain ⟨x1, hx⟩ := He.ba hx
  exact ⟨(c.d.def_ 0 (d := d_is_in) rfl).elim fun fd F => ⟨fd, fun_of F⟩,
    He.glo_ok X G (c.d.fact 2 (f := .glo "is_in") rfl),
    (c.d.def_ 1 (d := d_is_tuple) rfl).elim fun fd F => ⟨fd, fun_of F⟩,
    He.glo_ok X G (c.d.fact 3 (f := .glo "is_tuple") rfl),
    (c.d.def_ 2 (d := d_demand) rfl).elim fun fd F => ⟨fd, fun_of F⟩,
    He.glo_ok X G (c.d.fact 4 (f := .glo "demand") rfl),
    (c.d.def_ 3 (d := d_is_bits) rfl).elim fun fd F => ⟨fd, fun_of F⟩,
    He.glo_ok X G (c.d.fact 5 (f := .glo "is_bits") rfl),
    (c.d.def_ 4 (d := d_number_of) rfl).elim fun fd F => ⟨fd, fun_of F⟩,
    He.glo_ok X G (c.d.fact 6 (f := .glo "number_of") rfl),
    (c.d.def_ 5 (d := d_bits_of) rfl).elim fun fd F => ⟨fd, fun_of F⟩,
    He.glo_ok X G (c.d.fact 7 (f := .glo "bits_of") rfl),
    (c.d.def_ 6 (d := d_least_of) rfl).elim fun fd F => ⟨fd, fun_of F⟩,
    He.glo_ok X G (c.d.fact 8 (f := .glo "least_of") rfl),
    (c.d.def_ 7 (d := d_code_of) rfl).elim fun fd F => ⟨fd, fun_of F⟩,
    He.glo_ok X G (c.d.fact 9 (f := .glo "code_of") rfl),
    (c.d.def_ 8 (d := d_code) rfl).elim fun fd F => ⟨fd, fun_of F⟩,
    He.glo_ok X G (c.d.fact 10 (f := .glo "code") rfl),
    (c.d.def_ 9 (d := d_is_code) rfl).elim fun fd F => ⟨fd, fun_of F⟩,
    He.glo_ok X G (c.d.fact 11 (f := .glo "is_code") rfl),
    (c.d.def_ 10 (d := d_decoded_of) rfl).elim fun fd F => ⟨fd, fun_of F⟩,
    He.glo_ok X G (c.d.fact 12 (f := .glo "decoded_of") rfl),
    (c.d.def_ 11 (d := d_decoded) rfl).elim fun fd F => ⟨fd, fun_of F⟩,
    He.glo_ok X G (c.d.fact 13 (f := .glo "decoded") rfl),
    (c.d.def_ 12 (d := d_worst_error) rfl).elim fun fd F => ⟨fd, fun_of F⟩,
    He.glo_ok X G (c.d.fact 14 (f := .glo "worst_error") rfl),
    (c.d.def_ 13 (d := d_as_bits) rfl).elim fun fd F => ⟨fd, fun_of F⟩,
    He.glo_ok X G (c.d.fact 15 (f := .glo "as_bits") rfl),
    (c.d.def_ 14 (d := d_of_bits) rfl).elim fun fd F => ⟨fd, fun_of F⟩,
    He.glo_ok X G (c.d.fact 16 (f := .glo "of_bits") rfl),
    (c.d.def_ 15 (d := d__law_dice) rfl).elim fun fd F => ⟨fd, fun_of F⟩,
    He.glo_ok X G (c.d.fact 17 (f := .glo "_law_dice") rfl),
    (c.d.def_ 16 (d := d__law_roll) rfl).elim fun fd F => ⟨fd, fun_of F⟩,
    He.glo_ok X G (c.d.fact 18 (f := .glo "_law_roll") rfl),
    (c.d.def_ 17 (d := d__law_pick) rfl).elim fun fd F => ⟨fd, fun_of F⟩,
    He.glo_ok X G (c.d.fact 19 (f := .glo "_law_pick") rfl),
    (c.d.def_ 18 (d := d__law_refused) rfl).elim fun fd F => ⟨fd, fun_of F⟩,
    He.glo_ok X G (c.d.fact 20 (f := .glo "_law_refused") rfl),
    (c.d.def_ 19 (d := d__law_steps) rfl).elim fun fd F => ⟨fd, fun_of F⟩,
    He.glo_ok X G (c.d.fact 21 (f := .glo "_law_steps") rfl),
    (c.d.def_ 20 (d := d__law_step_of) rfl).elim fun fd F => ⟨fd, fun_of F⟩,
    He.glo_ok X G (c.d.fact 22 (f := .glo "_law_step_of") rfl),
    (c.d.def_ 21 (d := d__law_right) rfl).elim fun fd F => ⟨fd, fun_of F⟩,
    He.glo_ok X G (c.d.fact 23 (f := .glo "_law_right") rfl),
    (c.d.def_ 22 (d := d_law) rfl).elim fun fd F => ⟨fd, fun_of F⟩,
    He.glo_ok X G (c.d.fact 24 (f := .glo "law") rfl),
    He.free_ok X G (c.d.fact 30 (f := .free "abs") rfl),
    He.free_ok X G (c.d.fact 31 (f := .free "all") rfl),
    He.free_ok X G (c.d.fact 32 (f := .free "bool") rfl),
    He.free_ok X G (c.d.fact 33 (f := .free "int") rfl),
    He.free_ok X G (c.d.fact 34 (f := .free "isinstance") rfl),
    He.free_ok X G (c.d.fact 35 (f := .free "len") rfl),
    He.free_ok X G (c.d.fact 36 (f := .free "max") rfl),
    He.free_ok X G (c.d.fact 37 (f := .free "min") rfl),
    He.free_ok X G (c.d.fact 38 (f := .free "range") rfl),
    He.free_ok X G (c.d.fact 39 (f := .free "str") rfl),
    He.free_ok X G (c.d.fact 40 (f := .free "super") rfl),
    He.free_ok X G (c.d.fact 41 (f := .free "tuple") rfl),
    He.int_ok X G (c.d.fact 25 (f := .int "MOST_SAMPLE" (4095)) rfl),
    He.int_ok X G (c.d.fact 26 (f := .int "MOST_SEGMENT" (7)) rfl),
    He.int_ok X G (c.d.fact 27 (f := .int "MOST_STEP" (15)) rfl),
    He.int_ok X G (c.d.fact 28 (f := .int "STEPS" (16)) rfl),
    He.glo_ok X G (c.d.fact 29 (f := .glo "WIDTHS") rfl),
    fun H => He.tupB_ok x0 H,
    errTxt_of X G (init_BadArgument c) x1 (c.d.fact 1 (f := .glo "BadArgument") rfl) (c.d.fact 40 (f := .free "super") rfl) (by decide +kernel) ⟨fun env => L2.plainOf _ env, fun env => rfl⟩,
    xfc_of x1⟩
end
theorem at_law {w : World} {mg : Str → Option Value} {fa : Addr} {h : Heap} {K : PySem.W.Frag} (X : K.In h) (G : h.Ns mainGlobals mg) (c : SaysY LW.fa fn es tf ex h K) (hm : mg "law" = some (.ref fa)) : LamX.LawAtS PySem.Challenge.rw_ringthrough_k41_whole_companding w K (L2.CX prog w) 8 63 "script" mg fa h := by
  have M := mod_of X G c
  have e := hm.symm.trans M.g_law
  cases e
  refine ⟨M.f_law.choose, [He.cT K ("_law_right", none)], spOf K (TT K) 1 sp_law, fun p hp => ?_, fun p hp => ?_, fun p hp => ?_, fun s u => ?_, fun H a ns hl hb hT hS => ?_, fun base kb gb hB => ?_⟩
  · rw [List.mem_singleton.mp hp]; exact c.empty _ List.mem_cons_self
  · rw [List.mem_singleton.mp hp]; exact c.out _ List.mem_cons_self
  · rw [List.mem_singleton.mp hp]; exact PySem.W.codeHd_of_K X (c.hd _ List.mem_cons_self)
  · obtain ⟨oc, od, kV, doc, pm, an, cdv, ct, osl, e, lk, hcd⟩ := M.f_law.choose_spec.ex
    rw [e]
    exact BindsTo.of_eq rfl
  · refine ⟨fun _ => none, [.lst (ns.map D.int)], fun _ d => d = .bl true, X0, ⟨fun a o z => (nomatch z), fun p hp => ?_⟩, ?_, rfl, ?_, fun _ _ _ _ _ _ _ _ _ _ _ z => z.elim, fun v τ' H' d _ _ r e => ?_⟩
    · rw [List.mem_singleton.mp hp]
      exact LamX.TabS.nil (hT _ List.mem_cons_self)
    · refine ⟨.ref a, [], rfl, ⟨a, ns.map V.int, rfl, ?_, ?_⟩, rfl⟩
      · rcases hS with z | z
        · exact .inl ⟨z, rfl⟩
        · exact .inr (.inr z)
      · clear hl hb hS
        induction ns with
        | nil => rfl
        | cons n ns ih => exact ⟨_, _, rfl, rfl, ih⟩
    · exact ⟨ns, rfl, hl, fun _ => rfl⟩
    · subst e
      exact r
  · exact ok_law M (hB _ List.mem_cons_self)
end LW
open PySem PySem.W PySem.Calls PyProof.Rows
theorem PySem.Challenge.cw_ringthrough_k41_whole_companding_holds : PySem.Challenge.rw_ringthrough_k41_whole_companding.Holds := by
  w_on; o_law
  refine HandSHeadRun.head_any (r := OpenLaw.row PySem.Challenge.rw_ringthrough_k41_whole_companding) (q := view (OpenLaw.row PySem.Challenge.rw_ringthrough_k41_whole_companding).prog [34]) (H := LW.hk) (ob := LW.ob) (M := 6000) (loose := LW.names) (d := HandSHeadRun.topDef (OpenLaw.row PySem.Challenge.rw_ringthrough_k41_whole_companding).prog 34) (kwd := []) LW.ob_eq
    (by kernel_rfl) (fun s => by kernel_rfl) LW.run (by kernel_rfl) (by kernel_rfl) (by kernel_rfl) (by rfl) (by first | assumption | decide +kernel) (by decide +kernel) ⟨rfl, rfl, rfl, rfl, rfl, by decide +kernel⟩ ?hw ?hc
  case hw => w_witness2
  case hc =>
    refine LamX.walk_ofTsE (l := PySem.Challenge.rw_ringthrough_k41_whole_companding) (n := 63) (k := 8) (x := "script") (CX := fun w => L2.CX LW.prog w) rfl (by decide) (by kernel_rfl) ⟨rfl, by decide, by decide⟩ ?F (fun w H s e s' hx => by
      obtain ⟨_, _, _, _, _, _, _, _, _, _, _, _, z⟩ := hx
      exact z.elim)
    intro w mg fa h Y G hmg0
    obtain ⟨K, KX, c⟩ := Y
    have hmg : mg ("law" : PySem.Str) = some (.ref fa) := by
      have e : (HandSHeadRun.topDef (OpenLaw.row PySem.Challenge.rw_ringthrough_k41_whole_companding).prog 34).name = ("law" : PySem.Str) := by kernel_rfl
      rw [← e]
      exact hmg0
    exact ⟨K, KX, LW.at_law KX G c hmg⟩

