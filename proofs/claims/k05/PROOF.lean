import PyProof.Rows.All
import Wide.All
import OpenK.AllK
import Wide.FinOn
import HandS.ForMost
import HandS.ForExc
import HandS.Lambda
import HandS.Walk
import HandS.IsInst
import HandS.ExcField
import HandS.ExcInit
import HandS.StrMore
import HandS.Defaults
import HandS.Zip
import HandS.Flow
import HandS.TupAny
import HandS.TupLe
import KE.KExcSuper
import HandS.Head0
import HandS.Head1
import HandS.Head2
import HandS.HeadHook1
import HandS.HeadHook2
import HandS.HeadHook3
import HandS.HeadHook4
import HandS.HeadWalk
import HandS.EndTab
import HandS.SetFor
import HandS.Style
import HandS.Conv
import HandS.TupSets
import HandS.TupMul
import KE.GoesEnum
import HandS.Iter
import HandS.Dict
import HandS.WordsDict
import HandS.Deep
import KE.SortData
import HandS.DictTup
import HandS.OwnEq
import PyProof.InstEq
import KE.DataMinMax
import KE.KDictCopyH
import HandS.Star
import HandS.More
import KE.DataFind
import KE.KExcIs
import PySem.Challenge.RW_ringthrough_k05_whole_fabrics_step_by_st
set_option Elab.async false
set_option linter.all false
set_option maxRecDepth 100000
set_option maxHeartbeats 1000000
/-! The data layer, 1: values with their contents, mutable objects apart; readings over them. -/
namespace DL
open PySem PySem.Spec PyProof.Rows L2
/-- a value with what is in it; ref a: the mutable object at a -/
inductive D where
  | non | bl (b : Bool) | int (i : Int) | str (s : Str) | tup (xs : List D) | lst (xs : List D) | ref (a : Addr) | ty (n : String)
  deriving Inhabited
/-- a mutable object's content -/
inductive DO where
  | lst (xs : List D) | dK (kvs : List (Key × D)) | ins (C : Addr) (fs : List (Str × D))
  | dT (kvs : List (List Key × D)) | lK (kvs : List (Key × D)) | lT (kvs : List (List Key × D))
/-- the mutable objects -/
abbrev TD := Addr → Option DO
def tset (τ : TD) (a : Addr) (o : DO) : TD := fun b => if b = a then some o else τ b
def tdel (τ : TD) (a : Addr) : TD := fun b => if b = a then none else τ b
theorem tset_same {τ : TD} {a : Addr} {o : DO} : tset τ a o a = some o := if_pos rfl
theorem tset_ne {τ : TD} {a b : Addr} {o : DO} (h : b ≠ a) : tset τ a o b = τ b := if_neg h
theorem tdel_same {τ : TD} {a : Addr} : tdel τ a a = none := if_pos rfl
theorem tdel_ne {τ : TD} {a b : Addr} (h : b ≠ a) : tdel τ a b = τ b := if_neg h
def H0 : Hp := fun _ => none
/-- a tuple | a list that stands still at a -/
def TupAt (K : PySem.W.Frag) (τ : TD) (H : Hp) (a : Addr) (xs : List V) : Prop := (Rd H a (.tup xs) ∧ τ a = none) ∨ SqT K H0 a xs
def LstAt (K : PySem.W.Frag) (τ : TD) (H : Hp) (a : Addr) (xs : List V) : Prop := (Rd H a (.lst xs) ∧ τ a = none) ∨ SqL K H0 a xs
mutual
def DR (K : PySem.W.Frag) (τ : TD) (H : Hp) : D → V → Prop
  | .non, v => v = .non
  | .bl b, v => v = .bl b
  | .int i, v => v = .int i
  | .str s, v => v = .str s
  | .ref a, v => v = .ref a
  | .ty n, v => v = .ty n
  | .tup ds, v => ∃ a xs, v = .ref a ∧ TupAt K τ H a xs ∧ DRs K τ H ds xs
  | .lst ds, v => ∃ a xs, v = .ref a ∧ LstAt K τ H a xs ∧ DRs K τ H ds xs
def DRs (K : PySem.W.Frag) (τ : TD) (H : Hp) : List D → List V → Prop
  | [], vs => vs = []
  | d :: ds, vs => ∃ v r, vs = v :: r ∧ DR K τ H d v ∧ DRs K τ H ds r
end
/-- a thing that is not mutable, or locked -/
def Still (τ : TD) (a : Addr) : Prop := τ a = none ∨ (∃ kvs, τ a = some (.lK kvs)) ∨ ∃ kvs, τ a = some (.lT kvs)
def Unl : DO → Prop
  | .lK _ => False
  | .lT _ => False
  | _ => True
/-- what was tracked and is not mutable stands -/
structure Ext (τ : TD) (H : Hp) (τ' : TD) (H' : Hp) : Prop where
  keep : ∀ a o, H a = some o → Still τ a → (∀ ps, o ≠ .tbl ps) → H' a = some o
  out : ∀ a o, H a = some o → τ a = none → (∀ ps, o ≠ .tbl ps) → τ' a = none
  st : ∀ a o, H a = some o → Still τ a → (∀ ps, o ≠ .tbl ps) → Still τ' a
theorem Ext.refl (τ : TD) (H : Hp) : Ext τ H τ H := ⟨fun _ _ h _ _ => h, fun _ _ _ h _ => h, fun _ _ _ h _ => h⟩
theorem Ext.trans {τ τ1 τ2 : TD} {H H1 H2 : Hp} (a : Ext τ H τ1 H1) (b : Ext τ1 H1 τ2 H2) : Ext τ H τ2 H2 :=
  ⟨fun x o h t n => b.keep x o (a.keep x o h t n) (a.st x o h t n) n, fun x o h t n => b.out x o (a.keep x o h (.inl t) n) (a.out x o h t n) n, fun x o h t n => b.st x o (a.keep x o h t n) (a.st x o h t n) n⟩
theorem Ext.rd {τ τ' : TD} {H H' : Hp} (e : Ext τ H τ' H') {a : Addr} {u : HO} (h : Rd H a u) (t : τ a = none) (n : ∀ ps, u ≠ .tbl ps) : Rd H' a u ∧ τ' a = none := by
  rcases h with h | ⟨o, h⟩
  · exact ⟨.inl (e.keep a _ h (.inl t) n), e.out a _ h t n⟩
  · exact ⟨.inr ⟨o, e.keep a _ h (.inl t) (fun ps z => by cases z)⟩, e.out a _ h t (fun ps z => by cases z)⟩
theorem TupAt.ext {K : PySem.W.Frag} {τ τ' : TD} {H H' : Hp} {a : Addr} {xs : List V} (h : TupAt K τ H a xs) (e : Ext τ H τ' H') : TupAt K τ' H' a xs := by
  rcases h with ⟨h, t⟩ | h
  · exact .inl (e.rd h t (fun ps z => by cases z))
  · exact .inr h
theorem LstAt.ext {K : PySem.W.Frag} {τ τ' : TD} {H H' : Hp} {a : Addr} {xs : List V} (h : LstAt K τ H a xs) (e : Ext τ H τ' H') : LstAt K τ' H' a xs := by
  rcases h with ⟨h, t⟩ | h
  · exact .inl (e.rd h t (fun ps z => by cases z))
  · exact .inr h
theorem sqT0 {K : PySem.W.Frag} {H : Hp} {a : Addr} {xs : List V} (h : SqT K H0 a xs) : SqT K H a xs := by
  rcases h with h | h
  · rcases h with h | ⟨o, h⟩ <;> cases h
  · exact .inr h
theorem sqL0 {K : PySem.W.Frag} {H : Hp} {a : Addr} {xs : List V} (h : SqL K H0 a xs) : SqL K H a xs := by
  rcases h with h | h
  · rcases h with h | ⟨o, h⟩ <;> cases h
  · exact .inr h
theorem TupAt.sq {K : PySem.W.Frag} {τ : TD} {H : Hp} {a : Addr} {xs : List V} (h : TupAt K τ H a xs) : SqT K H a xs := by
  rcases h with ⟨h, t⟩ | h
  · exact .inl h
  · exact sqT0 h
theorem LstAt.sq {K : PySem.W.Frag} {τ : TD} {H : Hp} {a : Addr} {xs : List V} (h : LstAt K τ H a xs) : SqL K H a xs := by
  rcases h with ⟨h, t⟩ | h
  · exact .inl h
  · exact sqL0 h
section
variable {K : PySem.W.Frag} {τ τ' : TD} {H H' : Hp}
mutual
/-- carried along any change that carries what stands still -/
theorem DR.map (hT : ∀ a xs, TupAt K τ H a xs → TupAt K τ' H' a xs) (hL : ∀ a xs, LstAt K τ H a xs → LstAt K τ' H' a xs) : ∀ (d : D) (v : V), DR K τ H d v → DR K τ' H' d v
  | .non, v, h => h
  | .bl b, v, h => h
  | .int i, v, h => h
  | .str s, v, h => h
  | .ref a, v, h => h
  | .ty n, v, h => h
  | .tup ds, v, h => by
    obtain ⟨a, xs, e, t, r⟩ := h
    exact ⟨a, xs, e, hT _ _ t, DRs.map hT hL ds xs r⟩
  | .lst ds, v, h => by
    obtain ⟨a, xs, e, t, r⟩ := h
    exact ⟨a, xs, e, hL _ _ t, DRs.map hT hL ds xs r⟩
theorem DRs.map (hT : ∀ a xs, TupAt K τ H a xs → TupAt K τ' H' a xs) (hL : ∀ a xs, LstAt K τ H a xs → LstAt K τ' H' a xs) : ∀ (ds : List D) (vs : List V), DRs K τ H ds vs → DRs K τ' H' ds vs
  | [], vs, h => h
  | d :: ds, vs, h => by
    obtain ⟨v, r, e, h1, h2⟩ := h
    exact ⟨v, r, e, DR.map hT hL d v h1, DRs.map hT hL ds r h2⟩
end
theorem DR.ext {d : D} {v : V} (h : DR K τ H d v) (e : Ext τ H τ' H') : DR K τ' H' d v := DR.map (fun _ _ h => h.ext e) (fun _ _ h => h.ext e) d v h
theorem DRs.ext {ds : List D} {vs : List V} (h : DRs K τ H ds vs) (e : Ext τ H τ' H') : DRs K τ' H' ds vs := DRs.map (fun _ _ h => h.ext e) (fun _ _ h => h.ext e) ds vs h
/-- fewer mutable objects -/
theorem DR.sub {d : D} {v : V} (h : DR K τ H d v) (s : ∀ a, τ a = none → τ' a = none) : DR K τ' H d v :=
  DR.map (fun _ _ h => h.imp (fun z => ⟨z.1, s _ z.2⟩) id) (fun _ _ h => h.imp (fun z => ⟨z.1, s _ z.2⟩) id) d v h
theorem DRs.sub {ds : List D} {vs : List V} (h : DRs K τ H ds vs) (s : ∀ a, τ a = none → τ' a = none) : DRs K τ' H ds vs :=
  DRs.map (fun _ _ h => h.imp (fun z => ⟨z.1, s _ z.2⟩) id) (fun _ _ h => h.imp (fun z => ⟨z.1, s _ z.2⟩) id) ds vs h
theorem DRs.length : ∀ {ds : List D} {vs : List V}, DRs K τ H ds vs → vs.length = ds.length
  | [], vs, h => by
    have h : vs = [] := h
    subst h; rfl
  | d :: ds, vs, h => by
    obtain ⟨v, r, e, _, h2⟩ := h
    subst e
    simp [DRs.length h2]
theorem DRs.get : ∀ {ds : List D} {vs : List V} {i : Nat} {d : D}, DRs K τ H ds vs → ds[i]? = some d → ∃ v, vs[i]? = some v ∧ DR K τ H d v
  | [], vs, i, d, h, e => by simp at e
  | x :: ds, vs, 0, d, h, e => by
    obtain ⟨v, r, e1, h1, h2⟩ := h
    simp at e
    subst e e1
    exact ⟨v, rfl, h1⟩
  | x :: ds, vs, i + 1, d, h, e => by
    obtain ⟨v, r, e1, h1, h2⟩ := h
    subst e1
    obtain ⟨u, h3, h4⟩ := DRs.get (i := i) (d := d) h2 (by simpa using e)
    exact ⟨u, by simpa using h3, h4⟩
theorem DRs.getV {ds : List D} {vs : List V} {i : Nat} {v : V} (h : DRs K τ H ds vs) (e : vs[i]? = some v) : ∃ d, ds[i]? = some d ∧ DR K τ H d v := by
  have hl := h.length
  have hi : i < ds.length := by
    have := (List.getElem?_eq_some_iff.mp e).1
    omega
  obtain ⟨u, h1, h2⟩ := h.get (i := i) (d := ds[i]) (by simp [hi])
  rw [e] at h1
  cases h1
  exact ⟨ds[i], by simp [hi], h2⟩
theorem DRs.append : ∀ {ds es : List D} {vs ws : List V}, DRs K τ H ds vs → DRs K τ H es ws → DRs K τ H (ds ++ es) (vs ++ ws)
  | [], es, vs, ws, h, h' => by
    have h : vs = [] := h
    subst h
    exact h'
  | d :: ds, es, vs, ws, h, h' => by
    obtain ⟨v, r, e, h1, h2⟩ := h
    subst e
    exact ⟨v, r ++ ws, rfl, h1, DRs.append h2 h'⟩
theorem DRs.one {d : D} {v : V} (h : DR K τ H d v) : DRs K τ H [d] [v] := ⟨v, [], rfl, h, rfl⟩
theorem DRs.take : ∀ {ds : List D} {vs : List V} (n : Nat), DRs K τ H ds vs → DRs K τ H (ds.take n) (vs.take n)
  | [], vs, n, h => by
    have h : vs = [] := h
    subst h
    simp only [List.take_nil]
    rfl
  | d :: ds, vs, 0, h => rfl
  | d :: ds, vs, n + 1, h => by
    obtain ⟨v, r, e, h1, h2⟩ := h
    subst e
    exact ⟨v, r.take n, rfl, h1, DRs.take n h2⟩
theorem DRs.drop : ∀ {ds : List D} {vs : List V} (n : Nat), DRs K τ H ds vs → DRs K τ H (ds.drop n) (vs.drop n)
  | [], vs, n, h => by
    have h : vs = [] := h
    subst h
    simp only [List.drop_nil]
    rfl
  | d :: ds, vs, 0, h => h
  | d :: ds, vs, n + 1, h => by
    obtain ⟨v, r, e, h1, h2⟩ := h
    subst e
    exact DRs.drop n h2
theorem DRs.set : ∀ {ds : List D} {vs : List V} (n : Nat) {d : D} {v : V}, DRs K τ H ds vs → DR K τ H d v → DRs K τ H (ds.set n d) (vs.set n v)
  | [], vs, n, d, v, h, _ => by
    have h : vs = [] := h
    subst h
    rfl
  | d :: ds, vs, 0, d', v', h, hd => by
    obtain ⟨v, r, e, h1, h2⟩ := h
    subst e
    exact ⟨v', r, rfl, hd, h2⟩
  | d :: ds, vs, n + 1, d', v', h, hd => by
    obtain ⟨v, r, e, h1, h2⟩ := h
    subst e
    exact ⟨v, r.set n v', rfl, h1, DRs.set n h2 hd⟩
end
/-- what a mutable object is in the heap -/
def DOk (K : PySem.W.Frag) (τ : TD) (H : Hp) (a : Addr) : DO → Prop
  | .lst ds => ∃ vs, H a = some (.lst vs) ∧ DRs K τ H ds vs
  | .dK kvs => ∃ kv, H a = some (.dK kv) ∧ Paired (fun (p : Key × D) (q : Key × V) => p.1 = q.1 ∧ DR K τ H p.2 q.2) kvs kv
  | .ins C fs => ∃ dx fv, H a = some (.ins C dx fv) ∧ Paired (fun (p : Str × D) (q : Str × V) => p.1 = q.1 ∧ DR K τ H p.2 q.2) fs fv
  | .dT kvs => ∃ kv, H a = some (.dT kv) ∧ Paired (fun (p : List Key × D) (q : List Key × V) => p.1 = q.1 ∧ DR K τ H p.2 q.2) kvs kv
  | .lK kvs => ∃ o kv, H a = some (.frz o (.dK kv)) ∧ Paired (fun (p : Key × D) (q : Key × V) => p.1 = q.1 ∧ DR K τ H p.2 q.2) kvs kv
  | .lT kvs => ∃ o kv, H a = some (.frz o (.dT kv)) ∧ Paired (fun (p : List Key × D) (q : List Key × V) => p.1 = q.1 ∧ DR K τ H p.2 q.2) kvs kv
theorem dok_get {K : PySem.W.Frag} {τ : TD} {H : Hp} {a : Addr} {o : DO} (h : DOk K τ H a o) : ∃ u, H a = some u ∧ (∀ ps, u ≠ .tbl ps) ∧ (∀ x, u ≠ .own x) := by
  cases o with
  | lst ds => obtain ⟨vs, e, _⟩ := h; exact ⟨_, e, (fun ps z => by cases z), (fun ps z => by cases z)⟩
  | dK ds => obtain ⟨vs, e, _⟩ := h; exact ⟨_, e, (fun ps z => by cases z), (fun ps z => by cases z)⟩
  | ins C ds => obtain ⟨dx, vs, e, _⟩ := h; exact ⟨_, e, (fun ps z => by cases z), (fun ps z => by cases z)⟩
  | dT ds => obtain ⟨vs, e, _⟩ := h; exact ⟨_, e, (fun ps z => by cases z), (fun ps z => by cases z)⟩
  | lK ds => obtain ⟨o, vs, e, _⟩ := h; exact ⟨_, e, (fun ps z => by cases z), (fun ps z => by cases z)⟩
  | lT ds => obtain ⟨o, vs, e, _⟩ := h; exact ⟨_, e, (fun ps z => by cases z), (fun ps z => by cases z)⟩
theorem paired_map {α β : Type} {F G : α → β → Prop} : ∀ {l₁ : List α} {l₂ : List β}, Paired F l₁ l₂ → (∀ a b, F a b → G a b) → Paired G l₁ l₂
  | _, _, .nil, _ => .nil
  | _, _, .cons r t, f => .cons (f _ _ r) (paired_map t f)
/-- a mutable object whose own place is as it was -/
theorem dok_map {K : PySem.W.Frag} {τ τ' : TD} {H H' : Hp} {a : Addr} {o : DO} (h : DOk K τ H a o) (e : ∀ u, H a = some u → H' a = some u) (m : ∀ d v, DR K τ H d v → DR K τ' H' d v) (ms : ∀ d v, DRs K τ H d v → DRs K τ' H' d v) : DOk K τ' H' a o := by
  cases o with
  | lst ds => obtain ⟨vs, q, r⟩ := h; exact ⟨vs, e _ q, ms _ _ r⟩
  | dK ds => obtain ⟨vs, q, r⟩ := h; exact ⟨vs, e _ q, paired_map r fun _ _ z => ⟨z.1, m _ _ z.2⟩⟩
  | ins C ds => obtain ⟨dx, vs, q, r⟩ := h; exact ⟨dx, vs, e _ q, paired_map r fun _ _ z => ⟨z.1, m _ _ z.2⟩⟩
  | dT ds => obtain ⟨vs, q, r⟩ := h; exact ⟨vs, e _ q, paired_map r fun _ _ z => ⟨z.1, m _ _ z.2⟩⟩
  | lK ds => obtain ⟨o, vs, q, r⟩ := h; exact ⟨o, vs, e _ q, paired_map r fun _ _ z => ⟨z.1, m _ _ z.2⟩⟩
  | lT ds => obtain ⟨o, vs, q, r⟩ := h; exact ⟨o, vs, e _ q, paired_map r fun _ _ z => ⟨z.1, m _ _ z.2⟩⟩
/-- the heap is so: the mutable objects, the tables of code objects -/
structure J (K : PySem.W.Frag) (T : List (Addr × Str)) (τ : TD) (H : Hp) : Prop where
  obj : ∀ a o, τ a = some o → DOk K τ H a o
  tabs : LamX.Tabs T H
section
variable {K : PySem.W.Frag} {T : List (Addr × Str)} {τ τ' : TD} {H H' : Hp}
/-- new is not mutable yet -/
theorem J.free (j : J K T τ H) {p : Addr} (h : H p = none) : τ p = none := by
  cases e : τ p with
  | none => rfl
  | some o =>
    obtain ⟨u, q, _⟩ := dok_get (j.obj p o e)
    rw [h] at q; cases q
/-- something new beside -/
theorem Ext.new {p : Addr} {o : HO} (h : H p = none) : Ext τ H τ (upd H p o) :=
  ⟨fun a u e _ _ => by rw [upd_ne (ne_of_none e h)]; exact e, fun _ _ _ t _ => t, fun _ _ _ t _ => t⟩
theorem J.new (j : J K T τ H) {p : Addr} {o : HO} (h : H p = none) : J K T τ (upd H p o) :=
  ⟨fun a u e => dok_map (j.obj a u e) (fun w q => by rw [upd_ne (ne_of_none q h)]; exact q) (fun _ _ z => z.ext (.new h)) (fun _ _ z => z.ext (.new h)),
    j.tabs.ext fun b o q => by rw [upd_ne (ne_of_none q h)]; exact q⟩
/-- a new mutable object -/
theorem Ext.newM {p : Addr} {o : HO} {u : DO} (h : H p = none) : Ext τ H (tset τ p u) (upd H p o) :=
  ⟨fun a w e _ _ => by rw [upd_ne (ne_of_none e h)]; exact e, fun a w e t _ => by rw [tset_ne (ne_of_none e h)]; exact t, fun a w e t _ => by unfold Still at t ⊢; rw [tset_ne (ne_of_none e h)]; exact t⟩
theorem J.newM (j : J K T τ H) {p : Addr} {o : HO} {u : DO} (h : H p = none) (hu : DOk K (tset τ p u) (upd H p o) p u) : J K T (tset τ p u) (upd H p o) := by
  refine ⟨fun a w e => ?_, j.tabs.ext fun b o q => by rw [upd_ne (ne_of_none q h)]; exact q⟩
  by_cases ha : a = p
  · subst ha
    rw [tset_same] at e
    cases e
    exact hu
  · rw [tset_ne ha] at e
    exact dok_map (j.obj a w e) (fun w q => by rw [upd_ne (ne_of_none q h)]; exact q) (fun _ _ z => z.ext (.newM h)) (fun _ _ z => z.ext (.newM h))
/-- a mutable object changes -/
theorem Still.unl {τ : TD} {p : Addr} {u0 : DO} (h : τ p = some u0) (nl : Unl u0) : ¬ Still τ p := by
  rintro (e | ⟨_, e⟩ | ⟨_, e⟩) <;> rw [h] at e <;> cases e <;> exact nl
theorem Ext.chg {p : Addr} {o : HO} {u u0 : DO} (h : τ p = some u0) (nl : Unl u0 := by exact True.intro) : Ext τ H (tset τ p u) (upd H p o) := by
  refine ⟨fun a w e t _ => ?_, fun a w e t _ => ?_, fun a w e t _ => ?_⟩
  · have : a ≠ p := fun z => Still.unl h nl (z ▸ t)
    rw [upd_ne this]; exact e
  · have : a ≠ p := fun z => by rw [z, h] at t; cases t
    rw [tset_ne this]; exact t
  · have : a ≠ p := fun z => Still.unl h nl (z ▸ t)
    unfold Still at t ⊢
    rw [tset_ne this]; exact t
theorem J.chg (j : J K T τ H) {p : Addr} {o : HO} {u u0 : DO} (h : τ p = some u0) (hu : DOk K (tset τ p u) (upd H p o) p u) (nl : Unl u0 := by exact True.intro) : J K T (tset τ p u) (upd H p o) := by
  refine ⟨fun a w e => ?_, fun q hq => ?_⟩
  · by_cases ha : a = p
    · subst ha
      rw [tset_same] at e
      cases e
      exact hu
    · rw [tset_ne ha] at e
      exact dok_map (j.obj a w e) (fun w q => by rw [upd_ne ha]; exact q) (fun _ _ z => z.ext (.chg h nl)) (fun _ _ z => z.ext (.chg h nl))
  · obtain ⟨w, hw, nt, _⟩ := dok_get (j.obj p u0 h)
    obtain ⟨ps, h1, h2, h3⟩ := j.tabs q hq
    have ne : q.1 ≠ p := fun z => by rw [z, hw] at h1; exact nt ps (Option.some.inj h1)
    refine ⟨ps, by rw [upd_ne ne]; exact h1, h2, fun pos cv hcv => ?_⟩
    obtain ⟨c, e1, e2⟩ := h3 pos cv hcv
    refine ⟨c, e1, ?_⟩
    have ne2 : c ≠ p := fun z => by
      rw [z, hw] at e2
      have e3 := Option.some.inj e2
      subst e3
      have d := j.obj p u0 h
      cases u0 with
      | lst ds => obtain ⟨vs, z, _⟩ := d; rw [hw] at z; cases z
      | dK ds => obtain ⟨vs, z, _⟩ := d; rw [hw] at z; cases z
      | dT ds => obtain ⟨vs, z, _⟩ := d; rw [hw] at z; cases z
      | ins C ds => obtain ⟨dx, vs, z, _⟩ := d; rw [hw] at z; cases z
      | lK ds => obtain ⟨o, vs, z, _⟩ := d; rw [hw] at z; cases z
      | lT ds => obtain ⟨o, vs, z, _⟩ := d; rw [hw] at z; cases z
    rw [upd_ne ne2]; exact e2
/-- fewer mutable objects -/
def Sub (τ' τ : TD) : Prop := ∀ a o, τ' a = some o → τ a = some o
theorem Sub.none {τ' τ : TD} (s : Sub τ' τ) {a : Addr} (h : τ a = none) : τ' a = none := by
  cases e : τ' a with
  | none => rfl
  | some o => rw [s a o e] at h; cases h
theorem Sub.refl (τ : TD) : Sub τ τ := fun _ _ h => h
theorem J.sub (j : J K T τ H) (s : Sub τ' τ) : J K T τ' H :=
  ⟨fun a o e => dok_map (j.obj a o (s a o e)) (fun _ q => q) (fun _ _ z => z.sub fun _ => s.none) (fun _ _ z => z.sub fun _ => s.none), j.tabs⟩
theorem Sub.still {τ' τ : TD} (s : Sub τ' τ) {a : Addr} (h : Still τ a) : Still τ' a := by
  cases e : τ' a with
  | none => exact .inl e
  | some o =>
    have := s a o e
    rcases h with h | ⟨k, h⟩ | ⟨k, h⟩
    · rw [this] at h; cases h
    · rw [this] at h; cases h; exact .inr (.inl ⟨_, e⟩)
    · rw [this] at h; cases h; exact .inr (.inr ⟨_, e⟩)
theorem Ext.sub {τ0 : TD} {H0 : Hp} (e : Ext τ0 H0 τ H) (s : Sub τ' τ) : Ext τ0 H0 τ' H := ⟨e.keep, fun a o h t n => s.none (e.out a o h t n), fun a o h t n => s.still (e.st a o h t n)⟩
end
/-! ### slots -/
abbrev Sl := List (Option D)
structure SR (K : PySem.W.Frag) (τ : TD) (H : Hp) (ds : Sl) (σ : L2.St) : Prop where
  len : ds.length = σ.length
  at_ : ∀ (i : Nat) (d : D), ds[i]? = some (some d) → ∃ v, σ[i]? = some (some v) ∧ DR K τ H d v
section
variable {K : PySem.W.Frag} {τ τ' : TD} {H H' : Hp} {ds : Sl} {σ : L2.St}
theorem SR.ext (h : SR K τ H ds σ) (e : Ext τ H τ' H') : SR K τ' H' ds σ := ⟨h.len, fun i d z => by
  obtain ⟨v, h1, h2⟩ := h.at_ i d z
  exact ⟨v, h1, h2.ext e⟩⟩
theorem SR.sub (h : SR K τ H ds σ) (s : Sub τ' τ) : SR K τ' H ds σ := ⟨h.len, fun i d z => by
  obtain ⟨v, h1, h2⟩ := h.at_ i d z
  exact ⟨v, h1, h2.sub fun _ => s.none⟩⟩
theorem SR.set (h : SR K τ H ds σ) (i : Nat) {d : D} {v : V} (r : DR K τ H d v) : SR K τ H (ds.set i (some d)) (σ.set i (some v)) := by
  refine ⟨by simp [h.len], fun j e z => ?_⟩
  by_cases hj : j = i
  · subst hj
    have hl : j < ds.length := by
      have := (List.getElem?_eq_some_iff.mp z).1
      simpa using this
    rw [List.getElem?_set_self hl] at z
    cases z
    exact ⟨v, List.getElem?_set_self (by rw [← h.len]; exact hl), r⟩
  · rw [List.getElem?_set_ne (Ne.symm hj)] at z
    rw [List.getElem?_set_ne (Ne.symm hj)]
    exact h.at_ j e z
theorem SR.drop (h : SR K τ H ds σ) (i : Nat) : SR K τ H (ds.set i none) (σ.set i none) := by
  refine ⟨by simp [h.len], fun j e z => ?_⟩
  by_cases hj : j = i
  · subst hj
    have hl : j < ds.length := by
      have := (List.getElem?_eq_some_iff.mp z).1
      simpa using this
    rw [List.getElem?_set_self hl] at z
    cases z
  · rw [List.getElem?_set_ne (Ne.symm hj)] at z
    rw [List.getElem?_set_ne (Ne.symm hj)]
    exact h.at_ j e z
/-- a slot forgotten on one side -/
theorem SR.forget (h : SR K τ H ds σ) (i : Nat) : SR K τ H (ds.set i none) σ := by
  refine ⟨by simp [h.len], fun j e z => ?_⟩
  by_cases hj : j = i
  · subst hj
    have hl : j < ds.length := by
      have := (List.getElem?_eq_some_iff.mp z).1
      simpa using this
    rw [List.getElem?_set_self hl] at z
    cases z
  · rw [List.getElem?_set_ne (Ne.symm hj)] at z
    exact h.at_ j e z
end
/-! ### readings over data -/
abbrev DK := TD → D → Prop
abbrev DKs := TD → List D → Prop
abbrev DE := TD → Sl → DK → Prop
abbrev DA := TD → Sl → DKs → Prop
abbrev DT := TD → Sl → (TD → Bool → Prop) → Prop
/-- an exception: its class, the field that it bears -/
abbrev XD := TD → Addr → Str → D → Prop
abbrev X0 : XD := fun _ _ _ _ => False
def XOk (K : PySem.W.Frag) (T : List (Addr × Str)) (E : XK) (KE : XD) (τ : TD) (H : Hp) : Prop :=
  ∀ τ' H' C f d a v, Ext τ H τ' H' → J K T τ' H' → H' a = some (.xd [(f, v)]) → DR K τ' H' d v → KE τ' C f d → E (.ref C) (some a) H'
theorem XOk.ext {K : PySem.W.Frag} {T : List (Addr × Str)} {E : XK} {KE : XD} {τ τ' : TD} {H H' : Hp} (h : XOk K T E KE τ H) (e : Ext τ H τ' H') : XOk K T E KE τ' H' :=
  fun τ2 H2 C f d a v e2 j ha r k => h τ2 H2 C f d a v (e.trans e2) j ha r k
def SndE (K : PySem.W.Frag) (T : List (Addr × Str)) (E : XK) (KE : XD) (t : TE) (δ : DE) : Prop :=
  ∀ σ H τ ds (k : DK) (Q : VK), J K T τ H → SR K τ H ds σ → δ τ ds k → XOk K T E KE τ H → (∀ v τ' H' d, Ext τ H τ' H' → J K T τ' H' → DR K τ' H' d v → k τ' d → Q v H') → t σ H Q
def SndA (K : PySem.W.Frag) (T : List (Addr × Str)) (E : XK) (KE : XD) (t : TA) (δ : DA) : Prop :=
  ∀ σ H τ ds (k : DKs) (Q : List V → Hp → Prop), J K T τ H → SR K τ H ds σ → δ τ ds k → XOk K T E KE τ H → (∀ vs τ' H' es, Ext τ H τ' H' → J K T τ' H' → DRs K τ' H' es vs → k τ' es → Q vs H') → t σ H Q
def SndT (K : PySem.W.Frag) (T : List (Addr × Str)) (E : XK) (KE : XD) (t : TT) (δ : DT) : Prop :=
  ∀ σ H τ ds (k : TD → Bool → Prop) (Q : Bool → Hp → Prop), J K T τ H → SR K τ H ds σ → δ τ ds k → XOk K T E KE τ H → (∀ b τ' H', Ext τ H τ' H' → J K T τ' H' → k τ' b → Q b H') → t σ H Q
structure PD (T : List (Addr × Str)) (X : Cx) (E : XK) (KE : XD) (e : Expr) (δ : DE) : Prop where
  ex : ∃ t, PE X e t ∧ SndE X.K T E KE t δ
structure PDA (T : List (Addr × Str)) (X : Cx) (E : XK) (KE : XD) (es : List Expr) (δ : DA) : Prop where
  ex : ∃ t, PA X es t ∧ SndA X.K T E KE t δ
structure PDT (T : List (Addr × Str)) (X : Cx) (E : XK) (KE : XD) (e : Expr) (δ : DT) : Prop where
  ex : ∃ t, PT X e t ∧ SndT X.K T E KE t δ
structure PDW (T : List (Addr × Str)) (X : Cx) (E : XK) (KE : XD) (e : Expr) (δ : DT) : Prop where
  ex : ∃ t, PW X e t ∧ SndT X.K T E KE t δ
section
variable {T : List (Addr × Str)} {X : Cx} {E : XK} {KE : XD} {e a b c : Expr} {es : List Expr} {pos : Pos} {δ δa δb δc : DE} {δs : DA}
/-! names, constants -/
def dVar (i : Nat) : DE := fun τ ds k => match ds[i]? with
  | some (some d) => k τ d
  | _ => False
def dC (d : D) : DE := fun τ _ k => k τ d
theorem pd_var {i : Nat} (h : PE X e (tVar i)) : PD T X E KE e (dVar i) := by
  refine ⟨_, h, fun σ H τ ds k Q j s h _ q => ?_⟩
  unfold dVar at h
  split at h
  · rename_i d hd
    obtain ⟨v, h1, h2⟩ := s.at_ i d hd
    exact ⟨v, h1, q v τ H d (Ext.refl _ _) j h2 h⟩
  · exact h.elim
theorem pd_c {d : D} {v : V} (h : PE X e (tC v)) (r : ∀ K τ H, DR K τ H d v) : PD T X E KE e (dC d) :=
  ⟨_, h, fun σ H τ ds k Q j s h _ q => q v τ H d (Ext.refl _ _) j (r _ _ _) h⟩
theorem pd_int {i : Int} {j pos} : PD T X E KE (.Constant (.int i) j pos) (dC (.int i)) := pd_c pe_int fun _ _ _ => rfl
theorem pd_bl {i : Bool} {j pos} : PD T X E KE (.Constant (.bool i) j pos) (dC (.bl i)) := pd_c pe_bl fun _ _ _ => rfl
theorem pd_non {j pos} : PD T X E KE (.Constant .none j pos) (dC .non) := pd_c pe_non fun _ _ _ => rfl
theorem pd_str {x : Str} {j pos} : PD T X E KE (.Constant (.str x) j pos) (dC (.str x)) := pd_c pe_str fun _ _ _ => rfl
/-- a constant of the module (a tuple, a list, a text, a number) -/
theorem pd_glob {x : Str} {v : V} {u : Value} {d : D} {pos : Pos} (hg : Gl X x) (hm : X.mg x = some u) (r : RelV v u) (hd : ∀ τ H, DR X.K τ H d v) (hdb : (x == ("__debug__" : Str)) = false := by decide) : PD T X E KE (.Name x pos) (dC d) :=
  ⟨_, pe_glob hg hm r hdb, fun σ H τ ds k Q j s h _ q => q v τ H d (Ext.refl _ _) j (hd _ _) h⟩
theorem pd_bltn {x : Str} {n : String} {pos : Pos} (hg : Gl X x) (hm : X.mg x = none) (hv : bootBuiltins x = some (.type n)) (hn : x ≠ "__name__" := by decide) (hd : (x == ("__debug__" : Str)) = false := by decide) : PD T X E KE (.Name x pos) (dC (.ty n)) :=
  pd_c (pe_bltn (v := .ty n) hg hm hv rfl hn hd) fun _ _ _ => rfl
/-! operators of two and of one -/
abbrev D2 := TD → D → D → DK → Prop
abbrev D1 := TD → D → DK → Prop
def R2ok (K : PySem.W.Frag) (T : List (Addr × Str)) (r : R2) (ρ : D2) : Prop := ∀ τ H x y vx vy (k : DK) (Q : VK), J K T τ H → DR K τ H x vx → DR K τ H y vy → ρ τ x y k → (∀ v τ' H' d, Ext τ H τ' H' → J K T τ' H' → DR K τ' H' d v → k τ' d → Q v H') → r vx vy H Q
def R1ok (K : PySem.W.Frag) (T : List (Addr × Str)) (r : V → Hp → VK → Prop) (ρ : D1) : Prop := ∀ τ H x vx (k : DK) (Q : VK), J K T τ H → DR K τ H x vx → ρ τ x k → (∀ v τ' H' d, Ext τ H τ' H' → J K T τ' H' → DR K τ' H' d v → k τ' d → Q v H') → r vx H Q
def dOp (ρ : D2) (δa δb : DE) : DE := fun τ ds k => δa τ ds fun τ1 x => δb τ1 ds fun τ2 y => ρ τ2 x y k
def dUn (ρ : D1) (δa : DE) : DE := fun τ ds k => δa τ ds fun τ1 x => ρ τ1 x k
theorem sndOp {K : PySem.W.Frag} {r : R2} {ρ : D2} {ta tb : TE} (hr : R2ok K T r ρ) (ha : SndE K T E KE ta δa) (hb : SndE K T E KE tb δb) : SndE K T E KE (tOp r ta tb) (dOp ρ δa δb) := by
  intro σ H τ ds k Q j s h xo q
  refine ha σ H τ ds _ _ j s h xo fun vx τ1 H1 x e1 j1 r1 h1 => ?_
  refine hb σ H1 τ1 ds _ _ j1 (s.ext e1) h1 (xo.ext e1) fun vy τ2 H2 y e2 j2 r2 h2 => ?_
  exact hr τ2 H2 x y vx vy k Q j2 (r1.ext e2) r2 h2 fun v τ' H' d e3 j3 r3 k3 => q v τ' H' d ((e1.trans e2).trans e3) j3 r3 k3
theorem sndUn {K : PySem.W.Frag} {r : V → Hp → VK → Prop} {ρ : D1} {ta : TE} (hr : R1ok K T r ρ) (ha : SndE K T E KE ta δa) : SndE K T E KE (tUn r ta) (dUn ρ δa) := by
  intro σ H τ ds k Q j s h xo q
  refine ha σ H τ ds _ _ j s h xo fun vx τ1 H1 x e1 j1 r1 h1 => ?_
  exact hr τ1 H1 x vx k Q j1 r1 h1 fun v τ' H' d e3 j3 r3 k3 => q v τ' H' d (e1.trans e3) j3 r3 k3
theorem pd_op {op : Operator} {r : R2} {ρ : D2} (ho : OpR X (binaryOp op) r) (hr : R2ok X.K T r ρ) (ha : PD T X E KE a δa) (hb : PD T X E KE b δb) : PD T X E KE (.BinOp a op b pos) (dOp ρ δa δb) := by
  obtain ⟨ta, h1, s1⟩ := ha.ex
  obtain ⟨tb, h2, s2⟩ := hb.ex
  exact ⟨_, pe_op ho h1 h2, sndOp hr s1 s2⟩
theorem pd_un {op : UnaryOp} {r : V → Hp → VK → Prop} {ρ : D1} (ho : UnR X (unaryOp op) r) (hr : R1ok X.K T r ρ) (ha : PD T X E KE a δa) : PD T X E KE (.UnaryOp op a pos) (dUn ρ δa) := by
  obtain ⟨ta, h1, s1⟩ := ha.ex
  exact ⟨_, pe_un ho h1, sndUn hr s1⟩
theorem pd_cmp {op : CmpOp} {r : R2} {ρ : D2} (ho : OpR X (compareOp op) r) (hr : R2ok X.K T r ρ) (ha : PD T X E KE a δa) (hb : PD T X E KE b δb) (hm : behindInMarks op b = false) : PD T X E KE (.Compare a [op] [b] pos) (dOp ρ δa δb) := by
  obtain ⟨ta, h1, s1⟩ := ha.ex
  obtain ⟨tb, h2, s2⟩ := hb.ex
  exact ⟨_, pe_cmpR ho h1 h2 hm, sndOp hr s1 s2⟩
theorem pd_ix {r : R2} {ρ : D2} (ho : IxR X r) (hr : R2ok X.K T r ρ) (ha : PD T X E KE a δa) (hb : PD T X E KE b δb) (hs : PlainIx b := by exact fun _ _ => rfl) : PD T X E KE (.Subscript a b pos) (dOp ρ δa δb) := by
  obtain ⟨ta, h1, s1⟩ := ha.ex
  obtain ⟨tb, h2, s2⟩ := hb.ex
  exact ⟨_, pe_ix ho h1 h2 hs, sndOp hr s1 s2⟩
/-! tests -/
def dTest (δ : DE) : DT := fun τ ds k => δ τ ds fun τ1 x => match x with
  | .bl b => k τ1 b
  | _ => False
theorem sndTest {K : PySem.W.Frag} {t : TE} (h : SndE K T E KE t δ) : SndT K T E KE (tB t) (dTest δ) := by
  intro σ H τ ds k Q j s h' xo q
  refine h σ H τ ds _ _ j s h' xo fun v τ' H' d e j' r hk => ?_
  cases d with
  | bl b => exact ⟨b, r, q b τ' H' e j' hk⟩
  | _ => exact hk.elim
theorem pdt_val (h : PD T X E KE e δ) (he : ∀ whole, isTrue e X.env whole = (do let v ← whole; standAt e.pos; holding [v] (truthy v)) := by intro _; rfl) : PDT T X E KE e (dTest δ) := by
  obtain ⟨t, h1, s1⟩ := h.ex
  exact ⟨_, pt_val h1 he, sndTest s1⟩
theorem pdt_cmp {op : CmpOp} {r : R2} {ρ : D2} (ho : OpR X (compareOp op) r) (hr : R2ok X.K T r ρ) (ha : PD T X E KE a δa) (hb : PD T X E KE b δb) (hm : behindInMarks op b = false) : PDT T X E KE (.Compare a [op] [b] pos) (dTest (dOp ρ δa δb)) := by
  obtain ⟨ta, h1, s1⟩ := ha.ex
  obtain ⟨tb, h2, s2⟩ := hb.ex
  exact ⟨_, pt_cmpR ho h1 h2 hm, sndTest (sndOp hr s1 s2)⟩
def dAnd (δ ε : DT) : DT := fun τ ds k => δ τ ds fun τ1 b => if b = true then ε τ1 ds k else k τ1 false
def dOr (δ ε : DT) : DT := fun τ ds k => δ τ ds fun τ1 b => if b = true then k τ1 true else ε τ1 ds k
def dNot (δ : DT) : DT := fun τ ds k => δ τ ds fun τ1 b => k τ1 (!b)
variable {η θ : DT} {rest : List Expr}
theorem PDW.pt (h : PDW T X E KE e η) : PDT T X E KE e η := by
  obtain ⟨t, h1, s1⟩ := h.ex
  exact ⟨t, h1.pt, s1⟩
theorem pdw_and1 (ha : PDT T X E KE a η) : PDW T X E KE (.BoolOp .And [a] pos) η := by
  obtain ⟨t, h1, s1⟩ := ha.ex
  exact ⟨t, pw_and1 h1, s1⟩
theorem pdw_or1 (ha : PDT T X E KE a η) : PDW T X E KE (.BoolOp .Or [a] pos) η := by
  obtain ⟨t, h1, s1⟩ := ha.ex
  exact ⟨t, pw_or1 h1, s1⟩
theorem sndAnd {K : PySem.W.Frag} {t u : TT} (h1 : SndT K T E KE t η) (h2 : SndT K T E KE u θ) : SndT K T E KE (tAnd t u) (dAnd η θ) := by
  intro σ H τ ds k Q j s h xo q
  refine h1 σ H τ ds _ _ j s h xo fun b τ1 H1 e1 j1 k1 => ?_
  cases b with
  | true => exact h2 σ H1 τ1 ds k Q j1 (s.ext e1) k1 (xo.ext e1) fun b τ' H' e j' hk => q b τ' H' (e1.trans e) j' hk
  | false => exact q false τ1 H1 e1 j1 k1
theorem sndOr {K : PySem.W.Frag} {t u : TT} (h1 : SndT K T E KE t η) (h2 : SndT K T E KE u θ) : SndT K T E KE (tOr t u) (dOr η θ) := by
  intro σ H τ ds k Q j s h xo q
  refine h1 σ H τ ds _ _ j s h xo fun b τ1 H1 e1 j1 k1 => ?_
  cases b with
  | false => exact h2 σ H1 τ1 ds k Q j1 (s.ext e1) k1 (xo.ext e1) fun b τ' H' e j' hk => q b τ' H' (e1.trans e) j' hk
  | true => exact q true τ1 H1 e1 j1 k1
theorem pdw_and (ha : PDT T X E KE a η) (hb : PDW T X E KE (.BoolOp .And (b :: rest) pos) θ) : PDW T X E KE (.BoolOp .And (a :: b :: rest) pos) (dAnd η θ) := by
  obtain ⟨t, h1, s1⟩ := ha.ex
  obtain ⟨u, h2, s2⟩ := hb.ex
  exact ⟨_, pw_and h1 h2, sndAnd s1 s2⟩
theorem pdw_or (ha : PDT T X E KE a η) (hb : PDW T X E KE (.BoolOp .Or (b :: rest) pos) θ) : PDW T X E KE (.BoolOp .Or (a :: b :: rest) pos) (dOr η θ) := by
  obtain ⟨t, h1, s1⟩ := ha.ex
  obtain ⟨u, h2, s2⟩ := hb.ex
  exact ⟨_, pw_or h1 h2, sndOr s1 s2⟩
theorem pdt_not (ha : PDT T X E KE a η) : PDT T X E KE (.UnaryOp .Not a pos) (dNot η) := by
  obtain ⟨t, h1, s1⟩ := ha.ex
  exact ⟨_, pt_not h1, fun σ H τ ds k Q j s h xo q => s1 σ H τ ds _ _ j s h xo fun b τ1 H1 e1 j1 k1 => q (!b) τ1 H1 e1 j1 k1⟩
/-! and, or, not as values: bools -/
def dAndV (δa δb : DE) : DE := fun τ ds k => δa τ ds fun τ1 x => match x with
  | .bl true => δb τ1 ds k
  | .bl false => k τ1 (.bl false)
  | _ => False
def dOrV (δa δb : DE) : DE := fun τ ds k => δa τ ds fun τ1 x => match x with
  | .bl false => δb τ1 ds k
  | .bl true => k τ1 (.bl true)
  | _ => False
def dNotV (δa : DE) : DE := fun τ ds k => δa τ ds fun τ1 x => match x with
  | .bl b => k τ1 (.bl (!b))
  | _ => False
theorem pd_one {op} (h : PD T X E KE a δ) : PD T X E KE (.BoolOp op [a] pos) δ := by
  obtain ⟨t, h1, s1⟩ := h.ex
  exact ⟨t, pe_one h1, s1⟩
theorem pd_and (ha : PD T X E KE a δa) (hb : PD T X E KE (.BoolOp .And (b :: rest) pos) δb) : PD T X E KE (.BoolOp .And (a :: b :: rest) pos) (dAndV δa δb) := by
  obtain ⟨t, h1, s1⟩ := ha.ex
  obtain ⟨u, h2, s2⟩ := hb.ex
  refine ⟨_, pe_and h1 h2, fun σ H τ ds k Q j s h xo q => s1 σ H τ ds _ _ j s h xo fun v τ1 H1 d e1 j1 r1 k1 => ?_⟩
  cases d with
  | bl c =>
    refine ⟨c, r1, ?_⟩
    cases c with
    | true => exact s2 σ H1 τ1 ds k Q j1 (s.ext e1) k1 (xo.ext e1) fun v τ' H' d e j' r hk => q v τ' H' d (e1.trans e) j' r hk
    | false => exact q (.bl false) τ1 H1 (.bl false) e1 j1 rfl k1
  | _ => exact k1.elim
theorem pd_or (ha : PD T X E KE a δa) (hb : PD T X E KE (.BoolOp .Or (b :: rest) pos) δb) : PD T X E KE (.BoolOp .Or (a :: b :: rest) pos) (dOrV δa δb) := by
  obtain ⟨t, h1, s1⟩ := ha.ex
  obtain ⟨u, h2, s2⟩ := hb.ex
  refine ⟨_, pe_or h1 h2, fun σ H τ ds k Q j s h xo q => s1 σ H τ ds _ _ j s h xo fun v τ1 H1 d e1 j1 r1 k1 => ?_⟩
  cases d with
  | bl c =>
    refine ⟨c, r1, ?_⟩
    cases c with
    | false => exact s2 σ H1 τ1 ds k Q j1 (s.ext e1) k1 (xo.ext e1) fun v τ' H' d e j' r hk => q v τ' H' d (e1.trans e) j' r hk
    | true => exact q (.bl true) τ1 H1 (.bl true) e1 j1 rfl k1
  | _ => exact k1.elim
theorem pd_not (ha : PD T X E KE a δa) : PD T X E KE (.UnaryOp .Not a pos) (dNotV δa) := by
  obtain ⟨t, h1, s1⟩ := ha.ex
  refine ⟨_, pe_not h1, fun σ H τ ds k Q j s h xo q => s1 σ H τ ds _ _ j s h xo fun v τ1 H1 d e1 j1 r1 k1 => ?_⟩
  cases d with
  | bl c => exact ⟨c, r1, q (.bl (!c)) τ1 H1 (.bl (!c)) e1 j1 rfl k1⟩
  | _ => exact k1.elim
/-! a if t else b -/
def dIf (η : DT) (δa δb : DE) : DE := fun τ ds k => η τ ds fun τ1 b => if b = true then δa τ1 ds k else δb τ1 ds k
theorem pd_if (hc : PDT T X E KE c η) (ha : PD T X E KE a δa) (hb : PD T X E KE b δb) : PD T X E KE (.IfExp c a b pos) (dIf η δa δb) := by
  obtain ⟨tc, h0, s0⟩ := hc.ex
  obtain ⟨ta, h1, s1⟩ := ha.ex
  obtain ⟨tb, h2, s2⟩ := hb.ex
  refine ⟨_, pe_ifExp h0 h1 h2, fun σ H τ ds k Q j s h xo q => s0 σ H τ ds _ _ j s h xo fun d τ1 H1 e1 j1 k1 => ?_⟩
  cases d with
  | true => exact s1 σ H1 τ1 ds k Q j1 (s.ext e1) k1 (xo.ext e1) fun v τ' H' d e j' r hk => q v τ' H' d (e1.trans e) j' r hk
  | false => exact s2 σ H1 τ1 ds k Q j1 (s.ext e1) k1 (xo.ext e1) fun v τ' H' d e j' r hk => q v τ' H' d (e1.trans e) j' r hk
/-! a < b < c -/
def dChain (ρ ρ' : D2) (δa δb δc : DE) : DE := fun τ ds k => δa τ ds fun τ1 x => δb τ1 ds fun τ2 y => ρ τ2 x y fun τ3 z => match z with
  | .bl true => δc τ3 ds fun τ4 w => ρ' τ4 y w k
  | .bl false => k τ3 (.bl false)
  | _ => False
/-! arguments, displays -/
def dNil : DA := fun τ _ k => k τ []
def dCons (δ : DE) (δs : DA) : DA := fun τ ds k => δ τ ds fun τ1 x => δs τ1 ds fun τ2 xs => k τ2 (x :: xs)
theorem pda_nil : PDA T X E KE [] dNil := ⟨_, pa_nil, fun σ H τ ds k Q j s h xo q => q [] τ H [] (Ext.refl _ _) j rfl h⟩
theorem pda_cons (ha : PD T X E KE e δ) (hr : PDA T X E KE es δs) (hs : starEach (e :: es) X.env = (false, eval e X.env) :: starEach es X.env := by rfl) : PDA T X E KE (e :: es) (dCons δ δs) := by
  obtain ⟨t, h1, s1⟩ := ha.ex
  obtain ⟨u, h2, s2⟩ := hr.ex
  refine ⟨_, pa_cons h1 h2 hs, fun σ H τ ds k Q j s h xo q => s1 σ H τ ds _ _ j s h xo fun v τ1 H1 d e1 j1 r1 k1 => ?_⟩
  exact s2 σ H1 τ1 ds _ _ j1 (s.ext e1) k1 (xo.ext e1) fun vs τ' H' es e j' r hk => q (v :: vs) τ' H' (d :: es) (e1.trans e) j' ⟨v, vs, rfl, r1.ext e, r⟩ hk
def dTup (δs : DA) : DE := fun τ ds k => δs τ ds fun τ1 xs => xs.length ≤ sizeLine ∧ k τ1 (.tup xs)
def dLst (δs : DA) : DE := fun τ ds k => δs τ ds fun τ1 xs => xs.length ≤ sizeLine ∧ k τ1 (.lst xs)
/-- a new list that may be changed later -/
def dLstM (δs : DA) : DE := fun τ ds k => δs τ ds fun τ1 xs => xs.length ≤ sizeLine ∧ ∀ p, τ1 p = none → k (tset τ1 p (.lst xs)) (.ref p)
theorem pd_tup {x1} (h : PDA T X E KE es δs) : PD T X E KE (.Tuple es x1 pos) (dTup δs) := by
  obtain ⟨t, h1, s1⟩ := h.ex
  refine ⟨_, pe_tup h1, fun σ H τ ds k Q j s h xo q => s1 σ H τ ds _ _ j s h xo fun vs τ1 H1 es e1 j1 r1 k1 => ⟨by rw [r1.length]; exact k1.1, fun p hp => ?_⟩⟩
  exact q (.ref p) τ1 _ (.tup es) (e1.trans (.new hp)) (j1.new hp) ⟨p, vs, rfl, .inl ⟨.of upd_same, j1.free hp⟩, r1.ext (.new hp)⟩ k1.2
theorem pd_lst (h : PDA T X E KE es δs) : PD T X E KE (.List es pos) (dLst δs) := by
  obtain ⟨t, h1, s1⟩ := h.ex
  refine ⟨_, pe_lst h1, fun σ H τ ds k Q j s h xo q => s1 σ H τ ds _ _ j s h xo fun vs τ1 H1 es e1 j1 r1 k1 => ⟨by rw [r1.length]; exact k1.1, fun p hp => ?_⟩⟩
  exact q (.ref p) τ1 _ (.lst es) (e1.trans (.new hp)) (j1.new hp) ⟨p, vs, rfl, .inl ⟨.of upd_same, j1.free hp⟩, r1.ext (.new hp)⟩ k1.2
theorem pd_lstM (h : PDA T X E KE es δs) : PD T X E KE (.List es pos) (dLstM δs) := by
  obtain ⟨t, h1, s1⟩ := h.ex
  refine ⟨_, pe_lst h1, fun σ H τ ds k Q j s h xo q => s1 σ H τ ds _ _ j s h xo fun vs τ1 H1 es e1 j1 r1 k1 => ⟨by rw [r1.length]; exact k1.1, fun p hp => ?_⟩⟩
  have e2 : Ext τ1 H1 (tset τ1 p (.lst es)) (upd H1 p (.lst vs)) := .newM hp
  exact q (.ref p) _ _ (.ref p) (e1.trans e2) (j1.newM hp ⟨vs, upd_same, r1.ext e2⟩) rfl (k1.2 p (j1.free hp))
end
end DL

set_option Elab.async false
set_option linter.all false
set_option maxRecDepth 100000
set_option maxHeartbeats 1000000
/-! The data layer, 2: calls, statements, loops, comprehensions, defs. -/
namespace DL
open PySem PySem.Spec PyProof.Rows L2
section
variable {T : List (Addr × Str)} {X : Cx} {E : XK} {KE : XD} {e a b c o : Expr} {es : List Expr} {pos : Pos} {δ δa δb δc δo : DE} {δs : DA}
/-! ### calls of built-ins -/
abbrev DC := TD → List D → DK → Prop
def RCok (K : PySem.W.Frag) (T : List (Addr × Str)) (r : List V → Hp → VK → Prop) (ρ : DC) : Prop := ∀ τ H xs vs (k : DK) (Q : VK), J K T τ H → DRs K τ H xs vs → ρ τ xs k → (∀ v τ' H' d, Ext τ H τ' H' → J K T τ' H' → DR K τ' H' d v → k τ' d → Q v H') → r vs H Q
def dCB (ρ : DC) (δs : DA) : DE := fun τ ds k => δs τ ds fun τ1 xs => ρ τ1 xs k
theorem sndCB {K : PySem.W.Frag} {r : List V → Hp → VK → Prop} {ρ : DC} {t : TA} (hr : RCok K T r ρ) (h : SndA K T E KE t δs) : SndE K T E KE (tCB r t) (dCB ρ δs) := by
  intro σ H τ ds k Q j s h' xo q
  refine h σ H τ ds _ _ j s h' xo fun vs τ1 H1 xs e1 j1 r1 k1 => ?_
  exact hr τ1 H1 xs vs k Q j1 r1 k1 fun v τ' H' d e2 j2 r2 k2 => q v τ' H' d (e1.trans e2) j2 r2 k2
theorem pd_callB {x : Str} {id : String} {r : List V → Hp → VK → Prop} {ρ : DC} {p : Pos} (hc : CallR X (.builtin id) r) (hr : RCok X.K T r ρ) (hg : Gl X x) (hm : X.mg x = none) (hv : bootBuiltins x = some (.builtin id)) (ha : PDA T X E KE (e :: es) δs) (hn : x ≠ "__name__" := by decide) (hdb : (x == ("__debug__" : Str)) = false := by decide)
    (he : starEach (e :: es) X.env = (false, eval e X.env) :: starEach es X.env := by rfl) (hpl : (backTo pos (starEach es X.env)).any (·.1) = false := by rfl) : PD T X E KE (.Call (.Name x p) (e :: es) [] pos) (dCB ρ δs) := by
  obtain ⟨t, h1, s1⟩ := ha.ex
  exact ⟨_, pe_callB hc hg hm hv h1 hn hdb he hpl, sndCB hr s1⟩
theorem pd_callTy {x : Str} {n : String} {r : List V → Hp → VK → Prop} {ρ : DC} {p : Pos} (hc : CallR X (.type n) r) (hr : RCok X.K T r ρ) (hg : Gl X x) (hm : X.mg x = none) (hv : bootBuiltins x = some (.type n)) (ha : PDA T X E KE (e :: es) δs) (hn : x ≠ "__name__" := by decide) (hdb : (x == ("__debug__" : Str)) = false := by decide)
    (he : starEach (e :: es) X.env = (false, eval e X.env) :: starEach es X.env := by rfl) (hpl : (backTo pos (starEach es X.env)).any (·.1) = false := by rfl) : PD T X E KE (.Call (.Name x p) (e :: es) [] pos) (dCB ρ δs) := by
  obtain ⟨t, h1, s1⟩ := ha.ex
  exact ⟨_, pe_callTy hc hg hm hv h1 hn hdb he hpl, sndCB hr s1⟩
/-! ### methods of built-in types -/
abbrev DM := TD → D → List D → DK → Prop
/-- the receiver is of the type, then the method -/
def TyOk (K : PySem.W.Frag) (T : List (Addr × Str)) (ty : String) (θ : TD → D → Prop) : Prop := ∀ τ H x vx, J K T τ H → DR K τ H x vx → θ τ x → tyV K ty vx H
def RMok (K : PySem.W.Frag) (T : List (Addr × Str)) (r : V → List V → Hp → VK → Prop) (ρ : DM) : Prop := ∀ τ H x vx xs vs (k : DK) (Q : VK), J K T τ H → DR K τ H x vx → DRs K τ H xs vs → ρ τ x xs k → (∀ v τ' H' d, Ext τ H τ' H' → J K T τ' H' → DR K τ' H' d v → k τ' d → Q v H') → r vx vs H Q
def dBM (θ : TD → D → Prop) (ρ : DM) (δo : DE) (δs : DA) : DE := fun τ ds k => δo τ ds fun τ1 x => θ τ1 x ∧ δs τ1 ds fun τ2 xs => ρ τ2 x xs k
theorem pd_bm {ty id : String} {name : Str} {r : V → List V → Hp → VK → Prop} {ρ : DM} {θ : TD → D → Prop} {apos cpos : Pos} (pa : PlainAttrs ty) (slot : Slot ty name id) (hty : typeOf (.builtin id) = pure (.type "method_descriptor")) (hm : MtR X id r) (hr : RMok X.K T r ρ) (ht : TyOk X.K T ty θ)
    (ho : PD T X E KE o δo) (ha : PDA T X E KE (e :: es) δs) (hbase : attributeBase o name X.env (eval o X.env) = eval o X.env := by rfl)
    (hfew : ((backTo cpos (starEach (e :: es) X.env)).all (fun x => !x.1) && (backToKw cpos (keywordEach [] X.env)).all (fun x => x.1.isSome)
      && decide ((e :: es).length + ([] : List Keyword).length + (if ([] : List Keyword).isEmpty then 0 else 1) < 30)) = true := by rfl)
    (hline : (apos.endLine == cpos.line) = true := by rfl) (hs : starEach (e :: es) X.env = (false, eval e X.env) :: starEach es X.env := by rfl) (hplain : (backTo cpos (starEach es X.env)).any (·.1) = false := by rfl) :
    PD T X E KE (.Call (.Attribute o name apos) (e :: es) [] cpos) (dBM θ ρ δo δs) := by
  obtain ⟨to, h1, s1⟩ := ho.ex
  obtain ⟨ta, h2, s2⟩ := ha.ex
  refine ⟨_, pe_bm pa slot hty hm h1 h2 hbase hfew hline hs hplain, fun σ H τ ds k Q j s h xo q => s1 σ H τ ds _ _ j s h xo fun v τ1 H1 x e1 j1 r1 k1 => ⟨ht τ1 H1 x v j1 r1 k1.1, ?_⟩⟩
  refine s2 σ H1 τ1 ds _ _ j1 (s.ext e1) k1.2 (xo.ext e1) fun vs τ2 H2 xs e2 j2 r2 k2 => ?_
  exact hr τ2 H2 x v xs vs k Q j2 (r1.ext e2) r2 k2 fun u τ' H' d e3 j3 r3 k3 => q u τ' H' d ((e1.trans e2).trans e3) j3 r3 k3
theorem pd_bm0 {ty id : String} {name : Str} {r : V → List V → Hp → VK → Prop} {ρ : DM} {θ : TD → D → Prop} {apos cpos : Pos} (pa : PlainAttrs ty) (slot : Slot ty name id) (hty : typeOf (.builtin id) = pure (.type "method_descriptor")) (hm : MtR X id r) (hr : RMok X.K T r ρ) (ht : TyOk X.K T ty θ)
    (ho : PD T X E KE o δo) (hbase : attributeBase o name X.env (eval o X.env) = eval o X.env := by rfl) (hline : (apos.endLine == cpos.line) = true := by rfl) :
    PD T X E KE (.Call (.Attribute o name apos) [] [] cpos) (dBM θ ρ δo dNil) := by
  obtain ⟨to, h1, s1⟩ := ho.ex
  refine ⟨_, pe_bm0 pa slot hty hm h1 hbase hline, fun σ H τ ds k Q j s h xo q => s1 σ H τ ds _ _ j s h xo fun v τ1 H1 x e1 j1 r1 k1 => ⟨ht τ1 H1 x v j1 r1 k1.1, ?_⟩⟩
  exact hr τ1 H1 x v [] [] k Q j1 r1 rfl k1.2 fun u τ' H' d e3 j3 r3 k3 => q u τ' H' d (e1.trans e3) j3 r3 k3
/-! ### slices -/
abbrev DO' := TD → Sl → (TD → Option Int → Prop) → Prop
def SndO (K : PySem.W.Frag) (T : List (Addr × Str)) (E : XK) (KE : XD) (t : TO) (δ : DO') : Prop :=
  ∀ σ H τ ds (k : TD → Option Int → Prop) (Q : Option Int → Hp → Prop), J K T τ H → SR K τ H ds σ → δ τ ds k → XOk K T E KE τ H → (∀ i τ' H', Ext τ H τ' H' → J K T τ' H' → k τ' i → Q i H') → t σ H Q
structure PDO (T : List (Addr × Str)) (X : Cx) (E : XK) (KE : XD) (e : Option Expr) (δ : DO') : Prop where
  ex : ∃ t, PO X e t ∧ SndO X.K T E KE t δ
def dNoPart : DO' := fun τ _ k => k τ none
def dPart (δ : DE) : DO' := fun τ ds k => δ τ ds fun τ1 x => match x with
  | .int i => k τ1 (some i)
  | _ => False
theorem pdo_none : PDO T X E KE none dNoPart := ⟨_, po_none, fun σ H τ ds k Q j s h xo q => q none τ H (Ext.refl _ _) j h⟩
theorem pdo_some (h : PD T X E KE e δ) : PDO T X E KE (some e) (dPart δ) := by
  obtain ⟨t, h1, s1⟩ := h.ex
  refine ⟨_, po_some h1, fun σ H τ ds k Q j s h xo q => s1 σ H τ ds _ _ j s h xo fun v τ1 H1 d e1 j1 r1 k1 => ?_⟩
  cases d with
  | int i => exact ⟨i, r1, q (some i) τ1 H1 e1 j1 k1⟩
  | _ => exact k1.elim
abbrev DSl := TD → D → Option Int → Option Int → DK → Prop
def RSok (K : PySem.W.Frag) (T : List (Addr × Str)) (r : V → Option Int → Option Int → Hp → VK → Prop) (ρ : DSl) : Prop := ∀ τ H x vx lo hi (k : DK) (Q : VK), J K T τ H → DR K τ H x vx → ρ τ x lo hi k → (∀ v τ' H' d, Ext τ H τ' H' → J K T τ' H' → DR K τ' H' d v → k τ' d → Q v H') → r vx lo hi H Q
def dSl (ρ : DSl) (δ : DE) (δl δh : DO') : DE := fun τ ds k => δ τ ds fun τ1 x => δl τ1 ds fun τ2 lo => δh τ2 ds fun τ3 hi => ρ τ3 x lo hi k
theorem pd_slice {lo hi : Option Expr} {p2 : Pos} {r : V → Option Int → Option Int → Hp → VK → Prop} {ρ : DSl} {δl δh : DO'} (hr : SlR X r) (hr' : RSok X.K T r ρ) (he : PD T X E KE e δ) (hl : PDO T X E KE lo δl) (hu : PDO T X E KE hi δh) : PD T X E KE (.Subscript e (.Slice lo hi none p2) pos) (dSl ρ δ δl δh) := by
  obtain ⟨t, h1, s1⟩ := he.ex
  obtain ⟨tl, h2, s2⟩ := hl.ex
  obtain ⟨th, h3, s3⟩ := hu.ex
  refine ⟨_, pe_slice hr h1 h2 h3, fun σ H τ ds k Q j s h xo q => s1 σ H τ ds _ _ j s h xo fun v τ1 H1 d e1 j1 r1 k1 => ?_⟩
  refine s2 σ H1 τ1 ds _ _ j1 (s.ext e1) k1 (xo.ext e1) fun l τ2 H2 e2 j2 k2 => ?_
  refine s3 σ H2 τ2 ds _ _ j2 (s.ext (e1.trans e2)) k2 (xo.ext (e1.trans e2)) fun u τ3 H3 e3 j3 k3 => ?_
  exact hr' τ3 H3 d v l u k Q j3 ((r1.ext e2).ext e3) k3 fun v τ' H' d e4 j4 r4 k4 => q v τ' H' d (((e1.trans e2).trans e3).trans e4) j4 r4 k4
/-! ### chained comparisons -/
theorem pd_chain {op op' : CmpOp} {r r' : R2} {ρ ρ' : D2} (ho : OpR X (compareOp op) r) (ho' : OpR X (compareOp op') r') (hr : R2ok X.K T r ρ) (hr' : R2ok X.K T r' ρ') (ha : PD T X E KE a δa) (hb : PD T X E KE b δb) (hc : PD T X E KE c δc)
    (h1 : behindInMarks op b = false) (h2 : behindInMarks op' c = false)
    (mk : ∀ ta tb tc, PE X a ta → PE X b tb → PE X c tc → PE X (.Compare a [op, op'] [b, c] pos) (tChain r r' ta tb tc)) : PD T X E KE (.Compare a [op, op'] [b, c] pos) (dChain ρ ρ' δa δb δc) := by
  obtain ⟨ta, p1, s1⟩ := ha.ex
  obtain ⟨tb, p2, s2⟩ := hb.ex
  obtain ⟨tc, p3, s3⟩ := hc.ex
  refine ⟨_, mk _ _ _ p1 p2 p3, fun σ H τ ds k Q j s h xo q => s1 σ H τ ds _ _ j s h xo fun vx τ1 H1 x e1 j1 r1 k1 => ?_⟩
  refine s2 σ H1 τ1 ds _ _ j1 (s.ext e1) k1 (xo.ext e1) fun vy τ2 H2 y e2 j2 r2 k2 => ?_
  refine hr τ2 H2 x y vx vy _ _ j2 (r1.ext e2) r2 k2 fun v τ3 H3 d e3 j3 r3 k3 => ?_
  cases d with
  | bl z =>
    refine ⟨z, r3, ?_⟩
    cases z with
    | true =>
      refine s3 σ H3 τ3 ds _ _ j3 (s.ext ((e1.trans e2).trans e3)) k3 (xo.ext ((e1.trans e2).trans e3)) fun vw τ4 H4 w e4 j4 r4 k4 => ?_
      exact hr' τ4 H4 y w vy vw k Q j4 ((r2.ext e3).ext e4) r4 k4 fun v τ' H' d e5 j5 r5 k5 => q v τ' H' d ((((e1.trans e2).trans e3).trans e4).trans e5) j5 r5 k5
    | false => exact q (.bl false) τ3 H3 (.bl false) ((e1.trans e2).trans e3) j3 rfl k3
  | _ => exact k3.elim
/-! ### calls of defs -/
/-- what a def does: the mutable objects, the arguments, what is wanted of its value, of its exception -/
abbrev SpD := TD → List D → DK → XD → Prop
def spOf (K : PySem.W.Frag) (T : List (Addr × Str)) (n : Nat) (sp : SpD) : Sp := fun vs H Q E => ∃ (τ : TD) (ds : List D) (k : DK) (KE : XD), J K T τ H ∧ DRs K τ H ds vs ∧ ds.length = n ∧ sp τ ds k KE ∧ XOk K T E KE τ H ∧
  ∀ v τ' H' d, Ext τ H τ' H' → J K T τ' H' → DR K τ' H' d v → k τ' d → Q v H'
abbrev FnD (P : Program) (w : World) (K : PySem.W.Frag) (mg : Str → Option Value) (base : Heap) (T : List (Addr × Str)) (k : Nat) (f : Addr) (fd : FuncData) (ps : List Str) (sp : SpD) : Prop := FnOk P w K mg base (L2.CX P w) k f fd ps (spOf K T ps.length sp)
def dCall (n : Nat) (sp : SpD) (dd : List D) (KE : XD) (δs : DA) : DE := fun τ ds k => δs τ ds fun τ1 xs => (xs ++ dd).length = n ∧ sp τ1 (xs ++ dd) k KE
/-- the defaults -/
def Dfl (K : PySem.W.Frag) (dd : List D) (dvs : List V) : Prop := ∀ τ H, DRs K τ H dd dvs
theorem Dfl.nil {K : PySem.W.Frag} : Dfl K [] [] := fun _ _ => rfl
theorem sndCall {K : PySem.W.Frag} {n : Nat} {sp : SpD} {dd : List D} {dvs : List V} {t : TA} (hd : Dfl K dd dvs) (h : SndA K T E KE t δs) : SndE K T E KE (tCall (spOf K T n sp) dvs E t) (dCall n sp dd KE δs) := by
  intro σ H τ ds k Q j s h' xo q
  refine h σ H τ ds _ _ j s h' xo fun vs τ1 H1 xs e1 j1 r1 k1 => ?_
  exact ⟨τ1, xs ++ dd, k, KE, j1, r1.append (hd _ _), k1.1, k1.2, xo.ext e1, fun v τ' H' d e2 j2 r2 k2 => q v τ' H' d (e1.trans e2) j2 r2 k2⟩
theorem pd_call {x : Str} {k : Nat} {f : Addr} {fd : FuncData} {ps : List Str} {sp : SpD} {dd : List D} {dvs : List V} {dfs : List Value} {p : Pos} (F : FnD X.prog X.w X.K X.mg X.base T k f fd ps sp) (hr : Room k X.A) (hg : Gl X x) (hm : X.mg x = some (.ref f)) (hk : PySem.W.keepIn X.K (.ref f) = true) (hb : Binds X.K fd ps dfs) (hd : Vals dvs dfs) (hdd : Dfl X.K dd dvs)
    (hx : Passes (L2.CX X.prog X.w) X E) (ha : PDA T X E KE (e :: es) δs) (hdb : (x == ("__debug__" : Str)) = false := by decide) (he : starEach (e :: es) X.env = (false, eval e X.env) :: starEach es X.env := by rfl) (hpl : (backTo pos (starEach es X.env)).any (·.1) = false := by rfl) :
    PD T X E KE (.Call (.Name x p) (e :: es) [] pos) (dCall ps.length sp dd KE δs) := by
  obtain ⟨t, h1, s1⟩ := ha.ex
  exact ⟨_, pe_call F hr hg hm hk hb hd hx h1 hdb he hpl, sndCall hdd s1⟩
theorem pd_call0 {x : Str} {k : Nat} {f : Addr} {fd : FuncData} {ps : List Str} {sp : SpD} {dd : List D} {dvs : List V} {dfs : List Value} {p : Pos} (F : FnD X.prog X.w X.K X.mg X.base T k f fd ps sp) (hr : Room k X.A) (hg : Gl X x) (hm : X.mg x = some (.ref f)) (hk : PySem.W.keepIn X.K (.ref f) = true) (hb : Binds X.K fd ps dfs) (hd : Vals dvs dfs) (hdd : Dfl X.K dd dvs)
    (hx : Passes (L2.CX X.prog X.w) X E) (hdb : (x == ("__debug__" : Str)) = false := by decide) : PD T X E KE (.Call (.Name x p) [] [] pos) (dCall ps.length sp dd KE dNil) := by
  obtain ⟨t, h1, s1⟩ := (pda_nil (T := T) (X := X) (E := E) (KE := KE)).ex
  refine ⟨_, pe_call0 F hr hg hm hk hb hd hx hdb, ?_⟩
  exact sndCall hdd (fun σ H τ ds k Q j s h xo q => q [] τ H [] (Ext.refl _ _) j rfl h)
/-- f(a, k=b): how positional and named arguments stand in the parameters' order -/
structure PDK (T : List (Addr × Str)) (X : Cx) (E : XK) (KE : XD) (kws : List Keyword) (δ : DA) : Prop where
  ex : ∃ t, PK X kws t ∧ SndA X.K T E KE t δ
theorem pdk_nil : PDK T X E KE [] dNil := ⟨_, pk_nil, fun σ H τ ds k Q j s h xo q => q [] τ H [] (Ext.refl _ _) j rfl h⟩
theorem pdk_cons {nm : Option Str} {kpos : Pos} {kws : List Keyword} {δs : DA} (ha : PD T X E KE e δ) (hr : PDK T X E KE kws δs) (mk : ∀ te t, PE X e te → PK X kws t → PK X (⟨nm, e, kpos⟩ :: kws) (tCons te t)) : PDK T X E KE (⟨nm, e, kpos⟩ :: kws) (dCons δ δs) := by
  obtain ⟨t, h1, s1⟩ := ha.ex
  obtain ⟨u, h2, s2⟩ := hr.ex
  refine ⟨_, mk _ _ h1 h2, fun σ H τ ds k Q j s h xo q => s1 σ H τ ds _ _ j s h xo fun v τ1 H1 d e1 j1 r1 k1 => ?_⟩
  exact s2 σ H1 τ1 ds _ _ j1 (s.ext e1) k1 (xo.ext e1) fun vs τ' H' es e j' r hk => q (v :: vs) τ' H' (d :: es) (e1.trans e) j' ⟨v, vs, rfl, r1.ext e, r⟩ hk
def dCallK (n : Nat) (sp : SpD) (gD : List D → List D → List D) (KE : XD) (δs δk : DA) : DE := fun τ ds k => δs τ ds fun τ1 xs => δk τ1 ds fun τ2 zs => (gD xs zs).length = n ∧ sp τ2 (gD xs zs) k KE
/-! ### statements -/
structure EndsD where
  nx : TD → Sl → Prop
  rt : DK
  bk : TD → Sl → Prop := fun _ _ => False
  ct : TD → Sl → Prop := fun _ _ => False
abbrev DS := EndsD → TD → Sl → Prop
structure EOk (K : PySem.W.Frag) (T : List (Addr × Str)) (F : EndsD) (D' : Ends) (τ : TD) (H : Hp) : Prop where
  nx : ∀ τ' H' ds' σ', Ext τ H τ' H' → J K T τ' H' → SR K τ' H' ds' σ' → F.nx τ' ds' → D'.nx σ' H'
  bk : ∀ τ' H' ds' σ', Ext τ H τ' H' → J K T τ' H' → SR K τ' H' ds' σ' → F.bk τ' ds' → D'.bk σ' H'
  ct : ∀ τ' H' ds' σ', Ext τ H τ' H' → J K T τ' H' → SR K τ' H' ds' σ' → F.ct τ' ds' → D'.ct σ' H'
  rt : ∀ τ' H' d v, Ext τ H τ' H' → J K T τ' H' → DR K τ' H' d v → F.rt τ' d → D'.rt v H'
theorem EOk.ext {K : PySem.W.Frag} {F : EndsD} {D' : Ends} {τ τ' : TD} {H H' : Hp} (h : EOk K T F D' τ H) (e : Ext τ H τ' H') : EOk K T F D' τ' H' :=
  ⟨fun τ2 H2 ds σ e2 => h.nx τ2 H2 ds σ (e.trans e2), fun τ2 H2 ds σ e2 => h.bk τ2 H2 ds σ (e.trans e2), fun τ2 H2 ds σ e2 => h.ct τ2 H2 ds σ (e.trans e2), fun τ2 H2 d v e2 => h.rt τ2 H2 d v (e.trans e2)⟩
def SndS (K : PySem.W.Frag) (T : List (Addr × Str)) (E : XK) (KE : XD) (t : TS) (δ : DS) : Prop :=
  ∀ σ H τ ds (F : EndsD) (D' : Ends), J K T τ H → SR K τ H ds σ → δ F τ ds → XOk K T E KE τ H → EOk K T F D' τ H → t D' σ H
structure PDS (T : List (Addr × Str)) (X : Cx) (E : XK) (KE : XD) (st : Stmt) (δ : DS) : Prop where
  ex : ∃ t, PS X st t ∧ SndS X.K T E KE t δ
structure PDSs (T : List (Addr × Str)) (X : Cx) (E : XK) (KE : XD) (st : List Stmt) (δ : DS) : Prop where
  ex : ∃ t, PSs X st t ∧ SndS X.K T E KE t δ
variable {st : Stmt} {rest : List Stmt} {ε ζ : DS}
def dNext : DS := fun F τ ds => F.nx τ ds
def dBrk : DS := fun F τ ds => F.bk τ ds
def dCnt : DS := fun F τ ds => F.ct τ ds
def dNever : DS := fun _ _ _ => False
def dSeq (ε ζ : DS) : DS := fun F τ ds => ε { F with nx := ζ F } τ ds
theorem pdss_nil : PDSs T X E KE [] dNext := ⟨_, pss_nil, fun σ H τ ds F D' j s h xo eo => eo.nx τ H ds σ (Ext.refl _ _) j s h⟩
theorem pdss_cons (h1 : PDS T X E KE st ε) (h2 : PDSs T X E KE rest ζ) : PDSs T X E KE (st :: rest) (dSeq ε ζ) := by
  obtain ⟨t, p1, s1⟩ := h1.ex
  obtain ⟨u, p2, s2⟩ := h2.ex
  refine ⟨_, pss_cons p1 p2, fun σ H τ ds F D' j s h xo eo => ?_⟩
  refine s1 σ H τ ds { F with nx := ζ F } { D' with nx := u D' } j s h xo ⟨fun τ' H' ds' σ' e j' s' h' => ?_, eo.bk, eo.ct, eo.rt⟩
  exact s2 σ' H' τ' ds' F D' j' s' h' (xo.ext e) (eo.ext e)
theorem pdss_one (h1 : PDS T X E KE st ε) : PDSs T X E KE [st] ε := by
  obtain ⟨t, p1, s1⟩ := h1.ex
  exact ⟨_, pss_one p1, s1⟩
theorem pdss_never {sts : List Stmt} : PDSs T X E KE sts dNever := ⟨_, pss_never, fun σ H τ ds F D' j s h xo eo => h.elim⟩
theorem pds_never : PDS T X E KE st dNever := ⟨_, ps_never, fun σ H τ ds F D' j s h xo eo => h.elim⟩
theorem pds_pass : PDS T X E KE (.Pass pos) dNext := ⟨_, ps_pass, fun σ H τ ds F D' j s h xo eo => eo.nx τ H ds σ (Ext.refl _ _) j s h⟩
theorem pds_brk : PDS T X E KE (.Break pos) dBrk := ⟨_, ps_break, fun σ H τ ds F D' j s h xo eo => eo.bk τ H ds σ (Ext.refl _ _) j s h⟩
theorem pds_cont : PDS T X E KE (.Continue pos) dCnt := ⟨_, ps_continue, fun σ H τ ds F D' j s h xo eo => eo.ct τ H ds σ (Ext.refl _ _) j s h⟩
def dDrop (δ : DE) : DS := fun F τ ds => δ τ ds fun τ1 _ => F.nx τ1 ds
theorem pds_expr (he : PD T X E KE e δ) (hs : swapsWith e none pos.line X.env = pure false := by rfl) : PDS T X E KE (.Expr e pos) (dDrop δ) := by
  obtain ⟨t, h1, s1⟩ := he.ex
  exact ⟨_, ps_expr h1 hs, fun σ H τ ds F D' j s h xo eo => s1 σ H τ ds _ _ j s h xo fun v τ' H' d e' j' r k => eo.nx τ' H' ds σ e' j' (s.ext e') k⟩
def dRet (δ : DE) : DS := fun F τ ds => δ τ ds F.rt
theorem pds_ret (he : PD T X E KE e δ) : PDS T X E KE (.Return (some e) pos) (dRet δ) := by
  obtain ⟨t, h1, s1⟩ := he.ex
  exact ⟨_, ps_ret h1, fun σ H τ ds F D' j s h xo eo => s1 σ H τ ds _ _ j s h xo fun v τ' H' d e' j' r k => eo.rt τ' H' d v e' j' r k⟩
def dRetN : DS := fun F τ _ => F.rt τ .non
theorem pds_retN : PDS T X E KE (.Return none pos) dRetN := ⟨_, ps_retN, fun σ H τ ds F D' j s h xo eo => eo.rt τ H .non .non (Ext.refl _ _) j rfl h⟩
def dIfS (η : DT) (ε ζ : DS) : DS := fun F τ ds => η τ ds fun τ1 b => if b = true then ε F τ1 ds else ζ F τ1 ds
theorem pds_if {a' b' : List Stmt} {η : DT} (hc : PDT T X E KE c η) (ha : PDSs T X E KE a' ε) (hb : PDSs T X E KE b' ζ) : PDS T X E KE (.If c a' b' pos) (dIfS η ε ζ) := by
  obtain ⟨tc, h0, s0⟩ := hc.ex
  obtain ⟨ta, h1, s1⟩ := ha.ex
  obtain ⟨tb, h2, s2⟩ := hb.ex
  refine ⟨_, ps_if h0 h1 h2, fun σ H τ ds F D' j s h xo eo => s0 σ H τ ds _ _ j s h xo fun d τ1 H1 e1 j1 k1 => ?_⟩
  cases d with
  | true => exact s1 σ H1 τ1 ds F D' j1 (s.ext e1) k1 (xo.ext e1) (eo.ext e1)
  | false => exact s2 σ H1 τ1 ds F D' j1 (s.ext e1) k1 (xo.ext e1) (eo.ext e1)
/-! targets -/
abbrev DG := D → TD → Sl → (TD → Sl → Prop) → Prop
abbrev DGs := List D → TD → Sl → (TD → Sl → Prop) → Prop
def SndG (K : PySem.W.Frag) (T : List (Addr × Str)) (E : XK) (KE : XD) (g : TG) (γ : DG) : Prop :=
  ∀ v σ H τ ds d (k : TD → Sl → Prop) (Q : L2.St → Hp → Prop), J K T τ H → SR K τ H ds σ → DR K τ H d v → γ d τ ds k → XOk K T E KE τ H → (∀ σ' H' τ' ds', Ext τ H τ' H' → J K T τ' H' → SR K τ' H' ds' σ' → k τ' ds' → Q σ' H') → g v σ H Q
def SndGs (K : PySem.W.Frag) (T : List (Addr × Str)) (E : XK) (KE : XD) (g : TGs) (γ : DGs) : Prop :=
  ∀ vs σ H τ ds es (k : TD → Sl → Prop) (Q : L2.St → Hp → Prop), J K T τ H → SR K τ H ds σ → DRs K τ H es vs → γ es τ ds k → XOk K T E KE τ H → (∀ σ' H' τ' ds', Ext τ H τ' H' → J K T τ' H' → SR K τ' H' ds' σ' → k τ' ds' → Q σ' H') → g vs σ H Q
/-- it stores in the slots vs alone -/
def WipG (ws : List Nat) (g : TG) : Prop := ∀ v σ σ0 H Q, wipe σ ws = σ0 → g v σ H Q → g v σ H fun σ2 H2 => wipe σ2 ws = σ0 ∧ Q σ2 H2
def WipGs (ws : List Nat) (g : TGs) : Prop := ∀ vs σ σ0 H Q, wipe σ ws = σ0 → g vs σ H Q → g vs σ H fun σ2 H2 => wipe σ2 ws = σ0 ∧ Q σ2 H2
structure PDG (T : List (Addr × Str)) (X : Cx) (E : XK) (KE : XD) (tg : Expr) (γ : DG) : Prop where
  ex : ∃ g, PG X tg g ∧ SndG X.K T E KE g γ
structure PDGs (T : List (Addr × Str)) (X : Cx) (E : XK) (KE : XD) (tg : List Expr) (γ : DGs) : Prop where
  ex : ∃ g, PGs X tg g ∧ SndGs X.K T E KE g γ
structure PDN (T : List (Addr × Str)) (X : Cx) (ws : List Nat) (tg : Expr) (γ : DG) : Prop where
  ex : ∃ g, PG X tg g ∧ (∀ E KE, SndG X.K T E KE g γ) ∧ WipG ws g
structure PDNs (T : List (Addr × Str)) (X : Cx) (ws : List Nat) (tg : List Expr) (γ : DGs) : Prop where
  ex : ∃ g, PGs X tg g ∧ (∀ E KE, SndGs X.K T E KE g γ) ∧ WipGs ws g
def γName (i : Nat) : DG := fun d τ ds k => k τ (ds.set i (some d))
def γNil : DGs := fun es τ ds k => match es with
  | [] => k τ ds
  | _ => False
def γCons (γ : DG) (γs : DGs) : DGs := fun es τ ds k => match es with
  | [] => False
  | d :: es => γ d τ ds fun τ1 ds1 => γs es τ1 ds1 k
def γTup (n : Nat) (γs : DGs) : DG := fun d τ ds k => match d with
  | .tup es => es.length = n ∧ γs es τ ds k
  | _ => False
theorem wipe_get {σ : L2.St} {i : Nat} : ∀ {ws : List Nat}, (wipe σ ws)[i]? = if i ∈ ws ∧ i < σ.length then some none else σ[i]?
  | [] => by simp [wipe]
  | w :: ws => by
    unfold wipe
    by_cases h : i = w
    · subst h
      by_cases hl : i < σ.length
      · rw [List.getElem?_set_self (by rw [wipe_length]; exact hl)]
        simp [hl]
      · rw [List.getElem?_eq_none (by simp [wipe_length]; omega)]
        have : σ[i]? = none := List.getElem?_eq_none (by omega)
        simp [hl, this]
    · rw [List.getElem?_set_ne (Ne.symm h), wipe_get]
      simp [h]
theorem wipe_set {σ : L2.St} {i : Nat} {x : Option V} {ws : List Nat} (h : i ∈ ws) : wipe (σ.set i x) ws = wipe σ ws := by
  refine List.ext_getElem? fun j => ?_
  rw [wipe_get, wipe_get]
  by_cases hj : j ∈ ws ∧ j < σ.length
  · rw [if_pos hj, if_pos (by simpa using hj)]
  · rw [if_neg hj, if_neg (by simpa using hj)]
    by_cases hi : j = i
    · subst hi
      have hl : ¬ j < σ.length := fun z => hj ⟨h, z⟩
      rw [List.getElem?_eq_none (by simp; omega), List.getElem?_eq_none (by omega)]
    · rw [List.getElem?_set_ne (Ne.symm hi)]
theorem sndName {K : PySem.W.Frag} {i : Nat} {E : XK} {KE : XD} : SndG K T E KE (gName i) (γName i) := fun v σ H τ ds d k Q j s r h xo q => q _ H τ _ (Ext.refl _ _) j (s.set i r) h
theorem wipName {i : Nat} {ws : List Nat} (h : i ∈ ws) : WipG ws (gName i) := fun v σ σ0 H Q e q => ⟨by rw [← e]; exact wipe_set h, q⟩
theorem sndGNil {K : PySem.W.Frag} {E : XK} {KE : XD} : SndGs K T E KE gNil γNil := fun vs σ H τ ds es k Q j s r h xo q => by
  cases es with
  | nil =>
    have e : vs = [] := r
    exact ⟨e, q σ H τ ds (Ext.refl _ _) j s h⟩
  | cons d es => exact h.elim
theorem sndGCons {K : PySem.W.Frag} {E : XK} {KE : XD} {g : TG} {u : TGs} {γ : DG} {γs : DGs} (h1 : SndG K T E KE g γ) (h2 : SndGs K T E KE u γs) : SndGs K T E KE (gCons g u) (γCons γ γs) := fun vs σ H τ ds es k Q j s r h xo q => by
  cases es with
  | nil => exact h.elim
  | cons d es =>
    obtain ⟨v, vr, e, r1, r2⟩ := r
    refine ⟨v, vr, e, h1 v σ H τ ds d _ _ j s r1 h xo fun σ' H' τ' ds' e' j' s' k' => ?_⟩
    exact h2 vr σ' H' τ' ds' es k Q j' s' (r2.ext e') k' (xo.ext e') fun σ2 H2 τ2 ds2 e2 j2 s2 k2 => q σ2 H2 τ2 ds2 (e'.trans e2) j2 s2 k2
theorem sndGTup {K : PySem.W.Frag} {E : XK} {KE : XD} {n : Nat} {u : TGs} {γs : DGs} (h : SndGs K T E KE u γs) : SndG K T E KE (gTup K n u) (γTup n γs) := fun v σ H τ ds d k Q j s r h' xo q => by
  cases d with
  | tup es =>
    obtain ⟨a, xs, e, t, r2⟩ := r
    exact ⟨a, xs, e, t.sq, r2.length.trans h'.1, h xs σ H τ ds es k Q j s r2 h'.2 xo q⟩
  | _ => exact h'.elim
theorem wipGNil {ws : List Nat} : WipGs ws gNil := fun vs σ σ0 H Q e q => ⟨q.1, e, q.2⟩
theorem wipGCons {ws : List Nat} {g : TG} {u : TGs} (h1 : WipG ws g) (h2 : WipGs ws u) (mono : ∀ v σ H Q Q', (∀ a b, Q a b → Q' a b) → g v σ H Q → g v σ H Q') : WipGs ws (gCons g u) := fun vs σ σ0 H Q e q => by
  obtain ⟨v, r, ev, q⟩ := q
  exact ⟨v, r, ev, mono _ _ _ _ _ (fun σ2 H2 z => h2 r σ2 σ0 H2 Q z.1 z.2) (h1 v σ σ0 H _ e q)⟩
theorem wipGTup {ws : List Nat} {K : PySem.W.Frag} {n : Nat} {u : TGs} (h : WipGs ws u) : WipG ws (gTup K n u) := fun v σ σ0 H Q e q => by
  obtain ⟨a, xs, e1, e2, e3, q⟩ := q
  exact ⟨a, xs, e1, e2, e3, h xs σ σ0 H Q e q⟩
theorem pdg_name {i : Nat} {x : Str} (hN : X.N.Nodup) (hi : X.N[i]? = some x) (hx : Loc X.env.scope x) (hf : X.fn x = true ∨ X.env.scope.names.lookup x = some .local := by first | exact .inl rfl | exact .inr rfl | assumption) : PDG T X E KE (.Name x pos) (γName i) := ⟨_, pg_name hN hi hx hf, sndName⟩
theorem pdgs_nil : PDGs T X E KE [] γNil := ⟨_, pgs_nil, sndGNil⟩
theorem pdgs_cons {γ : DG} {γs : DGs} (h1 : PDG T X E KE e γ) (h2 : PDGs T X E KE es γs) (hs : (assignEach (e :: es) X.env).map (·.2) = assign e X.env :: (assignEach es X.env).map (·.2) := by rfl) : PDGs T X E KE (e :: es) (γCons γ γs) := by
  obtain ⟨g, p1, s1⟩ := h1.ex
  obtain ⟨u, p2, s2⟩ := h2.ex
  exact ⟨_, pgs_cons p1 p2 hs, sndGCons s1 s2⟩
theorem pdg_tup {k n : Nat} {γs : DGs} (hc : X.calm = true) (h : PDGs T X E KE es γs) (hn : (assignEach es X.env).length = n := by rfl) (hst : (assignEach es X.env).findIdx? (·.1) = none := by rfl) : PDG T X E KE (.Tuple es k pos) (γTup n γs) := by
  obtain ⟨u, p2, s2⟩ := h.ex
  exact ⟨_, pg_tup hc p2 hn hst, sndGTup s2⟩
theorem pdn_name {i : Nat} {x : Str} {ws : List Nat} (hN : X.N.Nodup) (hi : X.N[i]? = some x) (hx : Loc X.env.scope x) (hw : i ∈ ws) (hf : X.fn x = true ∨ X.env.scope.names.lookup x = some .local := by first | exact .inl rfl | exact .inr rfl | assumption) : PDN T X ws (.Name x pos) (γName i) := ⟨_, pg_name hN hi hx hf, fun _ _ => sndName, wipName hw⟩
/-- two names -/
theorem pdn_two {i j k : Nat} {x y : Str} {ws : List Nat} {p1 p2 : Pos} (hc : X.calm = true) (hN : X.N.Nodup) (hi : X.N[i]? = some x) (hj : X.N[j]? = some y) (hx : Loc X.env.scope x) (hy : Loc X.env.scope y) (hw : i ∈ ws) (hw2 : j ∈ ws)
    (hf : X.fn x = true ∨ X.env.scope.names.lookup x = some .local := by first | exact .inl rfl | exact .inr rfl | assumption) (hf2 : X.fn y = true ∨ X.env.scope.names.lookup y = some .local := by first | exact .inl rfl | exact .inr rfl | assumption)
    (hs1 : (assignEach [.Name x p1, .Name y p2] X.env).map (·.2) = assign (.Name x p1) X.env :: (assignEach [.Name y p2] X.env).map (·.2) := by rfl) (hs2 : (assignEach [.Name y p2] X.env).map (·.2) = assign (.Name y p2) X.env :: (assignEach [] X.env).map (·.2) := by rfl)
    (hn : (assignEach [.Name x p1, .Name y p2] X.env).length = 2 := by rfl) (hst : (assignEach [.Name x p1, .Name y p2] X.env).findIdx? (·.1) = none := by rfl) : PDN T X ws (.Tuple [.Name x p1, .Name y p2] k pos) (γTup 2 (γCons (γName i) (γCons (γName j) γNil))) :=
  ⟨_, pg_tup hc (pgs_cons (pg_name hN hi hx hf) (pgs_cons (pg_name hN hj hy hf2) pgs_nil hs2) hs1) hn hst, fun _ _ => sndGTup (sndGCons sndName (sndGCons sndName sndGNil)), wipGTup (wipGCons (wipName hw) (wipGCons (wipName hw2) wipGNil fun _ _ _ _ _ h q => h _ _ q) fun _ _ _ _ _ h q => h _ _ q)⟩
/-! o[i] = v -/
abbrev DSet := TD → D → D → D → (TD → Prop) → Prop
def RSet (K : PySem.W.Frag) (T : List (Addr × Str)) (t : TSet) (ς : DSet) : Prop := ∀ τ H x i y vx vi vy (k : TD → Prop) (Q : Hp → Prop), J K T τ H → DR K τ H x vx → DR K τ H i vi → DR K τ H y vy → ς τ x i y k → (∀ τ' H', Ext τ H τ' H' → J K T τ' H' → k τ' → Q H') → t vx vi vy H Q
def γSub (δo δi : DE) (ς : DSet) : DG := fun d τ ds k => δo τ ds fun τ1 x => δi τ1 ds fun τ2 i => ς τ2 x i d fun τ3 => k τ3 ds
theorem pdg_sub {i : Expr} {δi : DE} {t : TSet} {ς : DSet} (ho : PD T X E KE o δo) (hi : PD T X E KE i δi) (hs : PSet X t) (hr : RSet X.K T t ς)
    (ha : ∀ v, assign (.Subscript o i pos) X.env v = (do
      let ov ← holding [v] (eval o X.env)
      let iv ← holding [v, ov] (eval i X.env)
      standAt pos
      holding [v, ov, iv] (setItem ov iv v)
      release [v, ov, iv] []) := by intro _; rfl) : PDG T X E KE (.Subscript o i pos) (γSub δo δi ς) := by
  obtain ⟨to, p1, s1⟩ := ho.ex
  obtain ⟨ti, p2, s2⟩ := hi.ex
  refine ⟨_, pg_sub p1 p2 hs ha, fun v σ H τ ds d k Q j s r h xo q => s1 σ H τ ds _ _ j s h xo fun vx τ1 H1 x e1 j1 r1 k1 => ?_⟩
  refine s2 σ H1 τ1 ds _ _ j1 (s.ext e1) k1 (xo.ext e1) fun vi τ2 H2 y e2 j2 r2 k2 => ?_
  exact hr τ2 H2 x y d vx vi v _ _ j2 (r1.ext e2) r2 (r.ext (e1.trans e2)) k2 fun τ3 H3 e3 j3 k3 => q σ H3 τ3 ds ((e1.trans e2).trans e3) j3 (s.ext ((e1.trans e2).trans e3)) k3
/-! assignments -/
def dAsg (δ : DE) (γ : DG) : DS := fun F τ ds => δ τ ds fun τ1 d => γ d τ1 ds F.nx
theorem sndAsg {K : PySem.W.Frag} {te : TE} {g : TG} {γ : DG} (h1 : SndE K T E KE te δ) (h2 : SndG K T E KE g γ) : SndS K T E KE (tAsg te g) (dAsg δ γ) := fun σ H τ ds F D' j s h xo eo =>
  h1 σ H τ ds _ _ j s h xo fun v τ1 H1 d e1 j1 r1 k1 => h2 v σ H1 τ1 ds d F.nx _ j1 (s.ext e1) r1 k1 (xo.ext e1) fun σ' H' τ' ds' e' j' s' k' => eo.nx τ' H' ds' σ' (e1.trans e') j' s' k'
theorem pds_asg {tg : Expr} {γ : DG} (he : PD T X E KE e δ) (hg : PDG T X E KE tg γ) (hs : swapsWithSole [tg] e pos.line X.env = pure false := by rfl) (hw : swappedStores [tg] e X.env = pure none := by rfl)
    (h1 : (assignEach [tg] X.env).map (·.2) = [assign tg X.env] := by rfl) : PDS T X E KE (.Assign [tg] e pos) (dAsg δ γ) := by
  obtain ⟨t, p1, s1⟩ := he.ex
  obtain ⟨g, p2, s2⟩ := hg.ex
  exact ⟨_, ps_asg p1 p2 hs hw h1, sndAsg s1 s2⟩
theorem pds_set {i : Nat} {x : Str} {pos' : Pos} (hN : X.N.Nodup) (hi : X.N[i]? = some x) (hx : Loc X.env.scope x) (he : PD T X E KE e δ) (hs : swapsWith e (some (.Name x pos')) pos.line X.env = pure false := by rfl) (hf : X.fn x = true ∨ X.env.scope.names.lookup x = some .local := by first | exact .inl rfl | exact .inr rfl | assumption) :
    PDS T X E KE (.Assign [.Name x pos'] e pos) (dAsg δ (γName i)) := by
  obtain ⟨t, p1, s1⟩ := he.ex
  exact ⟨_, ps_set hN hi hx p1 hs hf, sndAsg s1 sndName⟩
def dPar (i j : Nat) (δs : DA) : DS := fun F τ ds => δs τ ds fun τ1 es => match es with
  | [x, y] => F.nx τ1 ((ds.set i (some x)).set j (some y))
  | _ => False
theorem pds_par {i j : Nat} {x y : Str} {px py pt : Pos} {kt k2 pt2} {δs : DA} (hc : X.calm = true) (hN : X.N.Nodup) (hi : X.N[i]? = some x) (hj : X.N[j]? = some y) (hij : i ≠ j)
    (hx : X.env.scope.names.lookup x = some .local) (hy : X.env.scope.names.lookup y = some .local) (ha : PDA T X E KE [a, b] δs)
    (hw : swappedStores [.Tuple [.Name x px, .Name y py] kt pt] (.Tuple [a, b] k2 pt2) X.env = pure (some [x, y]) := by rfl)
    (hs : swapsWithSole [.Tuple [.Name x px, .Name y py] kt pt] (.Tuple [a, b] k2 pt2) pos.line X.env = pure false := by rfl) :
    PDS T X E KE (.Assign [.Tuple [.Name x px, .Name y py] kt pt] (.Tuple [a, b] k2 pt2) pos) (dPar i j δs) := by
  obtain ⟨t, p1, s1⟩ := ha.ex
  refine ⟨_, ps_par hc hN hi hj hij hx hy p1 hw hs, fun σ H τ ds F D' j s h xo eo => s1 σ H τ ds _ _ j s h xo fun vs τ1 H1 es e1 j1 r1 k1 => ?_⟩
  match es, k1, r1 with
  | [x, y], k1, r1 =>
    obtain ⟨v, r, ev, h1, w, r', ew, h2, er⟩ := r1
    have er : r' = [] := er
    subst er ew ev
    exact ⟨v, w, rfl, eo.nx τ1 H1 _ _ e1 j1 (((s.ext e1).set _ h1).set _ h2) k1⟩
def RIok (K : PySem.W.Frag) (T : List (Addr × Str)) (r : TIp) (ρ : D2) : Prop := R2ok K T r ρ
def dAug (i : Nat) (δ : DE) (ρ : D2) : DS := fun F τ ds => match ds[i]? with
  | some (some x) => δ τ ds fun τ1 y => ρ τ1 x y fun τ2 z => F.nx τ2 (ds.set i (some z))
  | _ => False
theorem pds_aug {i : Nat} {x : Str} {op : Operator} {ti : TIp} {ρ : D2} {pos' : Pos} (hN : X.N.Nodup) (hi : X.N[i]? = some x) (hx : Loc X.env.scope x) (he : PD T X E KE e δ) (ho : PIp X op ti) (hr : R2ok X.K T ti ρ) (hf : X.fn x = true ∨ X.env.scope.names.lookup x = some .local := by first | exact .inl rfl | exact .inr rfl | assumption) :
    PDS T X E KE (.AugAssign (.Name x pos') op e pos) (dAug i δ ρ) := by
  obtain ⟨t, p1, s1⟩ := he.ex
  refine ⟨_, ps_aug hN hi hx p1 ho hf, fun σ H τ ds F D' j s h xo eo => ?_⟩
  unfold dAug at h
  split at h
  · rename_i d hd
    obtain ⟨v, h1, r0⟩ := s.at_ i d hd
    refine ⟨v, h1, s1 σ H τ ds _ _ j s h xo fun vy τ1 H1 y e1 j1 r1 k1 => ?_⟩
    exact hr τ1 H1 d y v vy _ _ j1 (r0.ext e1) r1 k1 fun z τ2 H2 dz e2 j2 r2 k2 => eo.nx τ2 H2 _ _ (e1.trans e2) j2 ((s.ext (e1.trans e2)).set i r2) k2
  · exact h.elim
end
end DL

set_option Elab.async false
set_option linter.all false
set_option maxRecDepth 100000
set_option maxHeartbeats 1000000
/-! The data layer, 3: what is walked, for, while, comprehensions, defs. -/
namespace DL
open PySem PySem.Spec PyProof.Rows L2
/-! ### what is walked -/
abbrev DI := TD → Sl → (TD → List D → Prop) → Prop
/-- an iterator that gives the items of xs, one by one, whatever happens to mutable objects -/
structure ItOk (K : PySem.W.Frag) (T : List (Addr × Str)) (I : It) (xs : List D) (τ : TD) (H : Hp) : Prop where
  ex : ∃ (G : Hp → Prop) (Y : Nat → Hp → V → Hp → Prop), Walk I xs.length G Y ∧ (∀ τ2 H2, Ext τ H τ2 H2 → G H2) ∧
    ∀ i τ2 H2 x H3, Ext τ H τ2 H2 → J K T τ2 H2 → Y i H2 x H3 → ∃ d, xs[i]? = some d ∧ Ext τ2 H2 τ2 H3 ∧ J K T τ2 H3 ∧ DR K τ2 H3 d x
def SndI (K : PySem.W.Frag) (T : List (Addr × Str)) (E : XK) (KE : XD) (wi : TI) (ι : DI) : Prop :=
  ∀ σ H τ ds (k : TD → List D → Prop) (R : It → Hp → Prop), J K T τ H → SR K τ H ds σ → ι τ ds k → XOk K T E KE τ H →
    (∀ I xs τ' H', Ext τ H τ' H' → J K T τ' H' → ItOk K T I xs τ' H' → k τ' xs → R I H') → wi σ H R
structure PDI (T : List (Addr × Str)) (X : Cx) (E : XK) (KE : XD) (tg iter : Expr) (ι : DI) : Prop where
  ex : ∃ wi, PI X tg iter wi ∧ SndI X.K T E KE wi ι
section
variable {T : List (Addr × Str)} {X : Cx} {E : XK} {KE : XD} {e a b c o tg iter : Expr} {es : List Expr} {pos : Pos} {δ δa δb δc δo : DE} {δs : DA}
/-- a list, a tuple, a text -/
def iSeq (K : PySem.W.Frag) (tl : TE) : TI := fun σ H R => tl σ H fun x H1 => (∃ a xs, x = .ref a ∧ SqL K H1 a xs ∧ R (Itl K a) H1) ∨ (∃ a xs, x = .ref a ∧ SqT K H1 a xs ∧ R (Itt K a) H1) ∨ ∃ z, x = .str z ∧ R (Its z) H1
theorem pi_seq {l : Expr} {tl : TE} (hl : PE X l tl) : PI X tg l (iSeq X.K tl) := by
  refine ⟨fun pins s σ H R I h => ?_⟩
  refine thn (hl.run pins s σ H _ I h) fun v s1 ⟨x, H1, I1, r1, q1⟩ => ?_
  rcases q1 with ⟨a, xs, e, hq, q⟩ | ⟨a, xs, e, hq, q⟩ | ⟨x, e, q⟩
  · subst e
    cases r1
    obtain ⟨its, rv, p, hz⟩ := I1.list hq
    refine wpAny_pyIter_list p.isList ?_
    refine ⟨s1.heap.objs.size, [s1.heap.objs.size], _, _, H1, rfl, I1.kept (t' := s1.toks) fun b o e => Heap.get?_push_of_some _ e, turn_list a _, ⟨_, Heap.get?_push_size _ rfl, rfl, rfl⟩, fun b hb => ?_, q⟩
    have e : b = s1.heap.objs.size := by simpa using hb
    subst e
    exact I1.fpOk (Nat.le_refl _) (I1.hok.fresh (Nat.le_refl _))
  · subst e
    cases r1
    obtain ⟨its, rv, p, hz⟩ := I1.tuple hq
    refine wpAny_pyIter_tuple (show s1.heap.IsTuple a its.toArray from p) ?_
    refine ⟨s1.heap.objs.size, [s1.heap.objs.size], _, _, H1, rfl, I1.kept (t' := s1.toks) fun b o e => Heap.get?_push_of_some _ e, turn_tuple a _, ⟨_, Heap.get?_push_size _ rfl, rfl, rfl⟩, fun b hb => ?_, q⟩
    have e : b = s1.heap.objs.size := by simpa using hb
    subst e
    exact I1.fpOk (Nat.le_refl _) (I1.hok.fresh (Nat.le_refl _))
  · subst e
    obtain ⟨t, rfl⟩ := r1
    cases ha : x.cps.all (· < 128)
    · exact wpAny_pyIter_wide ha (pi_one (tk := s1.toks) I1 _ (turn_str _ x t "str_iterator" (.inr rfl)) ⟨_, Heap.get?_push_size _ rfl, rfl, rfl⟩ q)
    · exact wpAny_pyIter_ascii ha (pi_one (tk := s1.toks) I1 _ (turn_str _ x t "str_ascii_iterator" (.inl rfl)) ⟨_, Heap.get?_push_size _ rfl, rfl, rfl⟩ q)
/-- the signs of a text -/
def signs (z : Str) : List D := z.cps.toList.map fun c => .str ⟨#[c]⟩
def ιSeq (δ : DE) : DI := fun τ ds k => δ τ ds fun τ1 x => match x with
  | .lst xs => k τ1 xs
  | .tup xs => k τ1 xs
  | .str z => k τ1 (signs z)
  | _ => False
theorem itl_ok {K : PySem.W.Frag} {a : Addr} {xs : List D} {vs : List V} {τ : TD} {H : Hp} (l : LstAt K τ H a vs) (r : DRs K τ H xs vs) : ItOk K T (Itl K a) xs τ H := by
  refine ⟨fun H => SqL K H a vs, YAt vs, by rw [← r.length]; exact walk_list, fun τ2 H2 e => (l.ext e).sq, fun i τ2 H2 x H3 e j y => ?_⟩
  obtain ⟨rfl, hy⟩ := y
  obtain ⟨d, h1, h2⟩ := (r.ext e).getV hy
  exact ⟨d, h1, .refl _ _, j, h2⟩
theorem itt_ok {K : PySem.W.Frag} {a : Addr} {xs : List D} {vs : List V} {τ : TD} {H : Hp} (l : TupAt K τ H a vs) (r : DRs K τ H xs vs) : ItOk K T (Itt K a) xs τ H := by
  refine ⟨fun H => SqT K H a vs, YAt vs, by rw [← r.length]; exact walk_tup, fun τ2 H2 e => (l.ext e).sq, fun i τ2 H2 x H3 e j y => ?_⟩
  obtain ⟨rfl, hy⟩ := y
  obtain ⟨d, h1, h2⟩ := (r.ext e).getV hy
  exact ⟨d, h1, .refl _ _, j, h2⟩
theorem its_ok {K : PySem.W.Frag} {z : Str} {τ : TD} {H : Hp} : ItOk K T (Its z) (signs z) τ H := by
  refine ⟨fun _ => True, fun i H v H' => H' = H ∧ ∃ c, z.cps[i]? = some c ∧ v = .str ⟨#[c]⟩, by unfold signs; rw [List.length_map, Array.length_toList]; exact walk_str, fun τ2 H2 e => trivial, fun i τ2 H2 x H3 e j y => ?_⟩
  obtain ⟨rfl, c, hc, rfl⟩ := y
  exact ⟨.str ⟨#[c]⟩, by simp [signs, hc], .refl _ _, j, rfl⟩
theorem pdi_seq (h : PD T X E KE e δ) : PDI T X E KE tg e (ιSeq δ) := by
  obtain ⟨t, p, s1⟩ := h.ex
  refine ⟨_, pi_seq p, fun σ H τ ds k R j s h xo q => s1 σ H τ ds _ _ j s h xo fun v τ1 H1 d e1 j1 r1 k1 => ?_⟩
  cases d with
  | lst xs =>
    obtain ⟨a, vs, ev, l, r⟩ := r1
    exact .inl ⟨a, vs, ev, l.sq, q _ xs τ1 H1 e1 j1 (itl_ok l r) k1⟩
  | tup xs =>
    obtain ⟨a, vs, ev, l, r⟩ := r1
    exact .inr (.inl ⟨a, vs, ev, l.sq, q _ xs τ1 H1 e1 j1 (itt_ok l r) k1⟩)
  | str z => exact .inr (.inr ⟨z, r1, q _ _ τ1 H1 e1 j1 its_ok k1⟩)
  | _ => exact k1.elim
def upto (lo : Int) (n : Nat) : List D := (List.range n).map fun (i : Nat) => .int (lo + (i : Int))
theorem itr_ok {K : PySem.W.Frag} {lo : Int} {n : Nat} {τ : TD} {H : Hp} : ItOk K T (Itr lo n) (upto lo n) τ H := by
  refine ⟨fun _ => True, fun i H x H' => i < n ∧ H' = H ∧ x = .int (lo + i), ?_, fun τ2 H2 e => trivial, fun i τ2 H2 x H3 e j y => ?_⟩
  · have w := (walk_range (lo := lo) (n := n)).mono (Y' := fun i H x H' => i < n ∧ H' = H ∧ x = .int (lo + i)) (fun _ h => h) fun i H x H' hi _ y => ⟨hi, y⟩
    have e : (upto lo n).length = n := by simp [upto]
    rw [e]; exact w
  · obtain ⟨hi, rfl, rfl⟩ := y
    exact ⟨.int (lo + i), by simp [upto, hi], .refl _ _, j, rfl⟩
def ιRng1 (δs : DA) : DI := fun τ ds k => δs τ ds fun τ1 xs => match xs with
  | [.int j] => (-(2 ^ 62) ≤ j ∧ j < 2 ^ 62) ∧ k τ1 (upto 0 j.toNat)
  | _ => False
def ιRng2 (δs : DA) : DI := fun τ ds k => δs τ ds fun τ1 xs => match xs with
  | [.int i, .int j] => (-(2 ^ 62) ≤ i ∧ i < 2 ^ 62 ∧ -(2 ^ 62) ≤ j ∧ j < 2 ^ 62) ∧ k τ1 (upto i (j - i).toNat)
  | _ => False
theorem pdi_range1 {p : Pos} (hg : Gl X "range") (hm : X.mg "range" = none) (ha : PDA T X E KE [a] δs) (hs : starEach [a] X.env = [(false, eval a X.env)] := by rfl) : PDI T X E KE tg (.Call (.Name "range" p) [a] [] pos) (ιRng1 δs) := by
  obtain ⟨t, p1, s1⟩ := ha.ex
  refine ⟨_, pi_range1 hg hm p1 hs, fun σ H τ ds k R j s h xo q => s1 σ H τ ds _ _ j s h xo fun vs τ1 H1 es e1 j1 r1 k1 => ?_⟩
  match es, k1, r1 with
  | [.int j], k1, r1 =>
    obtain ⟨v, r, e, h1, h2⟩ := r1
    have h1 : v = .int j := h1
    have h2 : r = [] := h2
    subst h1 h2 e
    exact ⟨j, rfl, k1.1.1, k1.1.2, q _ _ τ1 H1 e1 j1 itr_ok k1.2⟩
theorem pdi_range2 {p : Pos} (hg : Gl X "range") (hm : X.mg "range" = none) (ha : PDA T X E KE [a, b] δs) (hs : starEach [a, b] X.env = [(false, eval a X.env), (false, eval b X.env)] := by rfl) (hs2 : starEach [b] X.env = [(false, eval b X.env)] := by rfl) : PDI T X E KE tg (.Call (.Name "range" p) [a, b] [] pos) (ιRng2 δs) := by
  obtain ⟨t, p1, s1⟩ := ha.ex
  refine ⟨_, pi_range2 hg hm p1 hs hs2, fun σ H τ ds k R j s h xo q => s1 σ H τ ds _ _ j s h xo fun vs τ1 H1 es e1 j1 r1 k1 => ?_⟩
  match es, k1, r1 with
  | [.int i, .int j], k1, r1 =>
    obtain ⟨v, r, e, h1, w, r', e', h2, h3⟩ := r1
    have h1 : v = .int i := h1
    have h2 : w = .int j := h2
    have h3 : r' = [] := h3
    subst h1 h2 h3 e' e
    exact ⟨i, j, rfl, k1.1, q _ _ τ1 H1 e1 j1 itr_ok k1.2⟩
/-! ### for -/
def dLoop (γ : DG) (β : DS) (F : EndsD) : List D → TD → Sl → Prop
  | [] => F.nx
  | x :: xs => fun τ ds => γ x τ ds (β { F with nx := dLoop γ β F xs, ct := dLoop γ β F xs, bk := F.nx })
def dFor (ι : DI) (γ : DG) (β : DS) : DS := fun F τ ds => ι τ ds fun τ1 xs => dLoop γ β F xs τ1 ds
theorem pds_for {body : List Stmt} {ι : DI} {γ : DG} {β : DS} (hp : PassesOwn (model X.prog X.w) X.A X.env X.xe) (hc : X.calm = true) (hi : PDI T X E KE tg iter ι) (hg : PDG T X E KE tg γ) (hb : PDSs T X E KE body β)
    (hs : ∀ x, foldedSetIterable iter X.env x = pure x := by intro _; rfl) : PDS T X E KE (.For tg iter body [] pos) (dFor ι γ β) := by
  obtain ⟨wi, p1, s1⟩ := hi.ex
  obtain ⟨g, p2, s2⟩ := hg.ex
  obtain ⟨tb, p3, s3⟩ := hb.ex
  refine ⟨_, ps_for hp hc p1 p2 p3 hs, fun σ H τ ds F D' j s h xo eo => s1 σ H τ ds _ _ j s h xo fun I xs τ1 H1 e1 j1 io k1 => ?_⟩
  obtain ⟨G, Y, w, hG, hY⟩ := io.ex
  refine for_it w (fun i σ' H' => ∃ τ' ds', Ext τ1 H1 τ' H' ∧ J X.K T τ' H' ∧ SR X.K τ' H' ds' σ' ∧ dLoop γ β F (xs.drop i) τ' ds')
    ⟨τ1, ds, .refl _ _, j1, s.ext e1, k1⟩ (fun i σ' H' _ ⟨τ', ds', e', _⟩ => hG τ' H' e') ?_ ?_
  · rintro i x σ' H' H'' hi ⟨τ', ds', e', j', s', k'⟩ y
    obtain ⟨d, hd, e2, j2, r2⟩ := hY i τ' H' x H'' e' j' y
    have ed : xs.drop i = d :: xs.drop (i + 1) := by
      obtain ⟨hl, hx⟩ := List.getElem?_eq_some_iff.mp hd
      rw [← hx]; exact List.drop_eq_getElem_cons hl
    rw [ed] at k'
    refine s2 x σ' H'' τ' ds' d _ _ j2 (s'.ext e2) r2 k' (xo.ext ((e1.trans e').trans e2)) fun σ3 H3 τ3 ds3 e3 j3 s3' k3 => ?_
    have ee : Ext τ1 H1 τ3 H3 := (e'.trans e2).trans e3
    refine s3 σ3 H3 τ3 ds3 _ _ j3 s3' k3 (xo.ext (e1.trans ee)) ⟨fun τ4 H4 ds4 σ4 e4 j4 s4 k4 => ⟨τ4, ds4, ee.trans e4, j4, s4, k4⟩, fun τ4 H4 ds4 σ4 e4 j4 s4 k4 => ?_, fun τ4 H4 ds4 σ4 e4 j4 s4 k4 => ⟨τ4, ds4, ee.trans e4, j4, s4, k4⟩, fun τ4 H4 d4 v4 e4 j4 r4 k4 => ?_⟩
    · exact eo.nx τ4 H4 ds4 σ4 ((e1.trans ee).trans e4) j4 s4 k4
    · exact eo.rt τ4 H4 d4 v4 ((e1.trans ee).trans e4) j4 r4 k4
  · rintro σ' H' ⟨τ', ds', e', j', s', k'⟩
    rw [List.drop_length] at k'
    exact eo.nx τ' H' ds' σ' (e1.trans e') j' s' k'
/-! ### while -/
def dWhile (η : DT) (β : DS) : DS := fun F τ ds => ∃ W : Nat → TD → Sl → Prop, (∃ m, W m τ ds) ∧ ∀ m τ ds, W m τ ds →
  η τ ds fun τ1 b => if b = true then β { F with nx := fun τ' ds' => ∃ m', m' < m ∧ W m' τ' ds', ct := fun τ' ds' => ∃ m', m' < m ∧ W m' τ' ds', bk := F.nx } τ1 ds else F.nx τ1 ds
theorem pds_while {body : List Stmt} {η : DT} {β : DS} (hp : PassesOwn (model X.prog X.w) X.A X.env X.xe) (hc : PDT T X E KE c η) (hb : PDSs T X E KE body β) : PDS T X E KE (.While c body [] pos) (dWhile η β) := by
  obtain ⟨tc, p1, s1⟩ := hc.ex
  obtain ⟨tb, p2, s2⟩ := hb.ex
  refine ⟨_, ps_while hp p1 p2, fun σ H τ ds F D' j s h xo eo => ?_⟩
  obtain ⟨W, ⟨m0, w0⟩, step⟩ := h
  refine ⟨fun m σ' H' => ∃ τ' ds', Ext τ H τ' H' ∧ J X.K T τ' H' ∧ SR X.K τ' H' ds' σ' ∧ W m τ' ds', ⟨m0, τ, ds, .refl _ _, j, s, w0⟩, ?_⟩
  rintro m σ' H' ⟨τ', ds', e', j', s', w'⟩
  refine s1 σ' H' τ' ds' _ _ j' s' (step m τ' ds' w') (xo.ext e') fun b τ1 H1 e1 j1 k1 => ?_
  cases b with
  | false =>
    rw [if_neg Bool.false_ne_true] at k1 ⊢
    exact eo.nx τ1 H1 ds' σ' (e'.trans e1) j1 (s'.ext e1) k1
  | true =>
    rw [if_pos rfl] at k1 ⊢
    refine ⟨fun σ2 H2 => ∃ m', m' < m ∧ ∃ τ' ds', Ext τ H τ' H2 ∧ J X.K T τ' H2 ∧ SR X.K τ' H2 ds' σ2 ∧ W m' τ' ds', fun σ2 H2 n => n, ?_⟩
    have ee := e'.trans e1
    refine s2 σ' H1 τ1 ds' _ _ j1 (s'.ext e1) k1 (xo.ext ee) ⟨fun τ4 H4 ds4 σ4 e4 j4 s4 ⟨m', l, k4⟩ => ⟨m', l, τ4, ds4, ee.trans e4, j4, s4, k4⟩, fun τ4 H4 ds4 σ4 e4 j4 s4 k4 => ?_, fun τ4 H4 ds4 σ4 e4 j4 s4 ⟨m', l, k4⟩ => ⟨m', l, τ4, ds4, ee.trans e4, j4, s4, k4⟩, fun τ4 H4 d4 v4 e4 j4 r4 k4 => ?_⟩
    · exact eo.nx τ4 H4 ds4 σ4 (ee.trans e4) j4 s4 k4
    · exact eo.rt τ4 H4 d4 v4 (ee.trans e4) j4 r4 k4
/-! ### comprehensions -/
/-- one reading for a whole family of contexts -/
theorem uni {α : Type} {XX : α → Cx} {K : PySem.W.Frag} (hK : ∀ p, (XX p).K = K) (h : ∀ p, PD T (XX p) E KE e δ) : ∃ te, (∀ p, PE (XX p) e te) ∧ SndE K T E KE te δ := by
  have h' : ∀ p, ∃ t, PE (XX p) e t ∧ SndE K T E KE t δ := fun p => by
    have z := (h p).ex
    rw [hK p] at z
    exact z
  refine ⟨fun σ H Q => ∀ p, (h' p).choose σ H Q, fun p => ⟨fun pins s σ H Q I q => (h' p).choose_spec.1.run pins s σ H Q I (q p)⟩, fun σ H τ ds k Q j s hd xo q p => ?_⟩
  exact (h' p).choose_spec.2 σ H τ ds k Q j s hd xo q
theorem uniT {α : Type} {XX : α → Cx} {K : PySem.W.Frag} {ifs : List Expr} {η : DT} (hK : ∀ p, (XX p).K = K) (h : ∀ p, ∃ t, PTs (XX p) ifs t ∧ SndT (XX p).K T E KE t η) : ∃ te, (∀ p, PTs (XX p) ifs te) ∧ SndT K T E KE te η := by
  have h' : ∀ p, ∃ t, PTs (XX p) ifs t ∧ SndT K T E KE t η := fun p => by
    have z := h p
    rw [hK p] at z
    exact z
  refine ⟨fun σ H Q => ∀ p, (h' p).choose σ H Q, fun p => ⟨fun pins s σ H Q I q => (h' p).choose_spec.1.run pins s σ H Q I (q p)⟩, fun σ H τ ds k Q j s hd xo q p => ?_⟩
  exact (h' p).choose_spec.2 σ H τ ds k Q j s hd xo q
theorem uniN {α : Type} {XX : α → Cx} {K : PySem.W.Frag} {ws : List Nat} {γ : DG} (hK : ∀ p, (XX p).K = K) (h : ∀ p, PDN T (XX p) ws tg γ) : ∃ g, (∀ p, PG (XX p) tg g) ∧ (∀ E KE, SndG K T E KE g γ) ∧ WipG ws g := by
  have h' : ∀ p, ∃ g, PG (XX p) tg g ∧ (∀ E KE, SndG K T E KE g γ) ∧ WipG ws g := fun p => by
    have z := (h p).ex
    rw [hK p] at z
    exact z
  refine ⟨fun v σ H Q => ∀ p, (h' p).choose v σ H Q, fun p => ⟨fun pins s σ H v u Q I r q => (h' p).choose_spec.1.run pins s σ H v u Q I r (q p)⟩, fun E KE v σ H τ ds d k Q j s r hd xo q p => ?_, fun v σ σ0 H Q e q p => ?_⟩
  · exact (h' p).choose_spec.2.1 E KE v σ H τ ds d k Q j s r hd xo q
  · exact (h' p).choose_spec.2.2 v σ σ0 H Q e (q p)
structure PDTs (T : List (Addr × Str)) (X : Cx) (ifs : List Expr) (η : DT) : Prop where
  ex : ∃ t, PTs X ifs t ∧ SndT X.K T E0 X0 t η
def dYes : DT := fun τ _ k => k τ true
theorem pdts_nil : PDTs T X [] dYes := ⟨_, pts_nil, fun σ H τ ds k Q j s h xo q => q true τ H (Ext.refl _ _) j h⟩
theorem pdts_one {η : DT} (h : PDT T X E0 X0 c η) : PDTs T X [c] η := by
  obtain ⟨t, h1, s1⟩ := h.ex
  exact ⟨_, pts_one h1, s1⟩
def wipeD (ds : Sl) : List Nat → Sl
  | [] => ds
  | v :: vs => (wipeD ds vs).set v none
theorem SR.wipe {K : PySem.W.Frag} {τ : TD} {H : Hp} {ds : Sl} {σ : L2.St} (s : SR K τ H ds σ) : ∀ ws : List Nat, SR K τ H (wipeD ds ws) (L2.wipe σ ws)
  | [] => s
  | w :: ws => (s.wipe ws).drop w
/-- the list so far, at L, is acc; the rest is gone through -/
def dLcL (γ : DG) (η : DT) (δ : DE) (ws : List Nat) (ds : Sl) (L : Addr) (k : TD → List D → Prop) : List D → List D → TD → Prop
  | [], acc, τ => τ L = some (.lst acc) ∧ k τ acc
  | x :: xs, acc, τ => γ x τ (wipeD ds ws) fun τ1 ds1 => η τ1 ds1 fun τ2 b => if b = true then δ τ2 ds1 fun τ3 d => τ3 L = some (.lst acc) ∧ acc.length < sizeLine ∧ dLcL γ η δ ws ds L k xs (acc ++ [d]) (tset τ3 L (.lst (acc ++ [d]))) else dLcL γ η δ ws ds L k xs acc τ2
def dLc (ι : DI) (γ : DG) (η : DT) (δ : DE) (ws : List Nat) : DE := fun τ ds k => ι τ ds fun τ1 xs => ∀ L, τ1 L = none → dLcL γ η δ ws ds L (fun τ2 acc => k (tdel τ2 L) (.lst acc)) xs [] (tset τ1 L (.lst []))
/-- .. and it may be changed later -/
def dLcM (ι : DI) (γ : DG) (η : DT) (δ : DE) (ws : List Nat) : DE := fun τ ds k => ι τ ds fun τ1 xs => ∀ L, τ1 L = none → dLcL γ η δ ws ds L (fun τ2 acc => k τ2 (.ref L)) xs [] (tset τ1 L (.lst []))
theorem wipe_wipe {σ : L2.St} {ws : List Nat} : wipe (wipe σ ws) ws = wipe σ ws := by
  refine List.ext_getElem? fun j => ?_
  rw [wipe_get, wipe_get, wipe_length]
  split <;> rfl
theorem sub_del {τ : TD} {a : Addr} : Sub (tdel τ a) τ := fun b u e => by
  have : b ≠ a := fun z => by rw [z, tdel_same] at e; cases e
  rw [tdel_ne this] at e; exact e
theorem tset_tset {τ : TD} {a : Addr} {o u : DO} : tset (tset τ a o) a u = tset τ a u := by
  funext b; unfold tset; split <;> rfl
theorem tset_del {τ : TD} {a : Addr} {o : DO} (h : τ a = none) : tdel (tset τ a o) a = τ := by
  funext b; unfold tdel
  split
  · rename_i z; rw [z, h]
  · rename_i z; exact tset_ne z
theorem sub_tset {τ : TD} {a : Addr} {o : DO} (h : τ a = none) : Sub τ (tset τ a o) := fun b u e => by
  have : b ≠ a := fun z => by rw [z, h] at e; cases e
  rw [tset_ne this]; exact e
section
variable {ifs : List Expr} {scope : Scope} {own : List (Str × Nat)} {ι : DI} {γ : DG} {η : DT}
/-- the loop of a comprehension -/
theorem snd_lc {K : PySem.W.Frag} {wi : TI} {g : TG} {tt : TT} {te : TE} {ws : List Nat} (kk : Addr → DK → TD → List D → Prop)
    (hk : ∀ L (k : DK) τ H acc (Q : VK), J K T τ H → τ L = some (.lst acc) → kk L k τ acc → (∀ v τ' d, Ext τ H τ' H → J K T τ' H → DR K τ' H d v → k τ' d → Q v H) → Q (.ref L) H)
    (s1 : SndI K T E KE wi ι) (s2 : ∀ E KE, SndG K T E KE g γ) (hw : WipG ws g) (s3 : SndT K T E0 X0 tt η) (s4 : SndE K T E0 X0 te δ) :
    SndE K T E KE (tLc wi g tt te ws) (fun τ ds k => ι τ ds fun τ1 xs => ∀ L, τ1 L = none → dLcL γ η δ ws ds L (kk L k) xs [] (tset τ1 L (.lst []))) := by
  intro σ H τ ds k Q j s h xo q
  refine s1 σ H τ ds _ _ j s h xo fun I xs τ1 H1 e1 j1 io k1 L hL => ?_
  obtain ⟨G, Y, w, hG, hY⟩ := io.ex
  have nL := j1.free hL
  have x0 : ∀ τ H, XOk K T E0 X0 τ H := fun _ _ _ _ _ _ _ _ _ _ _ _ _ z => z.elim
  have eN : Ext τ1 H1 (tset τ1 L (.lst [])) (upd H1 L (.lst [])) := .newM hL
  refine lc_it w (fun i H' => ∃ τ' acc, Ext τ1 H1 τ' H' ∧ J K T τ' H' ∧ dLcL γ η δ ws ds L (kk L k) (xs.drop i) acc τ') ⟨_, [], eN, j1.newM hL ⟨[], upd_same, rfl⟩, k1 L nL⟩ (fun i H' _ ⟨τ', acc, e', _⟩ => hG τ' H' e') ?_ ?_
  · rintro i x H' H'' hi ⟨τ', acc, e', j', k'⟩ y
    obtain ⟨d, hd, e2, j2, r2⟩ := hY i τ' H' x H'' e' j' y
    have ed : xs.drop i = d :: xs.drop (i + 1) := by
      obtain ⟨hl, hx⟩ := List.getElem?_eq_some_iff.mp hd
      rw [← hx]; exact List.drop_eq_getElem_cons hl
    rw [ed] at k'
    have ee := (e1.trans e').trans e2
    refine hw x (wipe σ ws) (wipe σ ws) H'' _ wipe_wipe ?_
    refine s2 E0 X0 x (wipe σ ws) H'' τ' (wipeD ds ws) d _ _ j2 ((s.ext ee).wipe ws) r2 k' (x0 _ _) fun σ3 H3 τ3 ds3 e3 j3 s3' k3 => ?_
    refine s3 σ3 H3 τ3 ds3 _ _ j3 s3' k3 (x0 _ _) fun b τ4 H4 e4 j4 k4 => ?_
    have e34 := ((e'.trans e2).trans e3).trans e4
    cases b with
    | false =>
      rw [if_neg Bool.false_ne_true] at k4 ⊢
      exact ⟨τ4, acc, e34, j4, k4⟩
    | true =>
      rw [if_pos rfl] at k4 ⊢
      refine s4 σ3 H4 τ4 ds3 _ _ j4 (s3'.ext e4) k4 (x0 _ _) fun v τ5 H5 d5 e5 j5 r5 k5 => ?_
      obtain ⟨hT, hz, k5⟩ := k5
      obtain ⟨vs, hv, rv⟩ := j5.obj L _ hT
      have ec : Ext τ5 H5 (tset τ5 L (.lst (acc ++ [d5]))) (upd H5 L (.lst (vs ++ [v]))) := .chg hT
      exact ⟨vs, hv, by rw [rv.length]; exact hz, _, acc ++ [d5], (e34.trans e5).trans ec, j5.chg hT ⟨_, upd_same, (rv.ext ec).append (.one (r5.ext ec))⟩, k5⟩
  · rintro H' ⟨τ', acc, e', j', k'⟩
    rw [List.drop_length] at k'
    exact hk L k τ' H' acc Q j' k'.1 k'.2 fun v τ2 d e2 j2 r2 k2 => q v τ2 H' d ((e1.trans e').trans e2) j2 r2 k2
theorem del_ext {τ : TD} {H : Hp} {L : Addr} : Ext τ H (tdel τ L) H := ⟨fun _ _ h _ _ => h, fun a o h t _ => sub_del.none t, fun a o h t _ => sub_del.still t⟩
theorem frz_one {K : PySem.W.Frag} {τ : TD} {H : Hp} {L : Addr} {acc : List D} (j : J K T τ H) (h : τ L = some (.lst acc)) : DR K (tdel τ L) H (.lst acc) (.ref L) := by
  obtain ⟨vs, hv, rv⟩ := j.obj L _ h
  exact ⟨L, vs, rfl, .inl ⟨.of hv, tdel_same⟩, rv.sub fun _ => sub_del.none⟩
theorem pd_lc (hc : X.calm = true) (hN : X.N.Nodup) (hi : PDI T X E KE tg iter ι) (ok : BlkOk X.N X.env.scope scope own)
    (hg : ∀ (s : Shared) (H : Hp) (C : Addr) (cl : List (Str × Addr)) (fp : List Addr), PDN T (X.blk s H scope (compEnvC scope cl C X.env) fp) (own.map (·.2)) tg γ) (ht : ∀ (s : Shared) (H : Hp) (C : Addr) (cl : List (Str × Addr)) (fp : List Addr), PDTs T (X.blk s H scope (compEnvC scope cl C X.env) fp) ifs η)
    (he : ∀ (s : Shared) (H : Hp) (C : Addr) (cl : List (Str × Addr)) (fp : List Addr), PD T (X.blk s H scope (compEnvC scope cl C X.env) fp) E0 X0 e δ) (hs : ∀ x, foldedSetIterable iter X.env x = pure x := by intro _; rfl) :
    PD T X E KE (.ListComp e [⟨tg, iter, ifs, 0⟩] scope pos) (dLc ι γ η δ (own.map (·.2))) := by
  obtain ⟨wi, p1, s1⟩ := hi.ex
  obtain ⟨g, p2, s2, hw⟩ := uniN (α := Shared × Hp × Addr × List (Str × Addr) × List Addr) (XX := fun p => X.blk p.1 p.2.1 scope (compEnvC scope p.2.2.2.1 p.2.2.1 X.env) p.2.2.2.2) (K := X.K) (fun _ => rfl) fun p => hg _ _ _ _ _
  obtain ⟨tt, p3, s3⟩ := uniT (α := Shared × Hp × Addr × List (Str × Addr) × List Addr) (XX := fun p => X.blk p.1 p.2.1 scope (compEnvC scope p.2.2.2.1 p.2.2.1 X.env) p.2.2.2.2) (K := X.K) (fun _ => rfl) fun p => (ht _ _ _ _ _).ex
  obtain ⟨te, p4, s4⟩ := uni (α := Shared × Hp × Addr × List (Str × Addr) × List Addr) (XX := fun p => X.blk p.1 p.2.1 scope (compEnvC scope p.2.2.2.1 p.2.2.1 X.env) p.2.2.2.2) (K := X.K) (fun _ => rfl) fun p => he _ _ _ _ _
  refine ⟨_, pe_lc hc hN p1 ok (fun s H C cl fp => p2 (s, H, C, cl, fp)) (fun s H C cl fp => p3 (s, H, C, cl, fp)) (fun s H C cl fp => p4 (s, H, C, cl, fp)) hs, ?_⟩
  refine snd_lc (fun L k τ acc => k (tdel τ L) (.lst acc)) (fun L k τ H acc Q j hT k' q => ?_) s1 s2 hw s3 s4
  exact q (.ref L) (tdel τ L) (.lst acc) del_ext (j.sub sub_del) (frz_one j hT) k'
theorem pd_lcM (hc : X.calm = true) (hN : X.N.Nodup) (hi : PDI T X E KE tg iter ι) (ok : BlkOk X.N X.env.scope scope own)
    (hg : ∀ (s : Shared) (H : Hp) (C : Addr) (cl : List (Str × Addr)) (fp : List Addr), PDN T (X.blk s H scope (compEnvC scope cl C X.env) fp) (own.map (·.2)) tg γ) (ht : ∀ (s : Shared) (H : Hp) (C : Addr) (cl : List (Str × Addr)) (fp : List Addr), PDTs T (X.blk s H scope (compEnvC scope cl C X.env) fp) ifs η)
    (he : ∀ (s : Shared) (H : Hp) (C : Addr) (cl : List (Str × Addr)) (fp : List Addr), PD T (X.blk s H scope (compEnvC scope cl C X.env) fp) E0 X0 e δ) (hs : ∀ x, foldedSetIterable iter X.env x = pure x := by intro _; rfl) :
    PD T X E KE (.ListComp e [⟨tg, iter, ifs, 0⟩] scope pos) (dLcM ι γ η δ (own.map (·.2))) := by
  obtain ⟨wi, p1, s1⟩ := hi.ex
  obtain ⟨g, p2, s2, hw⟩ := uniN (α := Shared × Hp × Addr × List (Str × Addr) × List Addr) (XX := fun p => X.blk p.1 p.2.1 scope (compEnvC scope p.2.2.2.1 p.2.2.1 X.env) p.2.2.2.2) (K := X.K) (fun _ => rfl) fun p => hg _ _ _ _ _
  obtain ⟨tt, p3, s3⟩ := uniT (α := Shared × Hp × Addr × List (Str × Addr) × List Addr) (XX := fun p => X.blk p.1 p.2.1 scope (compEnvC scope p.2.2.2.1 p.2.2.1 X.env) p.2.2.2.2) (K := X.K) (fun _ => rfl) fun p => (ht _ _ _ _ _).ex
  obtain ⟨te, p4, s4⟩ := uni (α := Shared × Hp × Addr × List (Str × Addr) × List Addr) (XX := fun p => X.blk p.1 p.2.1 scope (compEnvC scope p.2.2.2.1 p.2.2.1 X.env) p.2.2.2.2) (K := X.K) (fun _ => rfl) fun p => he _ _ _ _ _
  refine ⟨_, pe_lc hc hN p1 ok (fun s H C cl fp => p2 (s, H, C, cl, fp)) (fun s H C cl fp => p3 (s, H, C, cl, fp)) (fun s H C cl fp => p4 (s, H, C, cl, fp)) hs, ?_⟩
  refine snd_lc (fun L k τ acc => k τ (.ref L)) (fun L k τ H acc Q j hT k' q => ?_) s1 s2 hw s3 s4
  exact q (.ref L) τ (.ref L) (.refl _ _) j rfl k'
/-- y = [..] on one line -/
theorem pds_setLc {i : Nat} {y : Str} {py spos : Pos} (hc : X.calm = true) (hN : X.N.Nodup) (hy : X.N[i]? = some y) (hyl : X.env.scope.names.lookup y = some .local)
    (hsw : swapsWith (.ListComp e [⟨tg, iter, ifs, 0⟩] scope pos) (some (.Name y py)) spos.line X.env = pure true) (hi : PDI T X E KE tg iter ι) (ok : BlkOk X.N X.env.scope scope own)
    (hg : ∀ (s : Shared) (H : Hp) (C : Addr) (cl : List (Str × Addr)) (fp : List Addr), PDN T (X.blk s H scope (compEnvC scope cl C X.env) fp) (own.map (·.2)) tg γ) (ht : ∀ (s : Shared) (H : Hp) (C : Addr) (cl : List (Str × Addr)) (fp : List Addr), PDTs T (X.blk s H scope (compEnvC scope cl C X.env) fp) ifs η)
    (he : ∀ (s : Shared) (H : Hp) (C : Addr) (cl : List (Str × Addr)) (fp : List Addr), PD T (X.blk s H scope (compEnvC scope cl C X.env) fp) E0 X0 e δ) (hs : ∀ x, foldedSetIterable iter X.env x = pure x := by intro _; rfl) :
    PDS T X E KE (.Assign [.Name y py] (.ListComp e [⟨tg, iter, ifs, 0⟩] scope pos) spos) (dAsg (dLc ι γ η δ (own.map (·.2))) (γName i)) := by
  obtain ⟨wi, p1, s1⟩ := hi.ex
  obtain ⟨g, p2, s2, hw⟩ := uniN (α := Shared × Hp × Addr × List (Str × Addr) × List Addr) (XX := fun p => X.blk p.1 p.2.1 scope (compEnvC scope p.2.2.2.1 p.2.2.1 X.env) p.2.2.2.2) (K := X.K) (fun _ => rfl) fun p => hg _ _ _ _ _
  obtain ⟨tt, p3, s3⟩ := uniT (α := Shared × Hp × Addr × List (Str × Addr) × List Addr) (XX := fun p => X.blk p.1 p.2.1 scope (compEnvC scope p.2.2.2.1 p.2.2.1 X.env) p.2.2.2.2) (K := X.K) (fun _ => rfl) fun p => (ht _ _ _ _ _).ex
  obtain ⟨te, p4, s4⟩ := uni (α := Shared × Hp × Addr × List (Str × Addr) × List Addr) (XX := fun p => X.blk p.1 p.2.1 scope (compEnvC scope p.2.2.2.1 p.2.2.1 X.env) p.2.2.2.2) (K := X.K) (fun _ => rfl) fun p => he _ _ _ _ _
  refine ⟨_, ps_setLc hc hN hy hyl hsw p1 ok (fun s H C cl fp => p2 (s, H, C, cl, fp)) (fun s H C cl fp => p3 (s, H, C, cl, fp)) (fun s H C cl fp => p4 (s, H, C, cl, fp)) hs, ?_⟩
  refine sndAsg (snd_lc (fun L k τ acc => k (tdel τ L) (.lst acc)) (fun L k τ H acc Q j hT k' q => ?_) s1 s2 hw s3 s4) sndName
  exact q (.ref L) (tdel τ L) (.lst acc) del_ext (j.sub sub_del) (frz_one j hT) k'
theorem pds_setLcM {i : Nat} {y : Str} {py spos : Pos} (hc : X.calm = true) (hN : X.N.Nodup) (hy : X.N[i]? = some y) (hyl : X.env.scope.names.lookup y = some .local)
    (hsw : swapsWith (.ListComp e [⟨tg, iter, ifs, 0⟩] scope pos) (some (.Name y py)) spos.line X.env = pure true) (hi : PDI T X E KE tg iter ι) (ok : BlkOk X.N X.env.scope scope own)
    (hg : ∀ (s : Shared) (H : Hp) (C : Addr) (cl : List (Str × Addr)) (fp : List Addr), PDN T (X.blk s H scope (compEnvC scope cl C X.env) fp) (own.map (·.2)) tg γ) (ht : ∀ (s : Shared) (H : Hp) (C : Addr) (cl : List (Str × Addr)) (fp : List Addr), PDTs T (X.blk s H scope (compEnvC scope cl C X.env) fp) ifs η)
    (he : ∀ (s : Shared) (H : Hp) (C : Addr) (cl : List (Str × Addr)) (fp : List Addr), PD T (X.blk s H scope (compEnvC scope cl C X.env) fp) E0 X0 e δ) (hs : ∀ x, foldedSetIterable iter X.env x = pure x := by intro _; rfl) :
    PDS T X E KE (.Assign [.Name y py] (.ListComp e [⟨tg, iter, ifs, 0⟩] scope pos) spos) (dAsg (dLcM ι γ η δ (own.map (·.2))) (γName i)) := by
  obtain ⟨wi, p1, s1⟩ := hi.ex
  obtain ⟨g, p2, s2, hw⟩ := uniN (α := Shared × Hp × Addr × List (Str × Addr) × List Addr) (XX := fun p => X.blk p.1 p.2.1 scope (compEnvC scope p.2.2.2.1 p.2.2.1 X.env) p.2.2.2.2) (K := X.K) (fun _ => rfl) fun p => hg _ _ _ _ _
  obtain ⟨tt, p3, s3⟩ := uniT (α := Shared × Hp × Addr × List (Str × Addr) × List Addr) (XX := fun p => X.blk p.1 p.2.1 scope (compEnvC scope p.2.2.2.1 p.2.2.1 X.env) p.2.2.2.2) (K := X.K) (fun _ => rfl) fun p => (ht _ _ _ _ _).ex
  obtain ⟨te, p4, s4⟩ := uni (α := Shared × Hp × Addr × List (Str × Addr) × List Addr) (XX := fun p => X.blk p.1 p.2.1 scope (compEnvC scope p.2.2.2.1 p.2.2.1 X.env) p.2.2.2.2) (K := X.K) (fun _ => rfl) fun p => he _ _ _ _ _
  refine ⟨_, ps_setLc hc hN hy hyl hsw p1 ok (fun s H C cl fp => p2 (s, H, C, cl, fp)) (fun s H C cl fp => p3 (s, H, C, cl, fp)) (fun s H C cl fp => p4 (s, H, C, cl, fp)) hs, ?_⟩
  refine sndAsg (snd_lc (fun L k τ acc => k τ (.ref L)) (fun L k τ H acc Q j hT k' q => ?_) s1 s2 hw s3 s4) sndName
  exact q (.ref L) τ (.ref L) (.refl _ _) j rfl k'
end
end
/-! ### defs -/
/-! a value with mutable lists in it that become still -/
mutual
inductive Frz (τ' τ'' : TD) : D → D → Prop
  | same (d : D) : Frz τ' τ'' d d
  | lst {a : Addr} {xs ys : List D} : τ' a = some (.lst xs) → τ'' a = none → Frzs τ' τ'' xs ys → Frz τ' τ'' (.ref a) (.lst ys)
  | tup {xs ys : List D} : Frzs τ' τ'' xs ys → Frz τ' τ'' (.tup xs) (.tup ys)
  | lstL {xs ys : List D} : Frzs τ' τ'' xs ys → Frz τ' τ'' (.lst xs) (.lst ys)
inductive Frzs (τ' τ'' : TD) : List D → List D → Prop
  | nil : Frzs τ' τ'' [] []
  | cons {x y : D} {xs ys : List D} : Frz τ' τ'' x y → Frzs τ' τ'' xs ys → Frzs τ' τ'' (x :: xs) (y :: ys)
end
section
variable {K : PySem.W.Frag} {T : List (Addr × Str)} {τ' τ'' : TD} {H : Hp}
mutual
theorem Frz.ok (j : J K T τ' H) (s : Sub τ'' τ') : ∀ {d d' : D} {v : V}, Frz τ' τ'' d d' → DR K τ' H d v → DR K τ'' H d' v
  | _, _, _, .same d, r => r.sub fun _ => s.none
  | _, _, v, .lst (a := a) h1 h2 hs, r => by
    obtain ⟨vs, hv, rv⟩ := j.obj a _ h1
    exact ⟨a, vs, r, .inl ⟨.of hv, h2⟩, Frzs.ok j s hs rv⟩
  | _, _, v, .tup hs, r => by
    obtain ⟨a, xs, e, t, r⟩ := r
    exact ⟨a, xs, e, t.imp (fun z => ⟨z.1, s.none z.2⟩) id, Frzs.ok j s hs r⟩
  | _, _, v, .lstL hs, r => by
    obtain ⟨a, xs, e, t, r⟩ := r
    exact ⟨a, xs, e, t.imp (fun z => ⟨z.1, s.none z.2⟩) id, Frzs.ok j s hs r⟩
theorem Frzs.ok (j : J K T τ' H) (s : Sub τ'' τ') : ∀ {ds es : List D} {vs : List V}, Frzs τ' τ'' ds es → DRs K τ' H ds vs → DRs K τ'' H es vs
  | _, _, _, .nil, r => r
  | _, _, _, .cons h1 h2, r => by
    obtain ⟨v, w, e, r1, r2⟩ := r
    exact ⟨v, w, e, Frz.ok j s h1 r1, Frzs.ok j s h2 r2⟩
end
end
/-- what is wanted, behind what is thrown away and made still -/
def Fin (k : DK) : DK := fun τ' d => ∃ τ'' d', Sub τ'' τ' ∧ Frz τ' τ'' d d' ∧ k τ'' d'
theorem Fin.same {k : DK} {τ : TD} {d : D} (h : k τ d) : Fin k τ d := ⟨τ, d, .refl _, .same _, h⟩
def FinX (k : XD) : XD := fun τ' C f d => ∃ τ'' d', Sub τ'' τ' ∧ Frz τ' τ'' d d' ∧ k τ'' C f d'
theorem FinX.same {k : XD} {τ : TD} {C : Addr} {f : Str} {d : D} (h : k τ C f d) : FinX k τ C f d := ⟨τ, d, .refl _, .same _, h⟩
theorem XOk.fin {K : PySem.W.Frag} {T : List (Addr × Str)} {E : XK} {KE : XD} {τ : TD} {H : Hp} (h : XOk K T E KE τ H) : XOk K T E (FinX KE) τ H :=
  fun τ' H' C f d a v e j ha r ⟨τ'', d', s, z, q⟩ => h τ'' H' C f d' a v (e.sub s) (j.sub s) ha (z.ok j s r) q
def startD (n : Nat) (ds : List D) : Sl := ds.map some ++ List.replicate (n - ds.length) none
theorem sr_start {K : PySem.W.Frag} {τ : TD} {H : Hp} {N : List Str} {ds : List D} {vs : List V} (r : DRs K τ H ds vs) : SR K τ H (startD N.length ds) (L2.start N vs) := by
  have hl := r.length
  refine ⟨by simp [startD, L2.start, hl], fun i d z => ?_⟩
  unfold startD at z
  unfold L2.start
  by_cases hi : i < ds.length
  · rw [List.getElem?_append_left (by simpa using hi)] at z
    rw [List.getElem?_append_left (by simpa [hl] using hi)]
    rw [List.getElem?_map] at z
    cases e : ds[i]? with
    | none => rw [e] at z; cases z
    | some d' =>
      rw [e] at z
      have z : some d' = some d := Option.some.inj z
      cases z
      obtain ⟨v, h1, h2⟩ := r.get e
      exact ⟨v, by rw [List.getElem?_map, h1]; rfl, h2⟩
  · rw [List.getElem?_append_right (by simpa using hi)] at z
    rw [List.getElem?_replicate] at z
    split at z <;> cases z
section
variable {P : Program} {w : World} {K : PySem.W.Frag} {mg : Str → Option Value} {base : Heap} {T : List (Addr × Str)}
/-- THE RULE for a def: its body's reading, and that the promise gives it -/
theorem fnD_of {x qual : Str} {st : Stmt} {f : Addr} {fd : FuncData} {N ps : List Str} {k : Nat} {sp : SpD} (F : Fun K x qual st f fd) (S : FnScope N ps (defScope st))
    (h : ∀ KE : XD, ∃ δ : DS, (∀ (cdv : Value) (A : Around) (outer : List Env) (s : Shared) (H : Hp) (E : XK), Room k (A.deeper (envOfC qual (defScope st) s.heap.objs.size f cdv)) →
      PDSs T (cxOf (L2.CX P w) P w K mg base N qual (defScope st) f cdv A outer s H E) E (FinX KE) (defBody st) δ) ∧
      ∀ τ ds (q : DK), ds.length = ps.length → sp τ ds q KE → δ { nx := fun τ' _ => Fin q τ' .non, rt := Fin q } τ (startD N.length ds)) : FnD P w K mg base T (k + 1) f fd ps sp := by
  refine F.okX S (fun vs H Q E ⟨τ, ds, q, KE, j, r, hl, _⟩ => by rw [r.length, hl]) (fun cdv A outer s H vs Q E hr ⟨τ, ds, q, KE, j, r, hl, hsp, xo, hq⟩ => ?_)
  obtain ⟨δ, h1, h2⟩ := h KE
  obtain ⟨t, p, sd⟩ := (h1 cdv A outer s H E hr).ex
  refine ⟨t, p, sd _ H τ _ _ _ j (sr_start r) (h2 τ ds q hl hsp) xo.fin ⟨fun τ' H' ds' σ' e j' s' ⟨τ'', d', sb, z, k'⟩ => ?_, fun _ _ _ _ _ _ _ z => z.elim, fun _ _ _ _ _ _ _ z => z.elim, fun τ' H' d v e j' r' ⟨τ'', d', sb, z, k'⟩ => ?_⟩⟩
  · exact hq .non τ'' H' d' (e.sub sb) (j'.sub sb) (z.ok (v := .non) j' sb rfl) k'
  · exact hq v τ'' H' d' (e.sub sb) (j'.sub sb) (z.ok j' sb r') k'
end
end DL

set_option Elab.async false
set_option linter.all false
set_option maxRecDepth 100000
set_option maxHeartbeats 1000000
/-! The data layer, 4: operators, built-ins, methods. -/
namespace DL
open PySem PySem.Spec PyProof.Rows L2
/-- the list | list or tuple that a value is -/
def lstOf (τ : TD) : D → Option (List D)
  | .lst xs => some xs
  | .ref a => match τ a with
    | some (.lst xs) => some xs
    | _ => none
  | _ => none
def tupOf : D → Option (List D)
  | .tup xs => some xs
  | _ => none
section
variable {K : PySem.W.Frag} {T : List (Addr × Str)} {τ : TD} {H : Hp}
theorem lstOf_ok (j : J K T τ H) {x : D} {v : V} {xs : List D} (r : DR K τ H x v) (h : lstOf τ x = some xs) : ∃ a vs, v = .ref a ∧ SqL K H a vs ∧ DRs K τ H xs vs := by
  cases x with
  | lst ys =>
    cases h
    obtain ⟨a, vs, e, l, q⟩ := r
    exact ⟨a, vs, e, l.sq, q⟩
  | ref a =>
    unfold lstOf at h
    simp only at h
    split at h
    · rename_i ys e
      cases h
      obtain ⟨vs, q, q2⟩ := j.obj a _ e
      exact ⟨a, vs, r, .of q, q2⟩
    · cases h
  | _ => cases h
theorem tupOf_ok {x : D} {v : V} {xs : List D} (r : DR K τ H x v) (h : tupOf x = some xs) : ∃ a vs, v = .ref a ∧ TupAt K τ H a vs ∧ SqT K H a vs ∧ DRs K τ H xs vs := by
  cases x with
  | tup ys =>
    cases h
    obtain ⟨a, vs, e, l, q⟩ := r
    exact ⟨a, vs, e, l, l.sq, q⟩
  | _ => cases h
/-! ints, bools, texts in lists -/
def intsOf : List D → Option (List Int)
  | [] => some []
  | .int i :: ds => (intsOf ds).map (i :: ·)
  | _ => none
def blsOf : List D → Option (List Bool)
  | [] => some []
  | .bl i :: ds => (blsOf ds).map (i :: ·)
  | _ => none
def strsOf : List D → Option (List Str)
  | [] => some []
  | .str i :: ds => (strsOf ds).map (i :: ·)
  | _ => none
theorem intsOf_ok : ∀ {xs : List D} {vs : List V} {ns : List Int}, DRs K τ H xs vs → intsOf xs = some ns → vs = ns.map V.int
  | [], vs, ns, r, h => by
    have r : vs = [] := r
    cases h
    exact r
  | .int i :: ds, vs, ns, r, h => by
    obtain ⟨v, w, e, r1, r2⟩ := r
    unfold intsOf at h
    cases q : intsOf ds with
    | none => rw [q] at h; cases h
    | some ms =>
      rw [q] at h
      cases h
      have r1 : v = .int i := r1
      rw [e, r1, intsOf_ok r2 q]; rfl
  | .non :: _, _, _, _, h => by cases h
  | .bl _ :: _, _, _, _, h => by cases h
  | .str _ :: _, _, _, _, h => by cases h
  | .tup _ :: _, _, _, _, h => by cases h
  | .lst _ :: _, _, _, _, h => by cases h
  | .ref _ :: _, _, _, _, h => by cases h
  | .ty _ :: _, _, _, _, h => by cases h
theorem blsOf_ok : ∀ {xs : List D} {vs : List V} {ns : List Bool}, DRs K τ H xs vs → blsOf xs = some ns → vs = ns.map V.bl
  | [], vs, ns, r, h => by
    have r : vs = [] := r
    cases h
    exact r
  | .bl i :: ds, vs, ns, r, h => by
    obtain ⟨v, w, e, r1, r2⟩ := r
    unfold blsOf at h
    cases q : blsOf ds with
    | none => rw [q] at h; cases h
    | some ms =>
      rw [q] at h
      cases h
      have r1 : v = .bl i := r1
      rw [e, r1, blsOf_ok r2 q]; rfl
  | .non :: _, _, _, _, h => by cases h
  | .int _ :: _, _, _, _, h => by cases h
  | .str _ :: _, _, _, _, h => by cases h
  | .tup _ :: _, _, _, _, h => by cases h
  | .lst _ :: _, _, _, _, h => by cases h
  | .ref _ :: _, _, _, _, h => by cases h
  | .ty _ :: _, _, _, _, h => by cases h
theorem strsOf_ok : ∀ {xs : List D} {vs : List V} {ns : List Str}, DRs K τ H xs vs → strsOf xs = some ns → vs = ns.map V.str
  | [], vs, ns, r, h => by
    have r : vs = [] := r
    cases h
    exact r
  | .str i :: ds, vs, ns, r, h => by
    obtain ⟨v, w, e, r1, r2⟩ := r
    unfold strsOf at h
    cases q : strsOf ds with
    | none => rw [q] at h; cases h
    | some ms =>
      rw [q] at h
      cases h
      have r1 : v = .str i := r1
      rw [e, r1, strsOf_ok r2 q]; rfl
  | .non :: _, _, _, _, h => by cases h
  | .int _ :: _, _, _, _, h => by cases h
  | .bl _ :: _, _, _, _, h => by cases h
  | .tup _ :: _, _, _, _, h => by cases h
  | .lst _ :: _, _, _, _, h => by cases h
  | .ref _ :: _, _, _, _, h => by cases h
  | .ty _ :: _, _, _, _, h => by cases h
/-! data without mutable objects, for == -/
mutual
def pyOf : D → Option PyData
  | .non => some .none
  | .bl b => some (.bool b)
  | .int i => some (.int i)
  | .str s => some (.str s)
  | .tup xs => (pyAll xs).map .tuple
  | .lst xs => (pyAll xs).map .list
  | .ref _ => none
  | .ty _ => none
def pyAll : List D → Option (List PyData)
  | [] => some []
  | x :: xs => match pyOf x, pyAll xs with
    | some p, some ps => some (p :: ps)
    | _, _ => none
end
mutual
theorem pyOf_ok : ∀ (x : D) (v : V) (p : PyData), DR K τ H x v → pyOf x = some p → Dp K H v p
  | .non, v, p, r, h => by
    cases h
    have r : v = .non := r
    subst r; exact .non
  | .bl b, v, p, r, h => by
    cases h
    have r : v = .bl b := r
    subst r; exact .bl b
  | .int b, v, p, r, h => by
    cases h
    have r : v = .int b := r
    subst r; exact .int b
  | .str b, v, p, r, h => by
    cases h
    have r : v = .str b := r
    subst r; exact .str b
  | .tup xs, v, p, r, h => by
    obtain ⟨a, vs, e, l, q⟩ := r
    unfold pyOf at h
    cases z : pyAll xs with
    | none => rw [z] at h; cases h
    | some ps =>
      rw [z] at h
      cases h
      subst e
      exact .tup l.sq (pyAll_ok xs vs ps q z)
  | .lst xs, v, p, r, h => by
    obtain ⟨a, vs, e, l, q⟩ := r
    unfold pyOf at h
    cases z : pyAll xs with
    | none => rw [z] at h; cases h
    | some ps =>
      rw [z] at h
      cases h
      subst e
      exact .lst l.sq (pyAll_ok xs vs ps q z)
  | .ref _, _, _, _, h => by cases h
  | .ty _, _, _, _, h => by cases h
theorem pyAll_ok : ∀ (xs : List D) (vs : List V) (ps : List PyData), DRs K τ H xs vs → pyAll xs = some ps → DpAll K H vs ps
  | [], vs, ps, r, h => by
    cases h
    have r : vs = [] := r
    subst r; exact .nil
  | x :: xs, vs, ps, r, h => by
    obtain ⟨v, w, e, r1, r2⟩ := r
    unfold pyAll at h
    split at h
    · rename_i p ps' h1 h2
      cases h
      subst e
      exact .cons (pyOf_ok x v p r1 h1) (pyAll_ok xs w ps' r2 h2)
    · cases h
end
/-- two values that == tells without looking into them -/
def scD : D → D → Option Bool
  | .non, .non => some true
  | .non, .int _ => some false
  | .int _, .non => some false
  | .non, .bl _ => some false
  | .bl _, .non => some false
  | .non, .str _ => some false
  | .str _, .non => some false
  | .int i, .int j => some (decide (i = j))
  | .bl i, .bl j => some (decide (i = j))
  | .str i, .str j => some (decide (i = j))
  | .int _, .str _ => some false
  | .str _, .int _ => some false
  | .bl _, .str _ => some false
  | .str _, .bl _ => some false
  | _, _ => none
theorem scD_ok {x y : D} {vx vy : V} {b : Bool} (hx : DR K τ H x vx) (hy : DR K τ H y vy) (h : scD x y = some b) : scal vx vy = true ∧ decide (vx = vy) = b := by
  cases x <;> cases y <;> first
    | (cases h; done)
    | (cases hx; cases hy; cases h; exact ⟨rfl, by simp⟩)
end
section
variable {T : List (Addr × Str)} {X : Cx}
/-! ### +, -, * .. -/
def rCatS (K : PySem.W.Frag) : R2 := fun x y H Q => ∃ l b xs zs, x = .ref l ∧ y = .ref b ∧ SqL K H l xs ∧ SqL K H b zs ∧ xs.length + zs.length ≤ sizeLine ∧ ∀ p, H p = none → Q (.ref p) (upd H p (.lst (xs ++ zs)))
theorem op_catS : OpR X (binaryOp .Add) (rCatS X.K) := by
  intro pins s σ H x y v u Q I rx ry h
  obtain ⟨l, b, xs, zs, rfl, rfl, hH, hB, hz, q⟩ := h
  cases rx
  cases ry
  obtain ⟨its, r, p1, _⟩ := I.list hH
  obtain ⟨its2, r2, p2, _⟩ := I.list hB
  obtain ⟨⟨cls, dd, data, sl⟩, n, ho, hc, hdd, hd⟩ := id p1
  obtain ⟨⟨cls2, dd2, data2, sl2⟩, n2, ho2, hc2, hdd2, hd2⟩ := id p2
  simp only at hc hd hc2 hd2
  subst hc hd hc2 hd2
  have l1 := r.length
  have l2 := r2.length
  have e : its.toArray ++ its2.toArray = (its ++ its2).toArray := by simp
  refine concat_meets ⟨_, ho, rfl⟩ ⟨_, ho2, rfl⟩ noFill_list_add seq_list_add PySem.F.slot_list_add PySem.F.entry_list_add (PySem.F.args_list_add_2 _ _) (PyProof.Rows.list_addW l b its.toArray its2.toArray n n2 dd dd2 sl sl2 (by simp; omega)) ⟨ho, ho2, ?_⟩
  rw [e]
  exact ⟨.ref _, _, I.lnew (t' := s.toks) (r.append r2) (by rw [List.length_append]; omega), rfl, q _ I.fresh⟩
def rAddU (K : PySem.W.Frag) : R2 := fun x y H Q => rI0 (fun i j => .int (i + j)) x y H Q ∨ (∃ i j, x = .str i ∧ y = .str j ∧ i.length + j.length ≤ sizeLine ∧ Q (.str (i ++ j)) H) ∨ rCatS K x y H Q ∨ rCatA K x y H Q
theorem op_addU : OpR X (binaryOp .Add) (rAddU X.K) := op_add.or (op_add_str.or (op_catS.or op_catA))
def ρAdd : D2 := fun τ x y k => match x, y with
  | .int i, .int j => k τ (.int (i + j))
  | .str i, .str j => i.length + j.length ≤ sizeLine ∧ k τ (.str (i ++ j))
  | .tup xs, .tup ys => xs.length + ys.length ≤ sizeLine ∧ k τ (.tup (xs ++ ys))
  | .lst xs, .lst ys => xs.length + ys.length ≤ sizeLine ∧ k τ (.lst (xs ++ ys))
  | .ref a, .lst ys => ∃ xs, τ a = some (.lst xs) ∧ xs.length + ys.length ≤ sizeLine ∧ k τ (.lst (xs ++ ys))
  | .lst xs, .ref b => ∃ ys, τ b = some (.lst ys) ∧ xs.length + ys.length ≤ sizeLine ∧ k τ (.lst (xs ++ ys))
  | .ref a, .ref b => ∃ xs ys, τ a = some (.lst xs) ∧ τ b = some (.lst ys) ∧ xs.length + ys.length ≤ sizeLine ∧ k τ (.lst (xs ++ ys))
  | _, _ => False
theorem cat_ok {K : PySem.W.Frag} {τ : TD} {H : Hp} {x y : D} {vx vy : V} {xs ys : List D} {k : DK} {Q : VK} (j : J K T τ H) (hx : DR K τ H x vx) (hy : DR K τ H y vy) (h1 : lstOf τ x = some xs) (h2 : lstOf τ y = some ys) (hl : xs.length + ys.length ≤ sizeLine) (hk : k τ (.lst (xs ++ ys)))
    (q : ∀ v τ' H' d, Ext τ H τ' H' → J K T τ' H' → DR K τ' H' d v → k τ' d → Q v H') : rCatS K vx vy H Q := by
  obtain ⟨a, vs, e1, s1, r1⟩ := lstOf_ok j hx h1
  obtain ⟨b, ws, e2, s2, r2⟩ := lstOf_ok j hy h2
  refine ⟨a, b, vs, ws, e1, e2, s1, s2, by rw [r1.length, r2.length]; exact hl, fun p hp => ?_⟩
  exact q (.ref p) τ _ (.lst (xs ++ ys)) (.new hp) (j.new hp) ⟨p, vs ++ ws, rfl, .inl ⟨.of upd_same, j.free hp⟩, (r1.append r2).ext (.new hp)⟩ hk
theorem ok_add {K : PySem.W.Frag} : R2ok K T (rAddU K) ρAdd := by
  intro τ H x y vx vy k Q j hx hy h q
  cases x with
  | int i =>
    cases y with
    | int i' => exact .inl ⟨i, i', hx, hy, q _ τ H (.int (i + i')) (.refl _ _) j rfl h⟩
    | _ => exact h.elim
  | str i =>
    cases y with
    | str i' => exact .inr (.inl ⟨i, i', hx, hy, h.1, q _ τ H (.str (i ++ i')) (.refl _ _) j rfl h.2⟩)
    | _ => exact h.elim
  | tup xs =>
    cases y with
    | tup ys =>
      obtain ⟨a, vs, e1, t1, r1⟩ := hx
      obtain ⟨b, ws, e2, t2, r2⟩ := hy
      refine .inr (.inr (.inr ⟨a, b, vs, ws, e1, e2, t1.sq, t2.sq, by rw [r1.length, r2.length]; exact h.1, fun z => ?_, fun z1 z2 => ?_, fun z1 z2 p hp => ?_⟩))
      · refine q (.ref b) τ H (.tup (xs ++ ys)) (.refl _ _) j ⟨b, ws, rfl, t2, ?_⟩ h.2
        have : xs = [] := List.eq_nil_of_length_eq_zero (by rw [← r1.length, z]; rfl)
        rw [this]; exact r2
      · refine q (.ref a) τ H (.tup (xs ++ ys)) (.refl _ _) j ⟨a, vs, rfl, t1, ?_⟩ h.2
        have : ys = [] := List.eq_nil_of_length_eq_zero (by rw [← r2.length, z2]; rfl)
        rw [this, List.append_nil]; exact r1
      · exact q (.ref p) τ _ (.tup (xs ++ ys)) (.new hp) (j.new hp) ⟨p, vs ++ ws, rfl, .inl ⟨.of upd_same, j.free hp⟩, (r1.append r2).ext (.new hp)⟩ h.2
    | _ => exact h.elim
  | lst xs =>
    cases y with
    | lst ys => exact .inr (.inr (.inl (cat_ok j hx hy rfl rfl h.1 h.2 q)))
    | ref b =>
      obtain ⟨ys, e, h1, h2⟩ := h
      exact .inr (.inr (.inl (cat_ok j hx hy rfl (by simp [lstOf, e]) h1 h2 q)))
    | _ => exact h.elim
  | ref a =>
    cases y with
    | lst ys =>
      obtain ⟨xs, e, h1, h2⟩ := h
      exact .inr (.inr (.inl (cat_ok j hx hy (by simp [lstOf, e]) rfl h1 h2 q)))
    | ref b =>
      obtain ⟨xs, ys, e, e', h1, h2⟩ := h
      exact .inr (.inr (.inl (cat_ok j hx hy (by simp [lstOf, e]) (by simp [lstOf, e']) h1 h2 q)))
    | _ => exact h.elim
  | _ => exact h.elim
/-- two ints, with a condition -/
def ρI (C : Int → Int → Prop) (g : Int → Int → D) : D2 := fun τ x y k => match x, y with
  | .int i, .int j => C i j ∧ k τ (g i j)
  | _, _ => False
def ρI0 (g : Int → Int → D) : D2 := fun τ x y k => match x, y with
  | .int i, .int j => k τ (g i j)
  | _, _ => False
theorem ok_I {K : PySem.W.Frag} {C : Int → Int → Prop} {g : Int → Int → V} {gd : Int → Int → D} (hg : ∀ τ H i j, DR K τ H (gd i j) (g i j)) : R2ok K T (rI C g) (ρI C gd) := by
  intro τ H x y vx vy k Q j hx hy h q
  cases x with
  | int i =>
    cases y with
    | int i' => exact ⟨i, i', hx, hy, h.1, q _ τ H _ (.refl _ _) j (hg _ _ _ _) h.2⟩
    | _ => exact h.elim
  | _ => exact h.elim
theorem ok_I0 {K : PySem.W.Frag} {g : Int → Int → V} {gd : Int → Int → D} (hg : ∀ τ H i j, DR K τ H (gd i j) (g i j)) : R2ok K T (rI0 g) (ρI0 gd) := by
  intro τ H x y vx vy k Q j hx hy h q
  cases x with
  | int i =>
    cases y with
    | int i' => exact ⟨i, i', hx, hy, q _ τ H _ (.refl _ _) j (hg _ _ _ _) h⟩
    | _ => exact h.elim
  | _ => exact h.elim
abbrev ρSub : D2 := ρI0 fun i j => .int (i - j)
theorem ok_sub {K : PySem.W.Frag} : R2ok K T (rI0 fun i j => .int (i - j)) ρSub := ok_I0 fun _ _ _ _ => rfl
abbrev ρMod : D2 := ρI (fun _ j => 0 < j) fun i j => .int (i % j)
theorem ok_mod {K : PySem.W.Frag} : R2ok K T (rI (fun _ j => 0 < j) fun i j => .int (i % j)) ρMod := ok_I fun _ _ _ _ => rfl
abbrev ρDiv : D2 := ρI CDiv fun i j => .int (i / j)
theorem ok_div {K : PySem.W.Frag} : R2ok K T (rI CDiv fun i j => .int (i / j)) ρDiv := ok_I fun _ _ _ _ => rfl
abbrev ρPow : D2 := ρI CPow fun i j => .int (i ^ j.toNat)
theorem ok_pow {K : PySem.W.Frag} : R2ok K T (rI CPow fun i j => .int (i ^ j.toNat)) ρPow := ok_I fun _ _ _ _ => rfl
abbrev ρShr : D2 := ρI (fun _ j => 0 ≤ j) fun i j => .int (i / 2 ^ j.toNat)
theorem ok_shr {K : PySem.W.Frag} : R2ok K T (rI (fun _ j => 0 ≤ j) fun i j => .int (i / 2 ^ j.toNat)) ρShr := ok_I fun _ _ _ _ => rfl
abbrev ρShl : D2 := ρI CPow fun i j => .int (i * 2 ^ j.toNat)
theorem ok_shl {K : PySem.W.Frag} : R2ok K T (rI CPow fun i j => .int (i * 2 ^ j.toNat)) ρShl := ok_I fun _ _ _ _ => rfl
/-! * : two ints; a text, a list so many times -/
def repS (z : Str) (n : Nat) : Str := ⟨(List.replicate n z.cps.toList).flatten.toArray⟩
def rMulS : R2 := fun x y H Q => ∃ z n, x = .str z ∧ y = .int n ∧ -(2 ^ 62) ≤ n ∧ n ≤ 1000 ∧ z.length ≤ 1000 ∧ Q (.str (repS z n.toNat)) H
theorem repS_length (z : Str) : ∀ n : Nat, (repS z n).length = n * z.length
  | 0 => by simp [repS, Str.length]
  | n + 1 => by
    have ih := repS_length z n
    have e : (repS z (n + 1)).length = z.length + (repS z n).length := by
      simp [repS, Str.length, List.replicate_succ]
    rw [e, ih, Nat.succ_mul, Nat.add_comm]
theorem foldl_cps (x : Array Nat) : ∀ (n : Nat) (acc : Array Nat), (List.replicate n x).foldl (· ++ ·) acc = acc ++ (List.replicate n x.toList).flatten.toArray
  | 0, acc => by simp
  | n + 1, acc => by
    rw [List.replicate_succ, List.foldl_cons, foldl_cps x n, List.replicate_succ, List.flatten_cons]
    apply Array.ext'
    simp
theorem op_mulS : OpR X (binaryOp .Mult) rMulS := by
  intro pins s σ H x y v u Q I rx ry h
  obtain ⟨z, n, rfl, rfl, h1, h2, h3, q⟩ := h
  obtain ⟨t, rfl⟩ := rx
  obtain ⟨t', rfl⟩ := ry
  have key : z.length * n.toNat ≤ 1000000 := by
    have : n.toNat ≤ 1000 := by omega
    exact Nat.le_trans (Nat.mul_le_mul h3 this) (by decide)
  refine PySem.P.mul_str (by rw [decide_eq_false (by omega), decide_eq_false (by omega)]; rfl) (fun hn _ => ?_) (fun hn _ => ?_) ?_
  · have hp : 0 < n := by omega
    have h4 : (9223372036854775807 : Int) / n ≥ 1000 := by
      rw [ge_iff_le, Int.le_ediv_iff_mul_le hp]
      have : (1000 : Int) * n ≤ 1000 * 1000 := Int.mul_le_mul_of_nonneg_left h2 (by decide)
      omega
    have h5 : (2 ^ 63 - 1 : Int) = 9223372036854775807 := by decide
    rw [h5]
    omega
  · exact decide_eq_false (show ¬ z.length * n.toNat > sizeLine by rw [sizeLine_eq]; omega)
  · by_cases hn : n < 1
    · rw [if_pos hn]
      refine ⟨by decide, .str _, H, I.tok _, ⟨_, rfl⟩, ?_⟩
      have e : repS z n.toNat = Str.empty := by
        have : n.toNat = 0 := by omega
        unfold repS
        rw [this]; rfl
      rw [← e]; exact q
    · rw [if_neg hn]
      split
      · rename_i hc
        refine ⟨.str z, H, I.tok _, ⟨_, rfl⟩, ?_⟩
        have e : repS z n.toNat = z := by
          rcases Bool.or_eq_true_iff.mp hc with hc | hc
          · have : n = 1 := by simpa using hc
            subst this
            unfold repS
            simp
          · have : z.cps.toList = [] := by
              have hz : z.length = 0 := by simpa using hc
              rw [Array.toList_eq_nil_iff]
              exact Array.eq_empty_of_size_eq_zero hz
            unfold repS
            rw [this]
            have e2 : (List.replicate n.toNat ([] : List Nat)).flatten = [] := by simp
            rw [e2]
            exact Str.ext' (Array.ext' (by simpa using this.symm))
        rw [e] at q
        exact q
      · have e : (⟨(List.replicate n.toNat z.cps).foldl (· ++ ·) #[]⟩ : Str) = repS z n.toNat := by
          unfold repS
          rw [foldl_cps]
          simp
        rw [e]
        refine ⟨?_, .str _, H, I.tok _, ⟨_, rfl⟩, q⟩
        have hl : (repS z n.toNat).length = n.toNat * z.length := repS_length _ _
        have key2 : (repS z n.toNat).length ≤ 1000000 := by rw [hl, Nat.mul_comm]; exact key
        first
          | exact decide_eq_false (show ¬ (repS z n.toNat).length > sizeLine by rw [sizeLine_eq]; omega)
          | (show (repS z n.toNat).length ≤ sizeLine; rw [sizeLine_eq]; omega)
end
end DL

set_option Elab.async false
set_option linter.all false
set_option maxRecDepth 100000
set_option maxHeartbeats 1000000
/-! The data layer, 5: *, comparisons, subscripts, slices, built-ins, methods. -/
namespace DL
open PySem PySem.Spec PyProof.Rows L2
section
variable {T : List (Addr × Str)} {X : Cx}
def rMulU : R2 := fun x y H Q => rI CMul (fun i j => .int (i * j)) x y H Q ∨ rMulS x y H Q
theorem op_mulU : OpR X (binaryOp .Mult) rMulU := op_mul.or op_mulS
def ρMul : D2 := fun τ x y k => match x, y with
  | .int i, .int j => CMul i j ∧ k τ (.int (i * j))
  | .str z, .int n => (-(2 ^ 62) ≤ n ∧ n ≤ 1000 ∧ z.length ≤ 1000) ∧ k τ (.str (repS z n.toNat))
  | _, _ => False
theorem ok_mul {K : PySem.W.Frag} : R2ok K T rMulU ρMul := by
  intro τ H x y vx vy k Q j hx hy h q
  cases x with
  | int i =>
    cases y with
    | int i' => exact .inl ⟨i, i', hx, hy, h.1, q _ τ H (.int (i * i')) (.refl _ _) j rfl h.2⟩
    | _ => exact h.elim
  | str z =>
    cases y with
    | int n => exact .inr ⟨z, n, hx, hy, h.1.1, h.1.2.1, h.1.2.2, q _ τ H (.str (repS z n.toNat)) (.refl _ _) j rfl h.2⟩
    | _ => exact h.elim
  | _ => exact h.elim
/-! one int -/
def ρNeg : D1 := fun τ x k => match x with
  | .int i => k τ (.int (-i))
  | _ => False
theorem ok_neg {K : PySem.W.Frag} : R1ok K T (rU fun i => .int (-i)) ρNeg := by
  intro τ H x vx k Q j hx h q
  cases x with
  | int i => exact ⟨i, hx, q _ τ H (.int (-i)) (.refl _ _) j rfl h⟩
  | _ => exact h.elim
/-! ### == and != -/
def rEqU (K : PySem.W.Frag) : R2 := fun x y H Q => rEq x y H Q ∨ rEqD K x y H Q
def rNeU (K : PySem.W.Frag) : R2 := fun x y H Q => rNe x y H Q ∨ rNeD K x y H Q
theorem op_eqU (hu : X.A.units + 64 < cLine) : OpR X (compareOp .Eq) (rEqU X.K) := op_eq.or (op_eqD hu)
theorem op_neU (hu : X.A.units + 64 < cLine) : OpR X (compareOp .NotEq) (rNeU X.K) := op_ne.or (op_neD hu)
/-- how == answers -/
def eqA (x y : D) (k : Bool → Prop) : Prop := match scD x y with
  | some b => k b
  | none => match pyOf x, pyOf y with
    | some p, some p' => SeqAt.shaped p = true ∧ SeqAt.shaped p' = true ∧ k (PyData.eqv p p')
    | _, _ => False
def ρEq : D2 := fun τ x y k => eqA x y fun b => k τ (.bl b)
def ρNe : D2 := fun τ x y k => eqA x y fun b => k τ (.bl (!b))
theorem ok_eq {K : PySem.W.Frag} : R2ok K T (rEqU K) ρEq := by
  intro τ H x y vx vy k Q j hx hy h q
  unfold ρEq eqA at h
  split at h
  · rename_i b hb
    obtain ⟨h1, h2⟩ := scD_ok hx hy hb
    exact .inl ⟨h1, by rw [h2]; exact q _ τ H (.bl b) (.refl _ _) j rfl h⟩
  · split at h
    · rename_i p p' h1 h2
      exact .inr ⟨p, p', pyOf_ok _ _ _ hx h1, pyOf_ok _ _ _ hy h2, h.1, h.2.1, q _ τ H (.bl _) (.refl _ _) j rfl h.2.2⟩
    · exact h.elim
theorem ok_ne {K : PySem.W.Frag} : R2ok K T (rNeU K) ρNe := by
  intro τ H x y vx vy k Q j hx hy h q
  unfold ρNe eqA at h
  split at h
  · rename_i b hb
    obtain ⟨h1, h2⟩ := scD_ok hx hy hb
    exact .inl ⟨h1, by rw [h2]; exact q _ τ H (.bl (!b)) (.refl _ _) j rfl h⟩
  · split at h
    · rename_i p p' h1 h2
      exact .inr ⟨p, p', pyOf_ok _ _ _ hx h1, pyOf_ok _ _ _ hy h2, h.1, h.2.1, q _ τ H (.bl _) (.refl _ _) j rfl h.2.2⟩
    · exact h.elim
/-! ### < <= > >= of ints, of texts -/
def rCmpU (f : Int → Int → Bool) (g : Str → Str → Bool) : R2 := fun x y H Q => rI0 (fun i j => .bl (f i j)) x y H Q ∨ (∃ i j, x = .str i ∧ y = .str j ∧ Q (.bl (g i j)) H)
def ρCmp (f : Int → Int → Bool) (g : Str → Str → Bool) : D2 := fun τ x y k => match x, y with
  | .int i, .int j => k τ (.bl (f i j))
  | .str i, .str j => k τ (.bl (g i j))
  | _, _ => False
theorem ok_cmp {K : PySem.W.Frag} {f : Int → Int → Bool} {g : Str → Str → Bool} : R2ok K T (rCmpU f g) (ρCmp f g) := by
  intro τ H x y vx vy k Q j hx hy h q
  cases x with
  | int i =>
    cases y with
    | int i' => exact .inl ⟨i, i', hx, hy, q _ τ H (.bl (f i i')) (.refl _ _) j rfl h⟩
    | _ => exact h.elim
  | str i =>
    cases y with
    | str i' => exact .inr ⟨i, i', hx, hy, q _ τ H (.bl (g i i')) (.refl _ _) j rfl h⟩
    | _ => exact h.elim
  | _ => exact h.elim
abbrev rLtU : R2 := rCmpU (fun i j => decide (i < j)) fun i j => decide (i.cps.toList < j.cps.toList)
abbrev rLeU : R2 := rCmpU (fun i j => decide (i ≤ j)) fun i j => !decide (j.cps.toList < i.cps.toList)
abbrev rGtU : R2 := rCmpU (fun i j => decide (j < i)) fun i j => decide (j.cps.toList < i.cps.toList)
abbrev rGeU : R2 := rCmpU (fun i j => decide (j ≤ i)) fun i j => !decide (i.cps.toList < j.cps.toList)
abbrev ρLt : D2 := ρCmp (fun i j => decide (i < j)) fun i j => decide (i.cps.toList < j.cps.toList)
abbrev ρLe : D2 := ρCmp (fun i j => decide (i ≤ j)) fun i j => !decide (j.cps.toList < i.cps.toList)
abbrev ρGt : D2 := ρCmp (fun i j => decide (j < i)) fun i j => decide (j.cps.toList < i.cps.toList)
abbrev ρGe : D2 := ρCmp (fun i j => decide (j ≤ i)) fun i j => !decide (i.cps.toList < j.cps.toList)
theorem op_ltU : OpR X (compareOp .Lt) rLtU := op_lt.or op_lt_str
theorem op_leU : OpR X (compareOp .LtE) rLeU := op_le.or op_le_str
theorem op_gtU : OpR X (compareOp .Gt) rGtU := op_gt.or op_gt_str
theorem op_geU : OpR X (compareOp .GtE) rGeU := op_ge.or op_ge_str
/-! is None, is not None -/
def rIsNU : R2 := fun x y H Q => y = .non ∧ Q (.bl (decide (x = .non))) H
def rNotNU : R2 := fun x y H Q => y = .non ∧ Q (.bl (!decide (x = .non))) H
def isNonD : D → Bool
  | .non => true
  | _ => false
theorem isNon_ok {K : PySem.W.Frag} {τ : TD} {H : Hp} {x : D} {v : V} (r : DR K τ H x v) : decide (v = .non) = isNonD x := by
  cases x with
  | non => cases r; rfl
  | tup xs => obtain ⟨a, vs, e, _⟩ := r; subst e; rfl
  | lst xs => obtain ⟨a, vs, e, _⟩ := r; subst e; rfl
  | _ => cases r; rfl
def ρIsN : D2 := fun τ x y k => match y with
  | .non => k τ (.bl (isNonD x))
  | _ => False
def ρNotN : D2 := fun τ x y k => match y with
  | .non => k τ (.bl (!isNonD x))
  | _ => False
theorem op_isNU : OpR X (compareOp .Is) rIsNU := op_isN
theorem op_notNU : OpR X (compareOp .IsNot) rNotNU := op_notN
theorem ok_isN {K : PySem.W.Frag} : R2ok K T rIsNU ρIsN := by
  intro τ H x y vx vy k Q j hx hy h q
  cases y with
  | non => exact ⟨hy, by rw [isNon_ok hx]; exact q _ τ H (.bl _) (.refl _ _) j rfl h⟩
  | _ => exact h.elim
theorem ok_notN {K : PySem.W.Frag} : R2ok K T rNotNU ρNotN := by
  intro τ H x y vx vy k Q j hx hy h q
  cases y with
  | non => exact ⟨hy, by rw [isNon_ok hx]; exact q _ τ H (.bl _) (.refl _ _) j rfl h⟩
  | _ => exact h.elim
/-! one sign in a text -/
def rSgn (neg : Bool) : R2 := fun x y H Q => ∃ (c : Nat) (z : Str), x = .str ⟨#[c]⟩ ∧ y = .str z ∧ Q (.bl (neg ^^ decide (c ∈ z.cps.toList))) H
theorem op_sgn : OpR X (compareOp .In) (rSgn false) := fun pins s σ H x y v u Q I rx ry ⟨c, z, e1, e2, q⟩ => op_in_sign pins s σ H x y v u Q I rx ry ⟨c, z, e1, e2, by simpa using q⟩
theorem op_nsgn : OpR X (compareOp .NotIn) (rSgn true) := fun pins s σ H x y v u Q I rx ry ⟨c, z, e1, e2, q⟩ => op_notIn_sign pins s σ H x y v u Q I rx ry ⟨c, z, e1, e2, by simpa using q⟩
/-- the text's one sign is among z's -/
def ρSgn (neg : Bool) : D2 := fun τ x y k => match x, y with
  | .str w, .str z => ∃ c, w = ⟨#[c]⟩ ∧ k τ (.bl (neg ^^ decide (c ∈ z.cps.toList)))
  | _, _ => False
theorem ok_sgn {K : PySem.W.Frag} {neg : Bool} : R2ok K T (rSgn neg) (ρSgn neg) := by
  intro τ H x y vx vy k Q j hx hy h q
  cases x with
  | str i =>
    cases y with
    | str i' =>
      obtain ⟨c, e, h⟩ := h
      subst e
      exact ⟨c, i', hx, hy, q _ τ H (.bl _) (.refl _ _) j rfl h⟩
    | _ => exact h.elim
  | _ => exact h.elim
/-! ### subscripts -/
def ρIx : D2 := fun τ x y k => match y with
  | .int i => (match x with
    | .str z => z.length ≤ sizeLine ∧ (match atI z.cps.toList i with
      | some c => k τ (.str ⟨#[c]⟩)
      | none => False)
    | .tup xs => (match atI xs i with
      | some d => k τ d
      | none => False)
    | .lst xs => (match atI xs i with
      | some d => k τ d
      | none => False)
    | .ref a => (match τ a with
      | some (.lst xs) => (match atI xs i with
        | some d => k τ d
        | none => False)
      | _ => False)
    | _ => False)
  | _ => False
theorem drs_at {K : PySem.W.Frag} {τ : TD} {H : Hp} {xs : List D} {vs : List V} {i : Int} {d : D} (r : DRs K τ H xs vs) (h : atI xs i = some d) : ∃ v, atI vs i = some v ∧ DR K τ H d v := by
  unfold atI at h ⊢
  rw [r.length]
  cases e : ixN xs.length i with
  | none => rw [e] at h; cases h
  | some j =>
    rw [e] at h
    exact r.get h
theorem ok_ix {K : PySem.W.Frag} : R2ok K T (rIx K) ρIx := by
  intro τ H x y vx vy k Q j hx hy h q
  cases y with
  | int i =>
    cases x with
    | str z =>
      obtain ⟨hz, h⟩ := h
      split at h
      · rename_i c hc
        exact .inr (.inr ⟨z, i, c, hx, hy, hz, hc, q _ τ H (.str ⟨#[c]⟩) (.refl _ _) j rfl h⟩)
      · exact h.elim
    | tup xs =>
      simp only [ρIx] at h
      split at h
      · rename_i d hd
        obtain ⟨a, vs, e, l, r⟩ := hx
        obtain ⟨v, h1, h2⟩ := drs_at r hd
        exact .inr (.inl ⟨a, vs, i, v, e, hy, l.sq, h1, q v τ H d (.refl _ _) j h2 h⟩)
      · exact h.elim
    | lst xs =>
      simp only [ρIx] at h
      split at h
      · rename_i d hd
        obtain ⟨a, vs, e, l, r⟩ := hx
        obtain ⟨v, h1, h2⟩ := drs_at r hd
        exact .inl ⟨a, vs, i, v, e, hy, l.sq, h1, q v τ H d (.refl _ _) j h2 h⟩
      · exact h.elim
    | ref a =>
      simp only [ρIx] at h
      split at h
      · rename_i xs e
        split at h
        · rename_i d hd
          obtain ⟨vs, hv, r⟩ := j.obj a _ e
          obtain ⟨v, h1, h2⟩ := drs_at r hd
          exact .inl ⟨a, vs, i, v, hx, hy, .of hv, h1, q v τ H d (.refl _ _) j h2 h⟩
        · exact h.elim
      · exact h.elim
    | _ => exact h.elim
  | _ => exact h.elim
/-! ### slices -/
def cutD (xs : List D) (lo hi : Option Int) : List D := (xs.drop (HT.sIx xs.length 0 lo)).take (HT.sIx xs.length xs.length hi - HT.sIx xs.length 0 lo)
theorem drs_cut {K : PySem.W.Frag} {τ : TD} {H : Hp} {xs : List D} {vs : List V} {lo hi : Option Int} (r : DRs K τ H xs vs) : DRs K τ H (cutD xs lo hi) (cutV vs lo hi) := by
  unfold cutD cutV
  rw [r.length]
  exact (r.drop _).take _
def rSlU (K : PySem.W.Frag) : V → Option Int → Option Int → Hp → VK → Prop := fun x lo hi H Q => rSlS x lo hi H Q ∨ rSlL K x lo hi H Q ∨ rSlA K x lo hi H Q
theorem sl_U : SlR X (rSlU X.K) := sl_str.or (sl_list.or sl_tupA)
def ρSl : DSl := fun τ x lo hi k => match x with
  | .str z => z.length ≤ sizeLine ∧ k τ (.str (cutS z lo hi))
  | .lst xs => k τ (.lst (cutD xs lo hi))
  | .tup xs => k τ (.tup (cutD xs lo hi))
  | .ref a => (match τ a with
    | some (.lst xs) => k τ (.lst (cutD xs lo hi))
    | _ => False)
  | _ => False
theorem ok_sl {K : PySem.W.Frag} : RSok K T (rSlU K) ρSl := by
  intro τ H x vx lo hi k Q j hx h q
  cases x with
  | str z => exact .inl ⟨z, hx, h.1, q _ τ H (.str (cutS z lo hi)) (.refl _ _) j rfl h.2⟩
  | lst xs =>
    obtain ⟨a, vs, e, l, r⟩ := hx
    exact .inr (.inl ⟨a, vs, e, l.sq, fun p hp => q (.ref p) τ _ (.lst (cutD xs lo hi)) (.new hp) (j.new hp) ⟨p, _, rfl, .inl ⟨.of upd_same, j.free hp⟩, (drs_cut r).ext (.new hp)⟩ h⟩)
  | tup xs =>
    obtain ⟨a, vs, e, l, r⟩ := hx
    refine .inr (.inr ⟨a, vs, e, l.sq, fun z => ?_, fun _ p hp => ?_⟩)
    · refine q (.ref a) τ H (.tup (cutD xs lo hi)) (.refl _ _) j ⟨a, vs, rfl, l, ?_⟩ h
      have e2 : cutD xs lo hi = xs := by
        unfold cutD
        rw [← r.length, z.1, z.2, List.drop_zero, Nat.sub_zero, r.length, List.take_length]
      rw [e2]; exact r
    · exact q (.ref p) τ _ (.tup (cutD xs lo hi)) (.new hp) (j.new hp) ⟨p, _, rfl, .inl ⟨.of upd_same, j.free hp⟩, (drs_cut r).ext (.new hp)⟩ h
  | ref a =>
    simp only [ρSl] at h
    split at h
    · rename_i xs e
      obtain ⟨vs, hv, r⟩ := j.obj a _ e
      exact .inr (.inl ⟨a, vs, hx, .of hv, fun p hp => q (.ref p) τ _ (.lst (cutD xs lo hi)) (.new hp) (j.new hp) ⟨p, _, rfl, .inl ⟨.of upd_same, j.free hp⟩, (drs_cut r).ext (.new hp)⟩ h⟩)
    · exact h.elim
  | _ => exact h.elim
/-! ### built-in functions -/
theorem one_of {K : PySem.W.Frag} {τ : TD} {H : Hp} {d : D} {vs : List V} (r : DRs K τ H [d] vs) : ∃ v, vs = [v] ∧ DR K τ H d v := by
  obtain ⟨v, w, e, r1, r2⟩ := r
  have r2 : w = [] := r2
  subst r2
  exact ⟨v, e, r1⟩
theorem two_of {K : PySem.W.Frag} {τ : TD} {H : Hp} {d e : D} {vs : List V} (r : DRs K τ H [d, e] vs) : ∃ v u, vs = [v, u] ∧ DR K τ H d v ∧ DR K τ H e u := by
  obtain ⟨v, w, e1, r1, r2⟩ := r
  obtain ⟨u, e2, r3⟩ := one_of r2
  subst e2
  exact ⟨v, u, e1, r1, r3⟩
def rAbs : List V → Hp → VK → Prop := fun xs H Q => ∃ i, xs = [.int i] ∧ Q (.int (if i < 0 then -i else i)) H
theorem cr_abs : CallR X (.builtin "abs") rAbs := call_abs
def ρAbs : DC := fun τ xs k => match xs with
  | [.int i] => k τ (.int (if i < 0 then -i else i))
  | _ => False
theorem ok_abs {K : PySem.W.Frag} : RCok K T rAbs ρAbs := by
  intro τ H xs vs k Q j r h q
  match xs, h, r with
  | [.int i], h, r =>
    obtain ⟨v, e, r1⟩ := one_of r
    have r1 : v = .int i := r1
    subst e r1
    exact ⟨i, rfl, q _ τ H (.int _) (.refl _ _) j rfl h⟩
def rMx2 : List V → Hp → VK → Prop := fun xs H Q => ∃ i j, xs = [.int i, .int j] ∧ Q (.int (if j > i then j else i)) H
def rMn2 : List V → Hp → VK → Prop := fun xs H Q => ∃ i j, xs = [.int i, .int j] ∧ Q (.int (if j < i then j else i)) H
def rMxU (K : PySem.W.Frag) : List V → Hp → VK → Prop := fun xs H Q => rMx2 xs H Q ∨ rMax K xs H Q
def rMnU (K : PySem.W.Frag) : List V → Hp → VK → Prop := fun xs H Q => rMn2 xs H Q ∨ rMin K xs H Q
theorem cr_maxU (hc : X.calm = true) : CallR X (.builtin "max") (rMxU X.K) := (call_max2 hc : CallR X (.builtin "max") rMx2).or (cr_max hc)
theorem cr_minU (hc : X.calm = true) : CallR X (.builtin "min") (rMnU X.K) := (call_min2 hc : CallR X (.builtin "min") rMn2).or (cr_min hc)
/-- the greatest | least of a list of ints -/
def maxL : List Int → Option Int
  | [] => none
  | n :: ns => some (ns.foldl max n)
def minL : List Int → Option Int
  | [] => none
  | n :: ns => some (ns.foldl min n)
theorem foldl_max (ns : List Int) : ∀ a : Int, a ≤ ns.foldl max a ∧ (∀ y ∈ ns, y ≤ ns.foldl max a) ∧ (ns.foldl max a = a ∨ ns.foldl max a ∈ ns) := by
  induction ns with
  | nil => intro a; exact ⟨Int.le_refl _, by simp, .inl rfl⟩
  | cons n ns ih =>
    intro a
    obtain ⟨h1, h2, h3⟩ := ih (max a n)
    rw [List.foldl_cons]
    refine ⟨by omega, fun y hy => ?_, ?_⟩
    · rcases List.mem_cons.mp hy with rfl | hy
      · omega
      · exact h2 y hy
    · rcases h3 with h3 | h3
      · rw [h3]
        by_cases z : a ≤ n
        · exact .inr (by rw [show max a n = n by omega]; exact List.mem_cons_self)
        · exact .inl (by omega)
      · exact .inr (List.mem_cons_of_mem _ h3)
theorem foldl_min (ns : List Int) : ∀ a : Int, ns.foldl min a ≤ a ∧ (∀ y ∈ ns, ns.foldl min a ≤ y) ∧ (ns.foldl min a = a ∨ ns.foldl min a ∈ ns) := by
  induction ns with
  | nil => intro a; exact ⟨Int.le_refl _, by simp, .inl rfl⟩
  | cons n ns ih =>
    intro a
    obtain ⟨h1, h2, h3⟩ := ih (min a n)
    rw [List.foldl_cons]
    refine ⟨by omega, fun y hy => ?_, ?_⟩
    · rcases List.mem_cons.mp hy with rfl | hy
      · omega
      · exact h2 y hy
    · rcases h3 with h3 | h3
      · rw [h3]
        by_cases z : n ≤ a
        · exact .inr (by rw [show min a n = n by omega]; exact List.mem_cons_self)
        · exact .inl (by omega)
      · exact .inr (List.mem_cons_of_mem _ h3)
theorem maxL_uniq {ns : List Int} {m z : Int} (hm : m ∈ ns) (hle : ∀ y, y ∈ ns → y ≤ m) (h : maxL ns = some z) : m = z := by
  cases ns with
  | nil => cases h
  | cons n ns =>
    cases h
    obtain ⟨h1, h2, h3⟩ := foldl_max ns n
    have a1 : m ≤ ns.foldl max n := by
      rcases List.mem_cons.mp hm with e | e
      · rw [e]; exact h1
      · exact h2 _ e
    have a2 : ns.foldl max n ≤ m := by
      rcases h3 with e | e
      · rw [e]; exact hle _ List.mem_cons_self
      · exact hle _ (List.mem_cons_of_mem _ e)
    omega
theorem minL_uniq {ns : List Int} {m z : Int} (hm : m ∈ ns) (hle : ∀ y, y ∈ ns → m ≤ y) (h : minL ns = some z) : m = z := by
  cases ns with
  | nil => cases h
  | cons n ns =>
    cases h
    obtain ⟨h1, h2, h3⟩ := foldl_min ns n
    have a1 : ns.foldl min n ≤ m := by
      rcases List.mem_cons.mp hm with e | e
      · rw [e]; exact h1
      · exact h2 _ e
    have a2 : m ≤ ns.foldl min n := by
      rcases h3 with e | e
      · rw [e]; exact hle _ List.mem_cons_self
      · exact hle _ (List.mem_cons_of_mem _ e)
    omega
def ρMax : DC := fun τ xs k => match xs with
  | [.int i, .int j] => k τ (.int (if j > i then j else i))
  | [x] => ∃ l ns z, lstOf τ x = some l ∧ intsOf l = some ns ∧ maxL ns = some z ∧ k τ (.int z)
  | _ => False
def ρMin : DC := fun τ xs k => match xs with
  | [.int i, .int j] => k τ (.int (if j < i then j else i))
  | [x] => ∃ l ns z, lstOf τ x = some l ∧ intsOf l = some ns ∧ minL ns = some z ∧ k τ (.int z)
  | _ => False
theorem ok_max {K : PySem.W.Frag} : RCok K T (rMxU K) ρMax := by
  intro τ H xs vs k Q j r h q
  unfold ρMax at h
  split at h
  · rename_i i i'
    obtain ⟨v, u, e, r1, r2⟩ := two_of r
    have r1 : v = .int i := r1
    have r2 : u = .int i' := r2
    subst e r1 r2
    exact .inl ⟨i, i', rfl, q _ τ H (.int _) (.refl _ _) j rfl h⟩
  · rename_i x _
    obtain ⟨l, ns, z, h1, h2, h3, hk⟩ := h
    obtain ⟨v, e, r1⟩ := one_of r
    obtain ⟨a, ws, ev, sq, rr⟩ := lstOf_ok j r1 h1
    have ew := intsOf_ok rr h2
    subst e ev ew
    refine .inr ⟨a, ns, rfl, sq, ?_, fun m hm hle => ?_⟩
    · cases ns with
      | nil => cases h3
      | cons _ _ => exact Nat.succ_pos _
    · rw [maxL_uniq hm hle h3]
      exact q _ τ H (.int z) (.refl _ _) j rfl hk
  · exact h.elim
theorem ok_min {K : PySem.W.Frag} : RCok K T (rMnU K) ρMin := by
  intro τ H xs vs k Q j r h q
  unfold ρMin at h
  split at h
  · rename_i i i'
    obtain ⟨v, u, e, r1, r2⟩ := two_of r
    have r1 : v = .int i := r1
    have r2 : u = .int i' := r2
    subst e r1 r2
    exact .inl ⟨i, i', rfl, q _ τ H (.int _) (.refl _ _) j rfl h⟩
  · rename_i x _
    obtain ⟨l, ns, z, h1, h2, h3, hk⟩ := h
    obtain ⟨v, e, r1⟩ := one_of r
    obtain ⟨a, ws, ev, sq, rr⟩ := lstOf_ok j r1 h1
    have ew := intsOf_ok rr h2
    subst e ev ew
    refine .inr ⟨a, ns, rfl, sq, ?_, fun m hm hle => ?_⟩
    · cases ns with
      | nil => cases h3
      | cons _ _ => exact Nat.succ_pos _
    · rw [minL_uniq hm hle h3]
      exact q _ τ H (.int z) (.refl _ _) j rfl hk
  · exact h.elim
/-! int, str, bool -/
def rInt : List V → Hp → VK → Prop := fun xs H Q => ((∃ i, xs = [.int i] ∧ Q (.int i) H) ∨ ∃ k, xs = [.bl k] ∧ Q (.int (if k then 1 else 0)) H) ∨ (∃ a n, xs = [.str a] ∧ PySem.intText? a = some n ∧ a.length ≤ 640 ∧ Q (.int n) H)
theorem cr_int : CallR X (.type "int") rInt := call_int1.or call_int_str
def ρInt : DC := fun τ xs k => match xs with
  | [.int i] => k τ (.int i)
  | [.bl b] => k τ (.int (if b then 1 else 0))
  | [.str a] => ∃ n, PySem.intText? a = some n ∧ a.length ≤ 640 ∧ k τ (.int n)
  | _ => False
theorem ok_int {K : PySem.W.Frag} : RCok K T rInt ρInt := by
  intro τ H xs vs k Q j r h q
  match xs, h, r with
  | [.int i], h, r =>
    obtain ⟨v, e, r1⟩ := one_of r
    have r1 : v = .int i := r1
    subst e r1
    exact .inl (.inl ⟨i, rfl, q _ τ H (.int i) (.refl _ _) j rfl h⟩)
  | [.bl b], h, r =>
    obtain ⟨v, e, r1⟩ := one_of r
    have r1 : v = .bl b := r1
    subst e r1
    exact .inl (.inr ⟨b, rfl, q _ τ H (.int _) (.refl _ _) j rfl h⟩)
  | [.str a], h, r =>
    obtain ⟨v, e, r1⟩ := one_of r
    have r1 : v = .str a := r1
    subst e r1
    obtain ⟨n, h1, h2, h3⟩ := h
    exact .inr ⟨a, n, rfl, h1, h2, q _ τ H (.int n) (.refl _ _) j rfl h3⟩
def rStrI : List V → Hp → VK → Prop := fun xs H Q => ∃ i, xs = [.int i] ∧ i.natAbs.log2 < 1920 ∧ Q (.str (toString i)) H
theorem cr_strI : CallR X (.type "str") rStrI := call_str_int
/-- the text of an int -/
def strI (i : Int) : Str := (toString i : String)
def ρStr : DC := fun τ xs k => match xs with
  | [.int i] => i.natAbs.log2 < 1920 ∧ k τ (.str (strI i))
  | _ => False
theorem ok_str {K : PySem.W.Frag} : RCok K T rStrI ρStr := by
  intro τ H xs vs k Q j r h q
  match xs, h, r with
  | [.int i], h, r =>
    obtain ⟨v, e, r1⟩ := one_of r
    have r1 : v = .int i := r1
    subst e r1
    exact ⟨i, rfl, h.1, q _ τ H (.str (strI i)) (.refl _ _) j rfl h.2⟩
/-! len -/
def rLenU (K : PySem.W.Frag) : List V → Hp → VK → Prop := fun xs H Q => (∃ p ys, xs = [.ref p] ∧ (SqL K H p ys ∨ SqT K H p ys) ∧ Q (.int (ys.length : Nat)) H) ∨ (∃ z : Str, xs = [.str z] ∧ z.length ≤ sizeLine ∧ Q (.int (z.length : Nat)) H)
theorem cr_len : CallR X (.builtin "len") (rLenU X.K) := call_len_seq.or call_len_str
def ρLen : DC := fun τ xs k => match xs with
  | [.str z] => z.length ≤ sizeLine ∧ k τ (.int (z.length : Nat))
  | [.tup ys] => k τ (.int (ys.length : Nat))
  | [.lst ys] => k τ (.int (ys.length : Nat))
  | [.ref a] => (match τ a with
    | some (.lst ys) => k τ (.int (ys.length : Nat))
    | _ => False)
  | _ => False
theorem ok_len {K : PySem.W.Frag} : RCok K T (rLenU K) ρLen := by
  intro τ H xs vs k Q j r h q
  match xs, h, r with
  | [.str z], h, r =>
    obtain ⟨v, e, r1⟩ := one_of r
    have r1 : v = .str z := r1
    subst e r1
    exact .inr ⟨z, rfl, h.1, q _ τ H (.int _) (.refl _ _) j rfl h.2⟩
  | [.tup ys], h, r =>
    obtain ⟨v, e, r1⟩ := one_of r
    obtain ⟨a, ws, ev, l, rr⟩ := r1
    subst e ev
    exact .inl ⟨a, ws, rfl, .inr l.sq, by rw [rr.length]; exact q _ τ H (.int _) (.refl _ _) j rfl h⟩
  | [.lst ys], h, r =>
    obtain ⟨v, e, r1⟩ := one_of r
    obtain ⟨a, ws, ev, l, rr⟩ := r1
    subst e ev
    exact .inl ⟨a, ws, rfl, .inl l.sq, by rw [rr.length]; exact q _ τ H (.int _) (.refl _ _) j rfl h⟩
  | [.ref a], h, r =>
    obtain ⟨v, e, r1⟩ := one_of r
    have r1 : v = .ref a := r1
    subst e r1
    simp only [ρLen] at h
    split at h
    · rename_i ys ey
      obtain ⟨ws, hv, rr⟩ := j.obj a _ ey
      exact .inl ⟨a, ws, rfl, .inl (.of hv), by rw [rr.length]; exact q _ τ H (.int _) (.refl _ _) j rfl h⟩
    · exact h.elim
/-! sum, all, any -/
def ρSum : DC := fun τ xs k => match xs with
  | [x] => ∃ l ns, lstOf τ x = some l ∧ intsOf l = some ns ∧ k τ (.int ns.sum)
  | _ => False
theorem ok_sum {K : PySem.W.Frag} : RCok K T (rSum K) ρSum := by
  intro τ H xs vs k Q j r h q
  match xs, h, r with
  | [x], h, r =>
    obtain ⟨l, ns, h1, h2, hk⟩ := h
    obtain ⟨v, e, r1⟩ := one_of r
    obtain ⟨a, ws, ev, sq, rr⟩ := lstOf_ok j r1 h1
    have ew := intsOf_ok rr h2
    subst e ev ew
    exact ⟨a, ns, rfl, sq, q _ τ H (.int _) (.refl _ _) j rfl hk⟩
def ρAll : DC := fun τ xs k => match xs with
  | [x] => ∃ l ns, lstOf τ x = some l ∧ blsOf l = some ns ∧ k τ (.bl (ns.all id))
  | _ => False
def ρAny : DC := fun τ xs k => match xs with
  | [x] => ∃ l ns, lstOf τ x = some l ∧ blsOf l = some ns ∧ k τ (.bl (ns.any id))
  | _ => False
theorem ok_all {K : PySem.W.Frag} : RCok K T (rAll K) ρAll := by
  intro τ H xs vs k Q j r h q
  match xs, h, r with
  | [x], h, r =>
    obtain ⟨l, ns, h1, h2, hk⟩ := h
    obtain ⟨v, e, r1⟩ := one_of r
    obtain ⟨a, ws, ev, sq, rr⟩ := lstOf_ok j r1 h1
    have ew := blsOf_ok rr h2
    subst e ev ew
    exact ⟨a, ns, rfl, sq, q _ τ H (.bl _) (.refl _ _) j rfl hk⟩
theorem ok_any {K : PySem.W.Frag} : RCok K T (rAny K) ρAny := by
  intro τ H xs vs k Q j r h q
  match xs, h, r with
  | [x], h, r =>
    obtain ⟨l, ns, h1, h2, hk⟩ := h
    obtain ⟨v, e, r1⟩ := one_of r
    obtain ⟨a, ws, ev, sq, rr⟩ := lstOf_ok j r1 h1
    have ew := blsOf_ok rr h2
    subst e ev ew
    exact ⟨a, ns, rfl, sq, q _ τ H (.bl _) (.refl _ _) j rfl hk⟩
/-! isinstance of a built-in type -/
def tyN : D → Option String
  | .non => some "NoneType" | .bl _ => some "bool" | .int _ => some "int" | .str _ => some "str" | .tup _ => some "tuple" | .lst _ => some "list"
  | _ => none
theorem tyx_ok {K : PySem.W.Frag} {τ : TD} {H : Hp} {x : D} {v : V} {t : String} (r : DR K τ H x v) (h : tyN x = some t) : TyX K H v (.type t) := by
  cases x with
  | non => cases h; cases r; exact .base .non
  | bl b => cases h; cases r; exact .base (.bl b)
  | int b => cases h; cases r; exact .base (.int b)
  | str b => cases h; cases r; exact .base (.str b)
  | tup xs =>
    cases h
    obtain ⟨a, vs, e, l, _⟩ := r
    subst e
    rcases l.sq with (z | ⟨o, z⟩) | ⟨o, its, n, hk, hc, _⟩
    · exact .base (.tup z)
    · exact .fTuple z
    · exact .kTuple hk hc
  | lst xs =>
    cases h
    obtain ⟨a, vs, e, l, _⟩ := r
    subst e
    rcases l.sq with (z | ⟨o, z⟩) | ⟨o, its, n, hk, hc, _⟩
    · exact .base (.lst z)
    · exact .base (.frz z)
    · exact .kList hk hc
  | _ => cases h
def isiT (t n : String) : Option Bool := if t ∈ ["NoneType", "bool", "int", "str", "tuple", "list"] ∧ n ∈ ["int", "bool", "str", "tuple", "list"] then some ((t == n) || (t == "bool" && n == "int")) else none
def isiB (x : D) (n : String) : Option Bool := match tyN x with
  | some t => isiT t n
  | none => none
theorem kit_all : ∀ a ∈ ["NoneType", "bool", "int", "str", "tuple", "list"], ∀ b ∈ ["int", "bool", "str", "tuple", "list"], kitB a b = some ((a == b) || (a == "bool" && b == "int")) := by decide +kernel
theorem isiB_ok {x : D} {n : String} {b : Bool} (h : isiB x n = some b) : ∃ t, tyN x = some t ∧ kitB t n = some b := by
  unfold isiB at h
  split at h
  · rename_i t ht
    unfold isiT at h
    split at h
    · rename_i z
      exact ⟨t, ht, (kit_all t z.1 n z.2).trans h⟩
    · cases h
  · cases h
theorem isi_non_int {b : Bool} {i : Int} {z : Str} {l : List D} : isiB D.non "int" = some false := (show isiT "NoneType" "int" = some false by decide +kernel)
theorem isi_non_bool {b : Bool} {i : Int} {z : Str} {l : List D} : isiB D.non "bool" = some false := (show isiT "NoneType" "bool" = some false by decide +kernel)
theorem isi_non_str {b : Bool} {i : Int} {z : Str} {l : List D} : isiB D.non "str" = some false := (show isiT "NoneType" "str" = some false by decide +kernel)
theorem isi_non_tuple {b : Bool} {i : Int} {z : Str} {l : List D} : isiB D.non "tuple" = some false := (show isiT "NoneType" "tuple" = some false by decide +kernel)
theorem isi_non_list {b : Bool} {i : Int} {z : Str} {l : List D} : isiB D.non "list" = some false := (show isiT "NoneType" "list" = some false by decide +kernel)
theorem isi_bl_int {b : Bool} {i : Int} {z : Str} {l : List D} : isiB (D.bl b) "int" = some true := (show isiT "bool" "int" = some true by decide +kernel)
theorem isi_bl_bool {b : Bool} {i : Int} {z : Str} {l : List D} : isiB (D.bl b) "bool" = some true := (show isiT "bool" "bool" = some true by decide +kernel)
theorem isi_bl_str {b : Bool} {i : Int} {z : Str} {l : List D} : isiB (D.bl b) "str" = some false := (show isiT "bool" "str" = some false by decide +kernel)
theorem isi_bl_tuple {b : Bool} {i : Int} {z : Str} {l : List D} : isiB (D.bl b) "tuple" = some false := (show isiT "bool" "tuple" = some false by decide +kernel)
theorem isi_bl_list {b : Bool} {i : Int} {z : Str} {l : List D} : isiB (D.bl b) "list" = some false := (show isiT "bool" "list" = some false by decide +kernel)
theorem isi_int_int {b : Bool} {i : Int} {z : Str} {l : List D} : isiB (D.int i) "int" = some true := (show isiT "int" "int" = some true by decide +kernel)
theorem isi_int_bool {b : Bool} {i : Int} {z : Str} {l : List D} : isiB (D.int i) "bool" = some false := (show isiT "int" "bool" = some false by decide +kernel)
theorem isi_int_str {b : Bool} {i : Int} {z : Str} {l : List D} : isiB (D.int i) "str" = some false := (show isiT "int" "str" = some false by decide +kernel)
theorem isi_int_tuple {b : Bool} {i : Int} {z : Str} {l : List D} : isiB (D.int i) "tuple" = some false := (show isiT "int" "tuple" = some false by decide +kernel)
theorem isi_int_list {b : Bool} {i : Int} {z : Str} {l : List D} : isiB (D.int i) "list" = some false := (show isiT "int" "list" = some false by decide +kernel)
theorem isi_str_int {b : Bool} {i : Int} {z : Str} {l : List D} : isiB (D.str z) "int" = some false := (show isiT "str" "int" = some false by decide +kernel)
theorem isi_str_bool {b : Bool} {i : Int} {z : Str} {l : List D} : isiB (D.str z) "bool" = some false := (show isiT "str" "bool" = some false by decide +kernel)
theorem isi_str_str {b : Bool} {i : Int} {z : Str} {l : List D} : isiB (D.str z) "str" = some true := (show isiT "str" "str" = some true by decide +kernel)
theorem isi_str_tuple {b : Bool} {i : Int} {z : Str} {l : List D} : isiB (D.str z) "tuple" = some false := (show isiT "str" "tuple" = some false by decide +kernel)
theorem isi_str_list {b : Bool} {i : Int} {z : Str} {l : List D} : isiB (D.str z) "list" = some false := (show isiT "str" "list" = some false by decide +kernel)
theorem isi_tup_int {b : Bool} {i : Int} {z : Str} {l : List D} : isiB (D.tup l) "int" = some false := (show isiT "tuple" "int" = some false by decide +kernel)
theorem isi_tup_bool {b : Bool} {i : Int} {z : Str} {l : List D} : isiB (D.tup l) "bool" = some false := (show isiT "tuple" "bool" = some false by decide +kernel)
theorem isi_tup_str {b : Bool} {i : Int} {z : Str} {l : List D} : isiB (D.tup l) "str" = some false := (show isiT "tuple" "str" = some false by decide +kernel)
theorem isi_tup_tuple {b : Bool} {i : Int} {z : Str} {l : List D} : isiB (D.tup l) "tuple" = some true := (show isiT "tuple" "tuple" = some true by decide +kernel)
theorem isi_tup_list {b : Bool} {i : Int} {z : Str} {l : List D} : isiB (D.tup l) "list" = some false := (show isiT "tuple" "list" = some false by decide +kernel)
theorem isi_lst_int {b : Bool} {i : Int} {z : Str} {l : List D} : isiB (D.lst l) "int" = some false := (show isiT "list" "int" = some false by decide +kernel)
theorem isi_lst_bool {b : Bool} {i : Int} {z : Str} {l : List D} : isiB (D.lst l) "bool" = some false := (show isiT "list" "bool" = some false by decide +kernel)
theorem isi_lst_str {b : Bool} {i : Int} {z : Str} {l : List D} : isiB (D.lst l) "str" = some false := (show isiT "list" "str" = some false by decide +kernel)
theorem isi_lst_tuple {b : Bool} {i : Int} {z : Str} {l : List D} : isiB (D.lst l) "tuple" = some false := (show isiT "list" "tuple" = some false by decide +kernel)
theorem isi_lst_list {b : Bool} {i : Int} {z : Str} {l : List D} : isiB (D.lst l) "list" = some true := (show isiT "list" "list" = some true by decide +kernel)
def ρIsi : DC := fun τ xs k => match xs with
  | [x, .ty n] => (match isiB x n with
    | some b => k τ (.bl b)
    | none => False)
  | _ => False
theorem ok_isi {K : PySem.W.Frag} : RCok K T (rIsi K) ρIsi := by
  intro τ H xs vs k Q j r h q
  match xs, h, r with
  | [x, .ty n], h, r =>
    obtain ⟨v, u, e, r1, r2⟩ := two_of r
    have r2 : u = .ty n := r2
    subst e r2
    simp only [ρIsi] at h
    split at h
    · rename_i b hb
      obtain ⟨t, h1, h2⟩ := isiB_ok hb
      exact ⟨v, .ty n, .type t, .type n, b, rfl, .ty n, tyx_ok r1 h1, kit_ty h2, q _ τ H (.bl b) (.refl _ _) j rfl h⟩
    · exact h.elim
/-! tuple(..), list(..) -/
def rTupO (K : PySem.W.Frag) : List V → Hp → VK → Prop := fun xs H Q => ∃ p ys, xs = [.ref p] ∧ ((SqL K H p ys ∧ ∀ l, H l = none → Q (.ref l) (upd H l (.tup ys))) ∨ (SqT K H p ys ∧ Q (.ref p) H))
theorem cr_tupO : CallR X (.type "tuple") (rTupO X.K) := call_tuple_of
def ρTupO : DC := fun τ xs k => match xs with
  | [.tup ys] => k τ (.tup ys)
  | [.lst ys] => k τ (.tup ys)
  | [.ref a] => (match τ a with
    | some (.lst ys) => k τ (.tup ys)
    | _ => False)
  | _ => False
theorem ok_tupO {K : PySem.W.Frag} : RCok K T (rTupO K) ρTupO := by
  intro τ H xs vs k Q j r h q
  match xs, h, r with
  | [.tup ys], h, r =>
    obtain ⟨v, e, r1⟩ := one_of r
    obtain ⟨a, ws, ev, l, rr⟩ := r1
    subst e ev
    exact ⟨a, ws, rfl, .inr ⟨l.sq, q _ τ H (.tup ys) (.refl _ _) j ⟨a, ws, rfl, l, rr⟩ h⟩⟩
  | [.lst ys], h, r =>
    obtain ⟨v, e, r1⟩ := one_of r
    obtain ⟨a, ws, ev, l, rr⟩ := r1
    subst e ev
    exact ⟨a, ws, rfl, .inl ⟨l.sq, fun p hp => q (.ref p) τ _ (.tup ys) (.new hp) (j.new hp) ⟨p, _, rfl, .inl ⟨.of upd_same, j.free hp⟩, rr.ext (.new hp)⟩ h⟩⟩
  | [.ref a], h, r =>
    obtain ⟨v, e, r1⟩ := one_of r
    have r1 : v = .ref a := r1
    subst e r1
    simp only [ρTupO] at h
    split at h
    · rename_i ys ey
      obtain ⟨ws, hv, rr⟩ := j.obj a _ ey
      exact ⟨a, ws, rfl, .inl ⟨.of hv, fun p hp => q (.ref p) τ _ (.tup ys) (.new hp) (j.new hp) ⟨p, _, rfl, .inl ⟨.of upd_same, j.free hp⟩, rr.ext (.new hp)⟩ h⟩⟩
    · exact h.elim
def rLstO (K : PySem.W.Frag) : List V → Hp → VK → Prop := fun xs H Q => ∃ p ys, xs = [.ref p] ∧ (SqL K H p ys ∨ SqT K H p ys) ∧ ∀ l, H l = none → Q (.ref l) (upd H l (.lst ys))
theorem cr_lstO : CallR X (.type "list") (rLstO X.K) := call_list_of
def ρLstO : DC := fun τ xs k => match xs with
  | [.tup ys] => k τ (.lst ys)
  | [.lst ys] => k τ (.lst ys)
  | [.ref a] => (match τ a with
    | some (.lst ys) => k τ (.lst ys)
    | _ => False)
  | _ => False
theorem ok_lstO {K : PySem.W.Frag} : RCok K T (rLstO K) ρLstO := by
  intro τ H xs vs k Q j r h q
  match xs, h, r with
  | [.tup ys], h, r =>
    obtain ⟨v, e, r1⟩ := one_of r
    obtain ⟨a, ws, ev, l, rr⟩ := r1
    subst e ev
    exact ⟨a, ws, rfl, .inr l.sq, fun p hp => q (.ref p) τ _ (.lst ys) (.new hp) (j.new hp) ⟨p, _, rfl, .inl ⟨.of upd_same, j.free hp⟩, rr.ext (.new hp)⟩ h⟩
  | [.lst ys], h, r =>
    obtain ⟨v, e, r1⟩ := one_of r
    obtain ⟨a, ws, ev, l, rr⟩ := r1
    subst e ev
    exact ⟨a, ws, rfl, .inl l.sq, fun p hp => q (.ref p) τ _ (.lst ys) (.new hp) (j.new hp) ⟨p, _, rfl, .inl ⟨.of upd_same, j.free hp⟩, rr.ext (.new hp)⟩ h⟩
  | [.ref a], h, r =>
    obtain ⟨v, e, r1⟩ := one_of r
    have r1 : v = .ref a := r1
    subst e r1
    simp only [ρLstO] at h
    split at h
    · rename_i ys ey
      obtain ⟨ws, hv, rr⟩ := j.obj a _ ey
      exact ⟨a, ws, rfl, .inl (.of hv), fun p hp => q (.ref p) τ _ (.lst ys) (.new hp) (j.new hp) ⟨p, _, rfl, .inl ⟨.of upd_same, j.free hp⟩, rr.ext (.new hp)⟩ h⟩
    · exact h.elim
/-! ### methods, stores -/
def θStr : TD → D → Prop := fun _ x => match x with
  | .str _ => True
  | _ => False
theorem ty_str {K : PySem.W.Frag} : TyOk K T "str" θStr := fun τ H x v j r h => by
  cases x with
  | str z => cases r; exact rfl
  | _ => exact h.elim
def θLst : TD → D → Prop := fun τ x => (lstOf τ x).isSome = true
theorem ty_lst {K : PySem.W.Frag} : TyOk K T "list" θLst := fun τ H x v j r h => by
  obtain ⟨l, e⟩ := Option.isSome_iff_exists.mp h
  obtain ⟨a, vs, ev, sq, _⟩ := lstOf_ok j r e
  subst ev
  exact .inl ⟨rfl, vs, sq⟩
/-- xs.append(d) -/
def ρApp : DM := fun τ x xs k => match x, xs with
  | .ref a, [d] => (match τ a with
    | some (.lst ys) => ys.length < sizeLine ∧ k (tset τ a (.lst (ys ++ [d]))) .non
    | _ => False)
  | _, _ => False
theorem ok_app {K : PySem.W.Frag} : RMok K T rAppend ρApp := by
  intro τ H x vx xs vs k Q j rx r h q
  match x, xs, h, rx, r with
  | .ref a, [d], h, rx, r =>
    obtain ⟨v, e, r1⟩ := one_of r
    have rx : vx = .ref a := rx
    subst e rx
    simp only [ρApp] at h
    split at h
    · rename_i ys ey
      obtain ⟨ws, hv, rr⟩ := j.obj a _ ey
      have ec : Ext τ H (tset τ a (.lst (ys ++ [d]))) (upd H a (.lst (ws ++ [v]))) := .chg ey
      exact ⟨a, ws, v, rfl, rfl, hv, by rw [rr.length]; exact h.1, q .non _ _ .non ec (j.chg ey ⟨_, upd_same, (rr.ext ec).append (.one (r1.ext ec))⟩) rfl h.2⟩
    · exact h.elim
/-- sep.join(texts) -/
def rJoin (K : PySem.W.Frag) : V → List V → Hp → VK → Prop := fun x xs H Q => ∃ a p, ∃ ys : List Str, x = .str a ∧ xs = [.ref p] ∧ (SqL K H p (ys.map V.str) ∨ SqT K H p (ys.map V.str)) ∧ (ys.map (·.length)).sum + ys.length * a.length ≤ 16777216 ∧ Q (.str (Txt.join a ys)) H
def ρJoin : DM := fun τ x xs k => match x, xs with
  | .str a, [y] => ∃ l ys, (lstOf τ y = some l ∨ tupOf y = some l) ∧ strsOf l = some ys ∧ (ys.map (·.length)).sum + ys.length * a.length ≤ 16777216 ∧ k τ (.str (Txt.join a ys))
  | _, _ => False
theorem ok_join {K : PySem.W.Frag} : RMok K T (rJoin K) ρJoin := by
  intro τ H x vx xs vs k Q j rx r h q
  match x, xs, h, rx, r with
  | .str a, [y], h, rx, r =>
    obtain ⟨v, e, r1⟩ := one_of r
    have rx : vx = .str a := rx
    subst e rx
    obtain ⟨l, ys, h1, h2, h3, hk⟩ := h
    rcases h1 with h1 | h1
    · obtain ⟨p, ws, ev, sq, rr⟩ := lstOf_ok j r1 h1
      have ew := strsOf_ok rr h2
      subst ev ew
      exact ⟨a, p, ys, rfl, rfl, .inl sq, h3, q _ τ H (.str _) (.refl _ _) j rfl hk⟩
    · obtain ⟨p, ws, ev, _, sq, rr⟩ := tupOf_ok r1 h1
      have ew := strsOf_ok rr h2
      subst ev ew
      exact ⟨a, p, ys, rfl, rfl, .inr sq, h3, q _ τ H (.str _) (.refl _ _) j rfl hk⟩
/-- xs[i] = v -/
def ςLst : DSet := fun τ x i v k => match x, i with
  | .ref a, .int z => (match τ a with
    | some (.lst ys) => (match ixN ys.length z with
      | some n => k (tset τ a (.lst (ys.set n v)))
      | none => False)
    | _ => False)
  | _, _ => False
theorem ok_setL {K : PySem.W.Frag} : RSet K T rSetL ςLst := by
  intro τ H x i y vx vi vy k Q j rx ri ry h q
  match x, i, h, rx, ri with
  | .ref a, .int z, h, rx, ri =>
    have rx : vx = .ref a := rx
    have ri : vi = .int z := ri
    subst rx ri
    simp only [ςLst] at h
    split at h
    · rename_i ys ey
      split at h
      · rename_i n en
        obtain ⟨ws, hv, rr⟩ := j.obj a _ ey
        have ec : Ext τ H (tset τ a (.lst (ys.set n y))) (upd H a (.lst (ws.set n vy))) := .chg ey
        exact ⟨a, ws, z, n, rfl, rfl, hv, by rw [rr.length]; exact en, q _ _ ec (j.chg ey ⟨_, upd_same, (rr.ext ec).set n (ry.ext ec)⟩) h⟩
      · exact h.elim
    · exact h.elim
end
end DL

set_option Elab.async false
set_option linter.all false
set_option maxRecDepth 100000
set_option maxHeartbeats 2000000
/-! The data layer, 6: an own error whose __init__ hands its argument to super and keeps it in a field of the same name. -/
namespace DX
open PySem PySem.W PySem.Calls PyProof.Rows
section
variable (fld : Str)
def iA (p1 p2 : Pos) : Arguments := { posonlyargs := [], args := [{ arg := "self", annotation := none, pos := p1 }, { arg := fld, annotation := none, pos := p2 }], vararg := none, kwonlyargs := [], kw_defaults := [], kwarg := none, defaults := [] }
def iB (q1 q2 q3 q4 q5 q6 q7 q8 q9 q10 : Pos) : List Stmt := [.Expr (.Call (.Attribute (.Call (.Name "super" q1) [] [] q2) "__init__" q3) [.Name fld q4] [] q5) q6, .Assign [.Attribute (.Name "self" q7) fld q8] (.Name fld q9) q10]
def iS : Scope := { kind := .function, names := [(PySem.Str.ofString "self", .local), (fld, .local), (PySem.Str.ofString "__class__", .free), (PySem.Str.ofString "super", .globalImplicit)], isGenerator := false, isCoroutine := false, more := [] }
end
theorem boot_sup : bootBuiltins "super" = some (.type "super") := by decide +kernel
/-- the fields' names -/
inductive Fld : Str → Prop where
  | name : Fld "name" | word : Fld "word" | place : Fld "place" | line : Fld "line"
/-- what the written part says of the class at C and of its __init__ at fI; cc the cell of __class__, cda the code object -/
structure ErrTxt (prog : Program) (K : Frag) (mg : Str → Option Value) (cn fld : Str) (C fI cc cda : Addr) : Prop where
  gC : mg cn = some (.ref C)
  cls : ∃ nm q N bs bm sn sub ab col dd k0 k1 k2 k3 k5, K.lookup C = some (excClassObj nm q C N bs bm true sn sub ab col dd k0 k1 k2 k3 k5 "ValueError.__new__") ∧ HandSPX.refsVE bm = true ∧ alongIn K "__init__" bm = some (some (.builtin "ValueError.__init__"))
  exi : excInitIn K C HandSPX.veTail "ValueError.__new__" = true
  sa : findIn K (.ref C) "__setattr__" = some (some (.builtin "object.__setattr__"))
  ga : findIn K (.ref C) "__getattribute__" = some (some (.builtin "BaseException.__getattribute__"))
  gg : findIn K (.ref C) "__getattr__" = some none
  noN : findIn K (.ref C) fld = some none
  iC : findIn K (.ref C) "__init__" = some (some (.ref fI))
  tC : typeIn K (.ref fI) = some (.type "function")
  kC : keepIn K (.ref C) = true
  exC : subIn K (.ref C) (.type "BaseException") = some true
  veC : subIn K (.ref C) (.type "ValueError") = some true
  selfC : mroIn K C (.ref C) = some true
  tyC : typeIn K (.ref C) = some (.type "type")
  hdC : hasDictIn K C = true
  te : exmOne K (.ref C) (.ref C) = some true
  opq : nsIn K cStatics "thirdparty.any" = some none
  sup : mg "super" = none
  nosup : (prog.main.scope.names.lookup ("super" : Str)).isSome = false
  cell : ∃ cl cld csl, K.lookup cc = some ⟨cl, cld, .cell (some (.ref C)), csl⟩
  code : ∃ ccl cdd vs ccs file tf, K.lookup cda = some ⟨ccl, cdd, .fields vs, ccs⟩ ∧ vs[2]? = some (.str file tf) ∧ ((prog.main.file : Str) == file) = true
  fn : ∃ (qual : Str) (oc : Value) (od : Option Addr) (doc pm : Value) (an : Option Addr) (ct : Value) (osl : Array (Option Value)) (p1 p2 q1 q2 q3 q4 q5 q6 q7 q8 q9 q10 : Pos),
    K.lookup fI = some ⟨oc, od, .func (ksFn "__init__" qual (iA fld p1 p2) (iB fld q1 q2 q3 q4 q5 q6 q7 q8 q9 q10) (iS fld) .none .none doc pm an (.ref cda) ct cc), osl⟩ ∧ codeIn K (.ref cda) qual = true ∧
    ∃ pl : Env → Sem Bool, ∀ env, eval (.Call (.Attribute (.Call (.Name "super" q1) [] [] q2) "__init__" q3) [.Name fld q4] [] q5) env = (do
      let ov ← attributeBase (.Call (.Name "super" q1) [] [] q2) "__init__" env (eval (.Call (.Name "super" q1) [] [] q2) env)
      standAt q3.atName
      let (f, first) ← holding [ov] (getMethod ov "__init__" (pl env))
      callWith q5 f first (backTo q5 (starEach [.Name fld q4] env)) [])
/-- a made error: e the object, d its dict -/
structure Made (fld : Str) (h h' : Heap) (e C d : Addr) (v : Value) : Prop where
  keep : ∀ b o, h.get? b = some o → h'.get? b = some o
  new : h.objs.size ≤ e
  obj : ∃ oe vs, h'.get? e = some oe ∧ oe.cls = .ref C ∧ oe.dict = some d ∧ oe.data = .fields vs ∧ vs[1]? = some .none
  dbig : h.objs.size ≤ d
  dne : d ≠ e
  ns : h'.Ns1 d (fun y => if y = fld then some v else none)
section
variable {prog : Program} {w : World} {A : Around} {E : Value → Shared → Prop} {R : Result → Shared → Prop} {s : Shared} {K : Frag} {mg : Str → Option Value} {cn fld : Str} {C fI cc cda : Addr}
theorem lk (hf : Fld fld) : (iS fld).names.lookup fld = some .local ∧ (iS fld).names.lookup ("self" : Str) = some .local ∧ (iS fld).names.lookup ("__class__" : Str) = some .free ∧ (iS fld).names.lookup ("super" : Str) = some .globalImplicit ∧ (fld == ("__debug__" : Str)) = false ∧ ∀ y ∈ (iS fld).names, y.2 ≠ .cell := by
  cases hf <;> exact ⟨rfl, rfl, rfl, rfl, by decide, by decide⟩
theorem init_ok (hf : Fld fld) (T : ErrTxt prog K mg cn fld C fI cc cda) {x t0 : Addr} {v : Value} (X : K.In s.heap) (hg : s.heap.Ns mainGlobals mg) (hb : ∃ mb, s.heap.Ns builtinsNs mb ∧ ∀ y : Str, y ≠ "__name__" → mb y = bootBuiltins y) (hlim : s.heap.NoLimit) (hx : s.heap.get? x = some (excObj C t0 none .none)) (hnx : K.lookup x = none) (hroom : A.depth < recursionLimit)
    (hq : ∀ h' tk dx t1, (∀ b o, b ≠ x → s.heap.get? b = some o → h'.get? b = some o) → h'.get? x = some (excObj C t1 (some dx) .none) → s.heap.objs.size ≤ dx → dx ≠ x → h'.Ns1 dx (fun y => if y = fld then some v else none) → R (.ok (.ret .none)) { s with heap := h', toks := tk }) :
    codeAny (model prog w) A (.call (.ref fI) ⟨[.ref x, v], []⟩) R s := by
  obtain ⟨qual, oc, od, doc, pm, an, ct, osl, p1, p2, q1, q2, q3, q4, q5, q6, q7, q8, q9, q10, ho, hcd, pl, hpl⟩ := T.fn
  obtain ⟨nm, q, N, bs, bm, sn, sub, ab, col, dd, k0, k1, k2, k3, k5, hC, hbm, hal⟩ := T.cls
  obtain ⟨cl, cld, csl, hcell⟩ := T.cell
  obtain ⟨ccl, cdd, vs, ccs, file, tf, hcode, hvs, hfile⟩ := T.code
  obtain ⟨mb, hmb, hbb⟩ := hb
  obtain ⟨l1, l2, l3, l4, l5, l6⟩ := lk hf
  have hcl : clsIn K C = some { name := nm, bases := bs, mro := .ref C :: bm, ns := N, qualname := q, hasDict := true, slotNames := sn, subclasses := sub, abstract := ab, collection := col, hasDel := false } := by unfold clsIn; rw [hC] <;> rfl
  -- what stood, but for the object
  have hgK : K.In (hideAll s.heap [x]) := fun a o e => hideAll_get _ (X a o e) (by
    intro z
    have z : a = x := by simpa using z
    rw [z, hnx] at e; cases e)
  refine ks_codeAny_call_defAt (fd := ksFn "__init__" qual (iA fld p1 p2) (iB fld q1 q2 q3 q4 q5 q6 q7 q8 q9 q10) (iS fld) .none .none doc pm an (.ref cda) ct cc) (body := iB fld q1 q2 q3 q4 q5 q6 q7 q8 q9 q10) (binds := [("self", .ref x), (fld, v)]) hroom (X _ _ ho) rfl hlim (codeRec_of X hcd) rfl
    (BindsTo.of_eq (by cases hf <;> (first | rfl | with_unfolding_all rfl))) l6 (fun y hy => by
      rcases List.mem_cons.mp hy with e | hy
      · rw [e]; exact l2
      · rcases List.mem_cons.mp hy with e | hy
        · rw [e]; exact l1
        · cases hy) (fun h₀ hns hk => ?_)
  obtain ⟨hp, g, d, t, os⟩ := s
  have hxL : x < hp.objs.size := Heap.lt_size hx
  have hx₀ := hk _ _ hx
  have X₀ : K.In h₀ := X.keeps hk
  -- the frame, the object
  have F0 : Fr (hideAll hp [x]) hp.objs.size h₀ (fun y => ([("self", Value.ref x), (fld, v)] : List (Str × Value)).reverse.lookup y) := ⟨hns, fun b o e => hk _ _ (of_hideAll _ e), Nat.le_of_eq (hideAll_size _ _)⟩
  have N0 : News (hideAll hp [x]) hp.objs.size h₀ [(x, excObj C t0 none .none)] := fun p hp' => by
    have e : p = (x, excObj C t0 none .none) := by simpa using hp'
    subst e
    exact ⟨hx₀, Nat.ne_of_lt hxL, hideAll_none _ (by simp)⟩
  have vself : (fun y => ([("self", Value.ref x), (fld, v)] : List (Str × Value)).reverse.lookup y) "self" = some (.ref x) := by cases hf <;> rfl
  have vfld : (fun y => ([("self", Value.ref x), (fld, v)] : List (Str × Value)).reverse.lookup y) fld = some v := by cases hf <;> rfl
  refine ks_wpAt_execs_cons (ks_wpAt_Expr_any ?_ (by rfl) (by rfl))
  refine ks_wpAt_MethodCall (pl := pl _) ?_ (hpl _)
  -- super()
  have hCh : h₀.get? C = some (excClassObj nm q C N bs bm true sn sub ab col dd k0 k1 k2 k3 k5 "ValueError.__new__") := X₀ _ _ hC
  refine ks_wpAt_super_base (env := callEnv (ksFn "__init__" qual (iA fld p1 p2) (iB fld q1 q2 q3 q4 q5 q6 q7 q8 q9 q10) (iS fld) .none .none doc pm an (.ref cda) ct cc) hp.objs.size fI) l4 l3 (by decide) rfl (X₀ _ _ ho) rfl rfl rfl (X₀ _ _ hcode) rfl hvs hfile T.nosup ?_
  refine ks_loadName_global rfl l4 (loadGlobal_builtin (hg.keeps hk) T.sup (hmb.keeps hk) ((hbb _ (by decide)).trans boot_sup) ⟨rfl, ?_⟩)
  refine wpAny_loadName_free rfl l3 rfl ⟨_, X₀ _ _ hcell, rfl⟩ ?_
  refine wpAny_loadName_local rfl l2 hns vself ?_
  refine ks_wpAny_isType_cls hCh rfl ⟨rfl, ?_⟩
  refine ks_wpAny_call_super hCh rfl hx₀ rfl (fun c e => by cases e) (looks_mroIn X₀ T.selfC) (fun h1 e1 k1 => ?_)
  obtain ⟨F1, N1, lt1⟩ := ks_newsPush (s := ⟨h₀, g, d, t + ([("self", Value.ref x), (fld, v)] : List (Str × Value)).length, os⟩) F0 N0 rfl e1 k1
  have I1 : InstAt h1 x (excObj C t0 none .none) C none := ⟨(N1 (x, excObj C t0 none .none) (List.mem_cons_of_mem _ List.mem_cons_self)).1, rfl, rfl, trivial⟩
  refine kxs_method kxs_ValueError F1 hgK N1 (so := h₀.objs.size) (D := C) (C := C) (x := x) (by simp) I1 T.opq ?_ T.veC (by decide) (fun q' h2 F2 N2 lt2 => ?_)
  · unfold ks_superIn
    rw [hcl, Option.bind_some]
    show alongIn K "__init__" (((Value.ref C :: bm).dropWhile (· != .ref C)).drop 1) = _
    have e : ((Value.ref C :: bm).dropWhile (· != .ref C)).drop 1 = bm := by simp [List.dropWhile_cons]
    rw [e]
    exact hal
  have hs1 : h₀.objs.size < q' := lt2 (h₀.objs.size, ks_superObj C x C) List.mem_cons_self
  have hs2 : x < q' := lt2 (x, excObj C t0 none .none) (List.mem_cons_of_mem _ List.mem_cons_self)
  have hs3 : x < h₀.objs.size := lt1 (x, excObj C t0 none .none) List.mem_cons_self
  refine kxs_callWith1 (i := "ValueError.__init__") (x := x) N2 (by simp) ?_ (by rfl) (by rfl)
  refine Calls.spliced_cons (wpAny_Name (wpAny_loadName_local rfl l1 F2.ns vfld ?_) l5)
  refine Calls.spliced_nil ⟨kxs_at N2 (by simp), ?_⟩
  refine kxs_call F2 hgK N2 F.excBase_ValueError T.exi (t := t0) (dv := none) (c2 := .none) (by simp) (.tail (Nat.ne_of_gt hs2) (.tail (Nat.ne_of_gt hs3) (.head (by simp)))) (by rw [sizeLine_eq]; exact (by decide : 1 ≤ 16777216)) (fun t' h3 F3 N3 lt3 => ?_)
  -- self.fld = fld
  have hx3 : h3.get? x = some (excObj C t' none .none) := (N3 (x, excObj C t' none .none) (List.mem_cons_of_mem _ (List.mem_cons_of_mem _ (List.mem_cons_of_mem _ List.mem_cons_self)))).1
  have X₃ : K.In h3 := hgK.keeps F3.keep
  have keep3 : ∀ b o, b ≠ x → hp.get? b = some o → h3.get? b = some o := fun b o hb e => F3.keep b o (hideAll_get _ e (by simpa using hb))
  refine ks_wpAt_execs_cons (wpAt_of_wpAny (plainObj_wpAny_Assign_Attribute ?_))
  refine wpAny_Name (wpAny_loadName_local rfl l1 F3.ns vfld ?_) l5
  refine wpAny_Name (wpAny_loadName_local rfl l2 F3.ns vself ?_) (by decide)
  refine set_plain X₃ (ox := excObj C t' none .none) (od := none) ⟨hx3, rfl, rfl, trivial⟩ T.sa ?_
  refine HandSPX.exc_osa X₃ hx3 hcl (show HandSPX.refsVE (.ref C :: bm) = true from hbm) rfl T.noN (fun h4 tk4 dx k4 dn dne hx4 hn4 => ?_)
  refine wpAt_of_wpAny (wpAny_execs_nil ?_)
  have big : hp.objs.size < h3.objs.size := F3.ns.lt
  exact hq h4 tk4 dx t' (fun b o hb e => k4 b o hb (keep3 b o hb e)) hx4 (Nat.le_of_lt (Nat.lt_of_lt_of_le big dn)) dne hn4
/-- C(v): the object and its dict -/
theorem made_ok (hf : Fld fld) (T : ErrTxt prog K mg cn fld C fI cc cda) {v : Value} (X : K.In s.heap) (hg : s.heap.Ns mainGlobals mg) (hb : ∃ mb, s.heap.Ns builtinsNs mb ∧ ∀ y : Str, y ≠ "__name__" → mb y = bootBuiltins y) (hlim : s.heap.NoLimit) (hroom : A.depth + 1 < recursionLimit)
    (hq : ∀ h' tk e d, Made fld s.heap h' e C d v → R (.ok (.ret (.ref e))) { s with heap := h', toks := tk }) :
    codeAny (model prog w) A (.call (.ref C) ⟨[v], []⟩) R s := by
  obtain ⟨nm, q, N, bs, bm, sn, sub, ab, col, dd, k0, k1, k2, k3, k5, hC, hbm, hal⟩ := T.cls
  obtain ⟨hp, g, dr, tk, os⟩ := s
  have k : ∀ b o, hp.get? b = some o → ((hp.push (kdv_tup [v])).push (HandSPX.excO C hp.objs.size)).get? b = some o := fun b o e => Heap.get?_push_of_some _ (Heap.get?_push_of_some _ e)
  have at1 : ((hp.push (kdv_tup [v])).push (HandSPX.excO C hp.objs.size)).get? (hp.objs.size + 1) = some (HandSPX.excO C hp.objs.size) := by heap_get
  have fresh : K.lookup (hp.objs.size + 1) = none := by
    cases e : K.lookup (hp.objs.size + 1) with
    | none => rfl
    | some o => exact absurd (Nat.lt_of_succ_lt (Heap.lt_size (X _ _ e))) (Nat.lt_irrefl _)
  obtain ⟨mb, h1, h2⟩ := hb
  refine HandSPX.call_own F.excBase_ValueError (fun Y => HandSPX.refsVE_contains Y bm hbm) (X _ _ hC) (looks_findIn X T.iC) (fun self => bind_fn X self T.tC) (by rw [sizeLine_eq]; exact (by decide : 1 ≤ 16777216)) ?_
  refine init_ok hf (s := ⟨(hp.push (kdv_tup [v])).push (HandSPX.excO C hp.objs.size), g, dr, tk, os⟩) T (X.keeps k) (hg.keeps k) ⟨mb, h1.keeps k, h2⟩ (hlim.keeps k) at1 fresh (by exact hroom) fun h' tk' dx t1 k' hx dn dne hns => ?_
  have z : hp.objs.size + 1 + 1 ≤ dx := by
    have := dn
    simp only [Heap.size_push] at this
    exact this
  exact ⟨rfl, hq h' tk' (hp.objs.size + 1) dx ⟨fun b o e => k' b o (Nat.ne_of_lt (Nat.lt_succ_of_lt (Heap.lt_size e))) (k b o e), Nat.le_succ _, ⟨_, _, hx, rfl, rfl, rfl, rfl⟩, Nat.le_trans (Nat.le_trans (Nat.le_succ _) (Nat.le_succ _)) z, dne, hns⟩⟩
end
end DX

set_option Elab.async false
set_option linter.all false
set_option maxRecDepth 100000
set_option maxHeartbeats 1000000
/-! The data layer, 7: raise of an own error, lambdas that are called under try, named arguments. -/
namespace DX
open PySem PySem.Spec PyProof.Rows L2
theorem relO_fld {fld : Str} {v : V} {v' : Value} (r : RelV v v') (f : Str) : RelO (List.lookup f [(fld, v)]) (if f = fld then some v' else none) := by
  by_cases hw : f = fld
  · subst hw
    rw [if_pos rfl]
    have q : List.lookup f [(f, v)] = some v := by simp [List.lookup]
    rw [q]
    exact r
  · rw [if_neg hw]
    have qw : (f == fld) = false := by simpa using hw
    have q2 : List.lookup f [(fld, v)] = none := by simp [List.lookup, qw]
    rw [q2]
    trivial
def tMkX (C : Addr) (fld : Str) (ta : TA) : L2.St → Hp → XK → Prop := fun σ H Q => ta σ H fun vs H1 => ∃ v, vs = [v] ∧ ∀ d, H1 d = none → Q (.ref C) (some d) (upd H1 d (.xd [(fld, v)]))
section
variable {X : Cx} {C fI cc cda : Addr} {cn fld : Str}
theorem pmk_own {a : Expr} {ta : TA} {p pos : Pos} {k : Nat} (hf : Fld fld) (Te : ErrTxt X.prog X.K X.mg cn fld C fI cc cda) (hr : Room k X.A) (ha : PA X [a] ta) (hg : Gl X cn) (hdb : (cn == ("__debug__" : Str)) = false := by decide)
    (he : starEach (a :: []) X.env = (false, eval a X.env) :: starEach [] X.env := by rfl) (hpl : (backTo pos (starEach [] X.env)).any (·.1) = false := by rfl) :
    PMk X (.Call (.Name cn p) [a] [] pos) (tMkX C fld ta) := by
  intro pins s σ H Q I h
  refine wpAny_Call_Name_kw (ld_glob I hg Te.gC ?_ hdb)
  refine PySem.W.callWith_K (h₀ := X.base) I.ok.mod.kin Te.kC (thn (ha.run pos pins s σ H _ I h) fun us s1 hh => ?_) he hpl
  obtain ⟨vs, H1, I1, r1, v, ev, q1⟩ := hh
  subst ev
  refine ⟨I1.kIn, ?_⟩
  cases r1 with
  | cons rv rn =>
    rename_i v' us'
    cases rn
    show wpAny _ _ (call (.ref C) [v']) _ _ _
    have hlim := I1.nolimit
    have hglob := I1.ok.mod.glob.keeps I1.bk
    have hblt : ∃ mb, s1.heap.Ns builtinsNs mb ∧ ∀ y : Str, y ≠ "__name__" → mb y = bootBuiltins y := by
      obtain ⟨mb, z1, z2⟩ := I1.ok.mod.blt
      exact ⟨mb, z1.keeps I1.bk, z2⟩
    obtain ⟨hp, g, dr, tk, os⟩ := s1
    refine wpAny_call (made_ok hf Te I1.kIn hglob hblt hlim (by have := hr.dp; omega) fun h' tk' e d M => ?_)
    show MkP X pins σ Q (.ref e) ⟨h', g, dr, tk', os⟩
    obtain ⟨oe, fv, hoe, hc, hd, hdat, h1⟩ := M.obj
    have hns := M.ns
    obtain ⟨G', g1, g2⟩ := restrict h' fun b => decide (b ≠ e)
    have gk : ∀ b, b ≠ e → G'.get? b = h'.get? b := fun b hb => g1 b (decide_eq_true hb)
    have ge : G'.get? e = none := g2 e (by simp)
    have old : ∀ b o, hp.get? b = some o → G'.get? b = some o := fun b o q => (gk b (Nat.ne_of_lt (Nat.lt_of_lt_of_le (Heap.lt_size q) M.new))).trans (M.keep b o q)
    have ob : ObjOk X.prog X.w (upd H1 d (.xd [(fld, v)])) G' d (.xd [(fld, v)]) :=
      ⟨_, hns.at (fun o q => (gk d M.dne).trans q), fun f => relO_fld rv f⟩
    have J : Inv X pins σ (upd H1 d (.xd [(fld, v)])) ⟨G', g, dr, tk', os⟩ := I1.laid (t' := tk') old M.dbig ob
    refine ⟨e, oe, fv, ⟨G', g, dr, tk', os⟩, _, .ref C, some d, rfl, J, fun b o q => ?_, ge, hoe, ⟨hc, hd⟩, hdat, h1, ?_, rfl, I1.bare, raises_own Te.exC Te.tyC, q1 d (I1.hok.fresh M.dbig)⟩
    · by_cases hb : b = e
      · have q' : G'.get? b = some o := q
        rw [hb, ge] at q'; cases q'
      · exact (gk b hb).symm.trans q
    · rw [upd_ne (Ne.symm M.dne)]
      exact I1.hok.fresh M.new
end
end DX
namespace DL
open PySem PySem.Spec PyProof.Rows L2 DX
section
variable {T : List (Addr × Str)} {X : Cx} {E : XK} {KE : XD} {e a b c o : Expr} {es : List Expr} {pos : Pos} {δ δa δb δc δo : DE} {δs : DA}
/-- raise C(x) -/
def dRaise (KE : XD) (C : Addr) (fld : Str) (δs : DA) : DS := fun F τ ds => δs τ ds fun τ1 xs => match xs with
  | [d] => KE τ1 C fld d
  | _ => False
theorem pds_raise {C fI cc cda : Addr} {cn fld : Str} {p pos2 : Pos} {k : Nat} (hc : X.calm = true) (hf : Fld fld) (Te : ErrTxt X.prog X.K X.mg cn fld C fI cc cda) (hr : Room k X.A) (tk : Takes X (fun cls d _ H => E cls d H)) (hg : Gl X cn) (ha : PDA T X E KE [a] δs) (hdb : (cn == ("__debug__" : Str)) = false := by decide)
    (he : starEach (a :: []) X.env = (false, eval a X.env) :: starEach [] X.env := by rfl) (hpl : (backTo pos (starEach [] X.env)).any (·.1) = false := by rfl) :
    PDS T X E KE (.Raise (some (.Call (.Name cn p) [a] [] pos)) none pos2) (dRaise KE C fld δs) := by
  obtain ⟨t, h1, s1⟩ := ha.ex
  refine ⟨_, ps_raise hc tk (pmk_own hf Te hr h1 hg hdb he hpl), fun σ H τ ds F D' j s h xo eo => s1 σ H τ ds _ _ j s h xo fun vs τ1 H1 es e1 j1 r1 k1 => ?_⟩
  match es, k1, r1 with
  | [d], k1, r1 =>
    obtain ⟨v, r, ev, h1, er⟩ := r1
    have er : r = [] := er
    subst er
    exact ⟨v, ev, fun p hp => xo τ1 _ C fld d p v (e1.trans (.new hp)) (j1.new hp) upd_same (h1.ext (.new hp)) k1⟩
/-! ### a lambda that a def calls under try -/
theorem ext_N {τ : TD} {H H' : Hp} (e : LamX.ExtN H H') : Ext τ H τ H' := ⟨fun a o h _ n => e a o h n, fun _ _ _ t _ => t, fun _ _ _ t _ => t⟩
theorem J.extN {K : PySem.W.Frag} {τ : TD} {H H' : Hp} (j : J K T τ H) (e : LamX.ExtN H H') (t : LamX.Tabs T H') : J K T τ H' :=
  ⟨fun a o h => by
    obtain ⟨u, q, nt, _⟩ := dok_get (j.obj a o h)
    refine dok_map (j.obj a o h) (fun w z => ?_) (fun _ _ z => z.ext (ext_N e)) (fun _ _ z => z.ext (ext_N e))
    rw [q] at z
    cases z
    exact e a u q nt, t⟩
/-- def x(a): try: a() / except C as n: return n.fld / return ret -/
def TTf (K : PySem.W.Frag) (CS : Addr) (fld ret : Str) : (XK → Hp → VK → Prop) → Hp → VK → Prop := fun tl H Q =>
  tl (fun cls d H' => PySem.W.exmOne K cls (.ref CS) = some true ∧ cls = .ref CS ∧ ∃ (dd : Addr) (fs : List (Str × V)) (v : V), d = some dd ∧ H' dd = some (.xd fs) ∧ fs.lookup fld = some v ∧ Q v H') H fun _ H' => Q (.str ret) H'
theorem takes_len {X : Cx} {W : WX} (tk : Takes X W) : Takes X (fun cls d σ H => σ.length = X.N.length → W cls d σ H) := fun u s' ⟨a, B, sI, pins, σ, H, cls, d, e, I, nb, up, sky, na, os, ag, w⟩ =>
  tk u s' ⟨a, B, sI, pins, σ, H, cls, d, e, I, nb, up, sky, na, os, ag, w I.len⟩
theorem told_givesF {Ng : List Str} {x a e q ret n fld : Str} {sg : Scope} {g CS : Addr} {cdg : Value} {j i : Nat} {p1 p2 p3 p4 p5 p6 p7 p8 p9 p10 p11 : Pos} (hNg : Ng.Nodup) (hin : Ng[i]? = some n) (hnl : sg.names.lookup n = some .local) (T : XfC X.K CS) (hno : PySem.W.findIn X.K (.ref CS) fld = some none)
    (hge : sg.names.lookup e = some .globalImplicit) (hme : X.mg e = some (.ref CS)) (hde : (e == ("__debug__" : Str)) = false) (hdn : (n == ("__debug__" : Str)) = false) (hdc : (n == ("__classdict__" : Str)) = false) (h0 : ∀ f : Addr, (L2.start Ng [V.ref f])[0]? = some (some (V.ref f))) :
    LamX.GivesTo X Ng x sg g cdg [.Try [.Expr (.Call (.Name a p1) [] [] p2) p3] [.ExceptHandler (some (.Name e p4)) (some n) [.Return (some (.Attribute (.Name n p5) fld p6)) p7] p8] [] [] p9, .Return (some (.Constant (.str ret) j p10)) p11] a q (TTf X.K CS fld ret) := by
  intro f c' s H Q tl act hc h
  have hgl : Gl (cxOf C8.CX0 X.prog X.w X.K X.mg X.base Ng x sg g cdg X.A X.stack s H C8.E0).nox e := hge
  have hkn : (cxOf C8.CX0 X.prog X.w X.K X.mg X.base Ng x sg g cdg X.A X.stack s H C8.E0).nox.env.kindOf n = some .local := by
    show sg.names.lookup n = some .local
    exact hnl
  have hil : i < Ng.length := (List.getElem?_eq_some_iff.mp hin).1
  refine ⟨_, pss_cons (ps_try_as (X := (cxOf C8.CX0 X.prog X.w X.K X.mg X.base Ng x sg g cdg X.A X.stack s H C8.E0).nox) (c := .ref CS) (i := i)
      (tb := fun W D σ H => ∃ Ech : XK, (∀ cls d σ' H', Ech cls d H' → σ'.length = Ng.length → W cls d σ' H') ∧ σ[0]? = some (some (.ref f)) ∧ H c' = some (LamX.CodeO c' q) ∧ tl Ech H fun _ H' => D.nx σ H')
      rfl rfl hNg hin hkn ⟨hgl, hde, .inl hme⟩ LamX.takes0 (fun W pn xe tk _ => ?_) (fun a oe cls d pn hz hv => pss_one (ps_ret (pe_xf T hno hz hv (pe_var (i := i) hin (.inl hnl) hdn hdc))))) (pss_one (ps_ret pe_str)), ?_⟩
  · refine ⟨fun pins s' σ H' D I h' => ?_⟩
    obtain ⟨Ech, hW, h1, h2, h3⟩ := h'
    have hp := act (fun cls d σ H => σ.length = Ng.length → W cls d σ H) pn xe Ech p1 p2 (takes_len tk) hW
    have hq := pss_one (ps_expr (pos := p3) hp)
    exact hq.run pins s' σ H' D I ⟨h1, h2, h3⟩
  · refine ⟨_, fun cls d σ' H' hE hl => ⟨true, hE.1, fun _ b _ => ?_, fun hb => by cases hb⟩, h0 f, hc, h⟩
    refine ⟨.ref b, List.getElem?_set_self (by rw [hl]; exact hil), rfl, hE.2⟩
/-- what f(lambda: body) reads as -/
def dTold (C : Addr) (fld ret : Str) (δb : XD → DE) : DE := fun τ ds k => δb (fun τ' C' f d => C' = C ∧ f = fld ∧ k τ' d) τ ds fun τ' _ => k τ' (.str ret)
theorem pd_told {x a fld ret : Str} {g cl P CS : Addr} {k : Nat} {pg : Arguments} {bg : List Stmt} {sg : Scope} {dV kV doc pm cdv ct oc : Value} {an od : Option Addr} {osl : Array (Option Value)} {Ng : List Str}
    {params : Arguments} {body : Expr} {scope : Scope} {δb : XD → DE} {p lpos : Pos} (hg : Gl X x) (hm : X.mg x = some (.ref g)) (hk : PySem.W.keepIn X.K (.ref g) = true)
    (lk : X.K.lookup g = some ⟨oc, od, .func (PySem.W.fnOf x x pg bg sg dV kV doc pm an cdv ct), osl⟩) (hcg : PySem.W.codeIn X.K cdv x = true) (hb : L2.Binds X.K (PySem.W.fnOf x x pg bg sg dV kV doc pm an cdv ct) [a] []) (Sg : FnScope Ng [a] sg) (hNg : Ng[0]? = some a) (hva : Vis sg a)
    (hG : LamX.GivesTo X Ng x sg g cdv bg a (X.env.qual ++ "<lambda>") (TTf X.K CS fld ret)) (hex : PySem.W.exmOne X.K (.ref CS) (.ref CS) = some true)
    (TB : LamX.TabB X.base X.mg cl P) (hcode : X.env.code = .ref cl) (hmT : (P, X.env.qual ++ "<lambda>") ∈ T) (hu : ∀ p ∈ T, p.1 = P → p.2 = X.env.qual ++ "<lambda>") (hr : Room (k + 2) X.A) (L : LamX.LamS X.env.scope scope) (hdef : defaultsOf params X.env = ([], []))
    (hbind : ∀ (q : Str) (cl : List (Str × Addr)) (pm cv ctv : Value), bindArgs (PySem.W.kla_fn "<lambda>" q params body scope cl pm cv ctv) ⟨[], []⟩ = pure [])
    (hbody : ∀ (A : Around) (outer : List Env) (s : Shared) (H : Hp) (E : XK) (f c' : Addr) (KE : XD), Room k (A.deeper (LamX.lamEnv X scope s.heap.objs.size f c')) → PD T (LamX.lamCx X A outer s H E scope f c') E KE body (δb KE))
    (hdb : (x == ("__debug__" : Str)) = false := by decide) (hd : (a == ("__debug__" : Str)) = false := by decide) (hcd : (a == ("__classdict__" : Str)) = false := by decide) :
    PD T X E KE (.Call (.Name x p) [.Lambda params body scope lpos] [] pos) (dTold CS fld ret δb) := by
  have h' : ∀ (q : Around × List Env × Shared × Hp × XK × Addr × Addr × XD), ∃ t, (Room k (q.1.deeper (LamX.lamEnv X scope q.2.2.1.heap.objs.size q.2.2.2.2.2.1 q.2.2.2.2.2.2.1)) → PE (LamX.lamCx X q.1 q.2.1 q.2.2.1 q.2.2.2.1 q.2.2.2.2.1 scope q.2.2.2.2.2.1 q.2.2.2.2.2.2.1) body t) ∧ SndE X.K T q.2.2.2.2.1 q.2.2.2.2.2.2.2 t (δb q.2.2.2.2.2.2.2) := fun ⟨A, outer, s, H, E, f, c', KE⟩ => by
    by_cases hroom : Room k (A.deeper (LamX.lamEnv X scope s.heap.objs.size f c'))
    · obtain ⟨t, h1, h2⟩ := (hbody A outer s H E f c' KE hroom).ex
      exact ⟨t, fun _ => h1, h2⟩
    · exact ⟨fun _ _ _ => True, fun z => absurd z hroom, fun _ _ _ _ _ _ _ _ _ _ _ => trivial⟩
  refine ⟨_, LamX.pe_lamcall (T := T) (t := fun E σ H Q => ∃ KE, ∀ A outer s H0 f c', (h' (A, outer, s, H0, E, f, c', KE)).choose σ H Q) hg hm hk lk hcg hb Sg hNg hva hG TB hcode hmT hu hr L hdef hbind (fun A outer s H0 E f c' hroom => ⟨fun pins s1 σ H Q I q => ?_⟩) hdb hd hcd, fun σ H τ ds k' Q j s h xo q => ?_⟩
  · obtain ⟨KE, q⟩ := q
    exact ((h' (A, outer, s, H0, E, f, c', KE)).choose_spec.1 hroom).run pins s1 σ H Q I (q A outer s H0 f c')
  · refine ⟨j.tabs, fun H1 eN T1 => ?_⟩
    have j1 := j.extN eN T1
    refine ⟨fun τ' C' f d => C' = CS ∧ f = fld ∧ k' τ' d, fun A outer s0 H0 f c' => ?_⟩
    refine (h' (A, outer, s0, H0, _, f, c', _)).choose_spec.2 σ H1 τ ds _ _ j1 (s.ext (ext_N eN)) h (fun τ2 H2 C' f2 d b v e2 j2 hb r2 k2 => ?_) fun v τ2 H2 d e2 j2 r2 k2 => ?_
    · obtain ⟨rfl, rfl, k2⟩ := k2
      exact ⟨hex, rfl, b, _, v, rfl, hb, by simp [List.lookup], q v τ2 H2 d ((ext_N eN).trans e2) j2 r2 k2⟩
    · exact q (.str ret) τ2 H2 (.str ret) ((ext_N eN).trans e2) j2 rfl k2
end
end DL

set_option Elab.async false
set_option linter.all false
set_option maxRecDepth 100000
set_option maxHeartbeats 1000000
/-! The data layer, 8: named arguments, defs with lambdas, inductions over loops. -/
namespace DL
open PySem PySem.Spec PyProof.Rows L2 DX
/-! ### contexts -/
section
variable {P : Program} {w : World} {K : PySem.W.Frag} {mg : Str → Option Value} {base : Heap} {N : List Str} {qual : Str} {sc : Scope} {f : Addr} {cd : Value} {A : Around} {outer : List Env} {s : Shared} {H : Hp} {E : XK}
theorem takeD : Takes (cxOf (L2.CX P w) P w K mg base N qual sc f cd A outer s H E) (fun cls d _ H => E cls d H) := takes_of rfl rfl rfl rfl
theorem passD : Passes (L2.CX P w) (cxOf (L2.CX P w) P w K mg base N qual sc f cd A outer s H E) E := passes_call takeD fun _ _ _ _ h => h
theorem ownD : PassesOwn (model P w) (A.deeper (envOfC qual sc s.heap.objs.size f cd)) (envOfC qual sc s.heap.objs.size f cd) (cxOf (L2.CX P w) P w K mg base N qual sc f cd A outer s H E).xe := PassesOwn.leaving
theorem takeL {X : Cx} {sc : Scope} {c' : Addr} : Takes (LamX.lamCx X A outer s H E sc f c') (fun cls d _ H => E cls d H) := takes_of rfl rfl rfl rfl
theorem passLm {X : Cx} {sc : Scope} {c' : Addr} : Passes (L2.CX (LamX.lamCx X A outer s H E sc f c').prog (LamX.lamCx X A outer s H E sc f c').w) (LamX.lamCx X A outer s H E sc f c') E := passes_call takeL fun _ _ _ _ h => h
end
theorem room_eq {k : Nat} {A : Around} (h : Room k A) : A.units + 64 < cLine := by have := h.un; omega
/-! ### a def without defaults -/
theorem fun_of {K : PySem.W.Frag} {x qual : Str} {st : Stmt} {f : Addr} {fd : FuncData} (F : FunD K x qual (defArgs st) (defBody st) (defScope st) [] [] f fd) : Fun K x qual st f fd := by
  obtain ⟨oc, od, dV, kV, doc, pm, an, cdv, ct, osl, e, lk, hcd, hD, _⟩ := F.ex
  rcases hD with ⟨_, h⟩ | ⟨h, _⟩
  · subst h
    exact ⟨⟨oc, od, kV, doc, pm, an, cdv, ct, osl, e, lk, hcd⟩, F.kp⟩
  · exact absurd rfl h
theorem fun_binds {K : PySem.W.Frag} {x qual : Str} {st : Stmt} {f : Addr} {fd : FuncData} {ps : List Str} (F : Fun K x qual st f fd)
    (h : ∀ (kV doc pm : Value) (an : Option Addr) (cdv ct : Value) (us : List Value), us.length = ps.length → bindArgs (PySem.W.fnOf x qual (defArgs st) (defBody st) (defScope st) .none kV doc pm an cdv ct) ⟨us, []⟩ = pure (ps.zip us)) : L2.Binds K fd ps [] := by
  obtain ⟨oc, od, kV, doc, pm, an, cdv, ct, osl, rfl, lk, hcd⟩ := F.ex
  exact .all (h kV doc pm an cdv ct)
/-! ### named arguments -/
def perm {α : Type} (ix : List Nat) (xs : List α) : List α := ix.filterMap fun i => xs[i]?
/-- m by position, n by name, in the order ix -/
def gK (m n : Nat) (ix : List Nat) {α : Type} (us ws : List α) : List α := if us.length = m ∧ ws.length = n then us ++ perm ix ws else []
theorem vals_at {vs : List V} {us : List Value} (r : Vals vs us) : ∀ i : Nat, (∃ v u, vs[i]? = some v ∧ us[i]? = some u ∧ RelV v u) ∨ (vs[i]? = none ∧ us[i]? = none) := by
  induction r with
  | nil => exact fun i => .inr ⟨by simp, by simp⟩
  | cons h _ ih =>
    intro i
    cases i with
    | zero => exact .inl ⟨_, _, rfl, rfl, h⟩
    | succ i => simpa using ih i
theorem vals_perm {vs : List V} {us : List Value} (r : Vals vs us) : ∀ ix : List Nat, Vals (perm ix vs) (perm ix us)
  | [] => .nil
  | i :: ix => by
    have ih := vals_perm r ix
    unfold perm at ih ⊢
    rcases vals_at r i with ⟨v, u, h1, h2, h3⟩ | ⟨h1, h2⟩
    · rw [List.filterMap_cons, List.filterMap_cons, h1, h2]
      exact .cons h3 ih
    · rw [List.filterMap_cons, List.filterMap_cons, h1, h2]
      exact ih
theorem vals_app {vs ws : List V} {us zs : List Value} (r : Vals vs us) (r2 : Vals ws zs) : Vals (vs ++ ws) (us ++ zs) := r.append r2
theorem drs_perm {K : PySem.W.Frag} {τ : TD} {H : Hp} {ds : List D} {vs : List V} (r : DRs K τ H ds vs) : ∀ ix : List Nat, DRs K τ H (perm ix ds) (perm ix vs)
  | [] => rfl
  | i :: ix => by
    have ih := drs_perm r ix
    unfold perm at ih ⊢
    rw [List.filterMap_cons, List.filterMap_cons]
    cases e : ds[i]? with
    | some d =>
      obtain ⟨v, h1, h2⟩ := r.get e
      rw [h1]
      exact ⟨v, _, rfl, h2, ih⟩
    | none =>
      have : vs[i]? = none := by
        cases q : vs[i]? with
        | none => rfl
        | some v =>
          obtain ⟨d, h1, _⟩ := r.getV q
          rw [e] at h1; cases h1
      rw [this]
      exact ih
theorem kb_of {K : PySem.W.Frag} {x qual : Str} {st : Stmt} {f : Addr} {fd : FuncData} {ps ks : List Str} (F : Fun K x qual st f fd) (m n : Nat) (ix : List Nat) (h0 : ps ≠ [])
    (h : ∀ (kV doc pm : Value) (an : Option Addr) (cdv ct : Value) (us ws : List Value), us.length = m → ws.length = n → bindArgs (PySem.W.fnOf x qual (defArgs st) (defBody st) (defScope st) .none kV doc pm an cdv ct) ⟨us, ks.zip ws⟩ = pure (ps.zip (us ++ perm ix ws))) : KBinds K fd ps ks (gK m n ix) (gK m n ix) := by
  obtain ⟨oc, od, kV, doc, pm, an, cdv, ct, osl, rfl, lk, hcd⟩ := F.ex
  refine ⟨fun s us ws X hl => ?_, fun {vs us zs ws} r rz => ?_⟩
  · by_cases hc : us.length = m ∧ ws.length = n
    · have e : gK m n ix us ws = us ++ perm ix ws := if_pos hc
      rw [e]
      exact .of_eq (h kV doc pm an cdv ct us ws hc.1 hc.2)
    · have e : gK m n ix us ws = [] := if_neg hc
      rw [e] at hl
      exact absurd (List.eq_nil_of_length_eq_zero hl.symm) h0
  · unfold gK
    rw [r.length, rz.length]
    split
    · exact vals_app r (vals_perm rz ix)
    · exact .nil
theorem drs_gK {K : PySem.W.Frag} {τ : TD} {H : Hp} {ds es : List D} {vs ws : List V} (r : DRs K τ H ds vs) (r2 : DRs K τ H es ws) (m n : Nat) (ix : List Nat) : DRs K τ H (gK m n ix ds es) (gK m n ix vs ws) := by
  unfold gK
  rw [r.length, r2.length]
  split
  · exact r.append (drs_perm r2 ix)
  · rfl
section
variable {T : List (Addr × Str)} {X : Cx} {E : XK} {KE : XD} {e : Expr} {es : List Expr} {pos : Pos} {δs δk : DA}
theorem pd_callK {x : Str} {k m n : Nat} {ix : List Nat} {f : Addr} {fd : FuncData} {ps ks : List Str} {sp : SpD} {kws : List Keyword} {p : Pos} (F : FnD X.prog X.w X.K X.mg X.base T k f fd ps sp) (hr : Room k X.A) (hg : Gl X x) (hm : X.mg x = some (.ref f)) (hk : PySem.W.keepIn X.K (.ref f) = true) (hb : KBinds X.K fd ps ks (gK m n ix) (gK m n ix))
    (hx : Passes (L2.CX X.prog X.w) X E) (ha : PDA T X E KE (e :: es) δs) (hkw : PDK T X E KE kws δk) (hall : (backToKw pos (keywordEach kws X.env)).all (·.1.isSome) = true := by rfl) (hks : (backToKw pos (keywordEach kws X.env)).filterMap (·.1) = ks := by rfl)
    (hdb : (x == ("__debug__" : Str)) = false := by decide) (he : starEach (e :: es) X.env = (false, eval e X.env) :: starEach es X.env := by rfl)
    (hpl : ((backTo pos (starEach (e :: es) X.env)).any (·.1) || (backToKw pos (keywordEach kws X.env)).any (·.1.isNone)) = false := by rfl) :
    PD T X E KE (.Call (.Name x p) (e :: es) kws pos) (dCallK ps.length sp (gK m n ix) KE δs δk) := by
  obtain ⟨t, h1, s1⟩ := ha.ex
  obtain ⟨tk, h2, s2⟩ := hkw.ex
  refine ⟨_, pe_callK F hr hg hm hk hb hx h1 h2 hall hks hdb he hpl, fun σ H τ ds k' Q j s h' xo q => s1 σ H τ ds _ _ j s h' xo fun vs τ1 H1 xs e1 j1 r1 k1 => ?_⟩
  refine s2 σ H1 τ1 ds _ _ j1 (s.ext e1) k1 (xo.ext e1) fun ws τ2 H2 zs e2 j2 r2 k2 => ?_
  exact ⟨τ2, gK m n ix xs zs, k', KE, j2, drs_gK (r1.ext e2) r2 m n ix, k2.1, k2.2, xo.ext (e1.trans e2), fun v τ' H' d e3 j3 r3 k3 => q v τ' H' d ((e1.trans e2).trans e3) j3 r3 k3⟩
theorem pd_callK0 {x : Str} {k m n : Nat} {ix : List Nat} {f : Addr} {fd : FuncData} {ps ks : List Str} {sp : SpD} {kws : List Keyword} {p : Pos} (F : FnD X.prog X.w X.K X.mg X.base T k f fd ps sp) (hr : Room k X.A) (hg : Gl X x) (hm : X.mg x = some (.ref f)) (hk : PySem.W.keepIn X.K (.ref f) = true) (hb : KBinds X.K fd ps ks (gK m n ix) (gK m n ix))
    (hx : Passes (L2.CX X.prog X.w) X E) (hkw : PDK T X E KE kws δk) (hall : (backToKw pos (keywordEach kws X.env)).all (·.1.isSome) = true := by rfl) (hks : (backToKw pos (keywordEach kws X.env)).filterMap (·.1) = ks := by rfl)
    (hdb : (x == ("__debug__" : Str)) = false := by decide)
    (hpl : ((backTo pos (starEach [] X.env)).any (·.1) || (backToKw pos (keywordEach kws X.env)).any (·.1.isNone)) = false := by rfl) :
    PD T X E KE (.Call (.Name x p) [] kws pos) (dCallK ps.length sp (gK m n ix) KE dNil δk) := by
  obtain ⟨tk, h2, s2⟩ := hkw.ex
  refine ⟨fun σ H Q => tk σ H fun zs H2 => spOf X.K T ps.length sp (gK m n ix [] zs) H2 Q E, ⟨fun pins s σ H Q I h => ?_⟩, fun σ H τ ds k' Q j s h' xo q => ?_⟩
  · refine wpAny_Call_Name_kw (ld_glob I hg hm ?_ hdb)
    refine PySem.W.callWith_KW0 (h₀ := X.base) I.ok.mod.kin hk hall (thn (h2.run pos pins s σ H _ I h) fun ws s2 ⟨zs, H2, I2, rz, q2⟩ => ⟨I2.kIn, ?_⟩) hpl
    rw [hks]
    exact run_fnk (us := []) (vs := []) F hr hb hx I2 .nil rz q2
  · refine s2 σ H τ ds _ _ j s h' xo fun ws τ2 H2 zs e2 j2 r2 k2 => ?_
    exact ⟨τ2, gK m n ix [] zs, k', KE, j2, drs_gK (ds := []) (vs := []) rfl r2 m n ix, k2.1, k2.2, xo.ext e2, fun v τ' H' d e3 j3 r3 k3 => q v τ' H' d (e2.trans e3) j3 r3 k3⟩
theorem pdkc {nm : Option Str} {kpos : Pos} {kws : List Keyword} {δ : DE} {δs : DA} (ha : PD T X E KE e δ) (hr : PDK T X E KE kws δs) : PDK T X E KE (⟨nm, e, kpos⟩ :: kws) (dCons δ δs) := pdk_cons ha hr fun _ _ h1 h2 => pk_cons h1 h2
end
/-! ### a def that makes lambdas: its code object is named -/
theorem fnD_ofL {P : Program} {w : World} {K : PySem.W.Frag} {mg : Str → Option Value} {base : Heap} {T : List (Addr × Str)} {x qual : Str} {st : Stmt} {p : Str × Option Str} {fd : FuncData} {N ps : List Str} {k : Nat} {sp : SpD} (F : Fun K x qual st (He.fAd K p) fd) (S : FnScope N ps (defScope st))
    (h : ∀ KE : XD, ∃ δ : DS, (∀ (A : Around) (outer : List Env) (s : Shared) (H : Hp) (E : XK), Room k (A.deeper (envOfC qual (defScope st) s.heap.objs.size (He.fAd K p) (.ref (He.codeOf K p)))) →
      PDSs T (cxOf (L2.CX P w) P w K mg base N qual (defScope st) (He.fAd K p) (.ref (He.codeOf K p)) A outer s H E) E (FinX KE) (defBody st) δ) ∧
      ∀ τ ds (q : DK), ds.length = ps.length → sp τ ds q KE → δ { nx := fun τ' _ => Fin q τ' .non, rt := Fin q } τ (startD N.length ds)) : FnD P w K mg base T (k + 1) (He.fAd K p) fd ps sp := by
  obtain ⟨oc, od, kV, doc, pm, an, cdv, ct, osl, rfl, lk, hcd⟩ := F.ex
  obtain ⟨c, rfl⟩ := He.codeIn_ref hcd
  have ec : He.codeOf K p = c := He.codeOf_eq lk rfl
  refine fn_of lk hcd S (fun vs H Q E ⟨τ, ds, q, KE, j, r, hl, _⟩ => by rw [r.length, hl]) fun A outer s H vs Q E hr ⟨τ, ds, q, KE, j, r, hl, hsp, xo, hq⟩ => ?_
  obtain ⟨δ, h1, h2⟩ := h KE
  rw [ec] at h1
  obtain ⟨t, p, sd⟩ := (h1 A outer s H E hr).ex
  refine ⟨t, p, sd _ H τ _ _ _ j (sr_start r) (h2 τ ds q hl hsp) xo.fin ⟨fun τ' H' ds' σ' e j' s' ⟨τ'', d', sb, z, k'⟩ => ?_, fun _ _ _ _ _ _ _ z => z.elim, fun _ _ _ _ _ _ _ z => z.elim, fun τ' H' d v e j' r' ⟨τ'', d', sb, z, k'⟩ => ?_⟩⟩
  · exact hq .non τ'' H' d' (e.sub sb) (j'.sub sb) (z.ok (v := .non) j' sb rfl) k'
  · exact hq v τ'' H' d' (e.sub sb) (j'.sub sb) (z.ok j' sb r') k'
/-! ### inductions -/
theorem loop_ind {γ : DG} {β : DS} {F : EndsD} (I : List D → TD → Sl → Prop) (step : ∀ x r τ ds, I (x :: r) τ ds → ∀ G : TD → Sl → Prop, (∀ τ' ds', I r τ' ds' → G τ' ds') → γ x τ ds (β { F with nx := G, ct := G, bk := F.nx }))
    (fin : ∀ τ ds, I [] τ ds → F.nx τ ds) : ∀ (xs : List D) (τ : TD) (ds : Sl), I xs τ ds → dLoop γ β F xs τ ds
  | [], τ, ds, h => fin τ ds h
  | x :: r, τ, ds, h => step x r τ ds h _ fun τ' ds' h' => loop_ind I step fin r τ' ds' h'
theorem lc_ind {γ : DG} {η : DT} {δ : DE} {ws : List Nat} {ds : Sl} {L : Addr} {k : TD → List D → Prop} (I : List D → List D → TD → Prop)
    (step : ∀ x r acc τ, I (x :: r) acc τ → ∀ G : List D → TD → Prop, (∀ acc' τ', I r acc' τ' → G acc' τ') →
      γ x τ (wipeD ds ws) fun τ1 ds1 => η τ1 ds1 fun τ2 b => if b = true then δ τ2 ds1 fun τ3 d => τ3 L = some (.lst acc) ∧ acc.length < sizeLine ∧ G (acc ++ [d]) (tset τ3 L (.lst (acc ++ [d]))) else G acc τ2)
    (fin : ∀ acc τ, I [] acc τ → τ L = some (.lst acc) ∧ k τ acc) : ∀ (xs acc : List D) (τ : TD), I xs acc τ → dLcL γ η δ ws ds L k xs acc τ
  | [], acc, τ, h => fin acc τ h
  | x :: r, acc, τ, h => step x r acc τ h _ fun acc' τ' h' => lc_ind I step fin r acc' τ' h'
/-- each item read by itself, nothing changed: f says what comes of it -/
theorem lc_pure {γ : DG} {η : DT} {δ : DE} {ws : List Nat} {ds : Sl} {τ0 : TD} {k : TD → D → Prop} {xs : List D} (f : D → Option D) (hz : xs.length ≤ sizeLine)
    (h : ∀ x ∈ xs, ∀ (τ : TD) (k : TD → Option D → Prop), k τ (f x) → γ x τ (wipeD ds ws) fun τ1 ds1 => η τ1 ds1 fun τ2 b => if b = true then δ τ2 ds1 fun τ3 d => k τ3 (some d) else k τ2 none)
    (hk : k τ0 (.lst (xs.filterMap f))) (L : Addr) (hL : τ0 L = none) : dLcL γ η δ ws ds L (fun τ2 acc => k (tdel τ2 L) (.lst acc)) xs [] (tset τ0 L (.lst [])) := by
  refine lc_ind (fun r acc τ => (∃ pre, xs = pre ++ r ∧ acc = pre.filterMap f) ∧ τ = tset τ0 L (.lst acc)) (fun x r acc τ hI G hG => ?_) (fun acc τ hI => ?_) xs [] _ ⟨⟨[], rfl, rfl⟩, rfl⟩
  · obtain ⟨⟨pre, e1, e2⟩, e3⟩ := hI
    have hx : x ∈ xs := by rw [e1]; simp
    have hl : acc.length < sizeLine := by
      have h1 : acc.length ≤ pre.length := by rw [e2]; exact List.length_filterMap_le _ _
      have h2 : xs.length = pre.length + (r.length + 1) := by rw [e1]; simp
      omega
    have tl : τ L = some (.lst acc) := by rw [e3]; exact tset_same
    refine h x hx τ (fun τ3 o => match o with | some d => τ3 L = some (.lst acc) ∧ acc.length < sizeLine ∧ G (acc ++ [d]) (tset τ3 L (.lst (acc ++ [d]))) | none => G acc τ3) ?_
    cases hf : f x with
    | some d => exact ⟨tl, hl, hG _ _ ⟨⟨pre ++ [x], by rw [e1]; simp, by rw [e2]; simp [hf]⟩, by rw [e3, tset_tset]⟩⟩
    | none => exact hG _ _ ⟨⟨pre ++ [x], by rw [e1]; simp, by rw [e2]; simp [hf]⟩, e3⟩
  · obtain ⟨⟨pre, e1, e2⟩, e3⟩ := hI
    rw [List.append_nil] at e1
    subst e1
    refine ⟨by rw [e3]; exact tset_same, ?_⟩
    rw [e3, tset_del hL, e2]
    exact hk
end DL

set_option Elab.async false
set_option linter.all false
set_option maxRecDepth 100000
set_option maxHeartbeats 1000000
/-! The data layer, 9: what the top has written, read off its heap. -/
namespace DX
open PySem PySem.Spec PyProof.Rows L2 He
/-! ### addresses -/
def asY (g : Addr → Option Obj) : Nat → List Addr
  | 0 => [mainGlobals, cStatics]
  | n + 1 => growD g (asY g n)
/-! ### an own error -/
def ccOf (K : PySem.W.Frag) (fI : Addr) : Addr := match K.lookup fI with
  | some ⟨_, _, .func fd, _⟩ => (match fd.closure with
    | [(_, c)] => c
    | _ => 0)
  | _ => 0
def cdOf (K : PySem.W.Frag) (fI : Addr) : Addr := match K.lookup fI with
  | some ⟨_, _, .func fd, _⟩ => (match fd.code with
    | .ref c => c
    | _ => 0)
  | _ => 0
def iOf (K : PySem.W.Frag) (cn : Str) : Addr := ma K (ga K cn) "__init__"
abbrev FnI : Type := Option (Str × Str × Arguments × FuncBody × Scope × Addr × List Str × Addr)
def initW (K : PySem.W.Frag) (cn : Str) : FnI := match K.lookup (iOf K cn) with
  | some ⟨_, _, .func fd, _⟩ => some (fd.name, fd.qualname, fd.params, fd.body, fd.scope, fd.globals, fd.closure.map (·.1), fd.builtins)
  | _ => none
def clsB (K : PySem.W.Frag) (C : Addr) : Bool := match K.lookup C with
  | some ⟨.type t, _, .cls cd, sl⟩ => (match cd.mro, sl.toList with
    | .ref C' :: bm, [_, _, _, _, some (.builtin n), _] => decide (t = "type") && (decide (C' = C) && (decide (n = "ValueError.__new__") && (!cd.hasDel && (cd.hasDict && (HandSPX.refsVE bm && eqO (PySem.W.alongIn K "__init__" bm) (some (some (.builtin "ValueError.__init__"))))))))
    | _, _ => false)
  | _ => false
theorem clsB_ok {K : PySem.W.Frag} {C : Addr} (h : clsB K C = true) : ∃ nm q N bs bm sn sub ab col dd k0 k1 k2 k3 k5, K.lookup C = some (excClassObj nm q C N bs bm true sn sub ab col dd k0 k1 k2 k3 k5 "ValueError.__new__") ∧ HandSPX.refsVE bm = true ∧ PySem.W.alongIn K "__init__" bm = some (some (.builtin "ValueError.__init__")) := by
  unfold clsB at h
  split at h
  · rename_i t dd cd sl ho
    split at h
    · rename_i C' bm k0 k1 k2 k3 n k5 hm hs
      obtain ⟨h1, h⟩ := ba h
      obtain ⟨h2, h⟩ := ba h
      obtain ⟨h3, h⟩ := ba h
      obtain ⟨h4, h⟩ := ba h
      obtain ⟨h5, h⟩ := ba h
      obtain ⟨h6, h7⟩ := ba h
      have e1 := of_decide_eq_true h1
      have e2 := of_decide_eq_true h2
      have e3 := of_decide_eq_true h3
      subst e1 e2 e3
      obtain ⟨nm, bs, mro, ns, qn, hd, sn, sub, ab, col, del⟩ := cd
      dsimp only at hm h4 h5
      have h4 : del = false := by simpa using h4
      subst hm h4 h5
      have hsl : sl = #[k0, k1, k2, k3, some (.builtin "ValueError.__new__"), k5] := by
        obtain ⟨l⟩ := sl
        simp only at hs
        rw [hs]
      subst hsl
      exact ⟨nm, qn, ns, bs, bm, sn, sub, ab, col, dd, k0, k1, k2, k3, k5, ho, h6, eqO_ok h7⟩
    · cases h
  · cases h
def cellB (K : PySem.W.Frag) (c C : Addr) : Bool := match K.lookup c with
  | some ⟨_, _, .cell (some (.ref C')), _⟩ => decide (C' = C)
  | _ => false
def fileB (K : PySem.W.Frag) (c : Addr) (fl : Str) : Bool := match K.lookup c with
  | some ⟨_, _, .fields vs, _⟩ => (match (vs[2]? : Option Value) with
    | some (.str f _) => fl == f
    | _ => false)
  | _ => false
def ifnC (K : PySem.W.Frag) (C : Addr) (fl q : Str) (cl : List (Str × Addr)) (cd dv kv : Value) : Bool := match cl, cd, dv, kv with
  | [(_, cc)], .ref cda, .none, .none => cellB K cc C && (fileB K cda fl && PySem.W.codeIn K (.ref cda) q)
  | _, _, _, _ => false
theorem ifnC_ok {K : PySem.W.Frag} {C : Addr} {fl q : Str} {cl : List (Str × Addr)} {cd dv kv : Value} (h : ifnC K C fl q cl cd dv kv = true) : ∃ x cc cda, cl = [(x, cc)] ∧ cd = .ref cda ∧ dv = .none ∧ kv = .none ∧ cellB K cc C = true ∧ fileB K cda fl = true ∧ PySem.W.codeIn K (.ref cda) q = true := by
  unfold ifnC at h
  split at h
  · rename_i x cc cda
    obtain ⟨c1, b⟩ := ba h
    obtain ⟨c2, c3⟩ := ba b
    exact ⟨x, cc, cda, rfl, rfl, rfl, rfl, c1, c2, c3⟩
  · cases h
def ifnB (K : PySem.W.Frag) (fI C : Addr) (fl : Str) : Bool := match K.lookup fI with
  | some ⟨_, _, .func fd, _⟩ => ifnC K C fl fd.qualname fd.closure fd.code fd.defaults fd.kwdefaults
  | _ => false
def errB (K : PySem.W.Frag) (cn fld fl : Str) : Bool :=
  clsB K (ga K cn) && (PySem.W.excInitIn K (ga K cn) HandSPX.veTail "ValueError.__new__" && (eqO (PySem.W.findIn K (.ref (ga K cn)) "__setattr__") (some (some (.builtin "object.__setattr__"))) &&
  (eqO (PySem.W.findIn K (.ref (ga K cn)) "__getattribute__") (some (some (.builtin "BaseException.__getattribute__"))) && (eqO (PySem.W.findIn K (.ref (ga K cn)) "__getattr__") (some none) && (eqO (PySem.W.findIn K (.ref (ga K cn)) fld) (some none) &&
  (eqO (PySem.W.findIn K (.ref (ga K cn)) "__init__") (some (some (.ref (iOf K cn)))) && (decide (PySem.W.typeIn K (.ref (iOf K cn)) = some (.type "function")) && (PySem.W.keepIn K (.ref (ga K cn)) && (decide (PySem.W.subIn K (.ref (ga K cn)) (.type "BaseException") = some true) &&
  (decide (PySem.W.subIn K (.ref (ga K cn)) (.type "ValueError") = some true) && (decide (PySem.W.mroIn K (ga K cn) (.ref (ga K cn)) = some true) && (decide (PySem.W.typeIn K (.ref (ga K cn)) = some (.type "type")) && (PySem.W.hasDictIn K (ga K cn) &&
  (decide (PySem.W.exmOne K (.ref (ga K cn)) (.ref (ga K cn)) = some true) && (eqO (PySem.W.nsIn K cStatics "thirdparty.any") (some none) && ifnB K (iOf K cn) (ga K cn) fl)))))))))))))))
/-- the text of an own error's class -/
structure DErr where
  cn : Str
  fld : Str
  val : FnI
def clsInit (st : Stmt) : Option (Str × Arguments × List Stmt × Scope) := match st with
  | .ClassDef _ _ _ [.FunctionDef n a b _ _ _ sc _ _ _] _ _ _ _ _ _ _ => some (n, a, b, sc)
  | _ => none
section
variable {prog : Program} {K : PySem.W.Frag} {mg : Str → Option Value} {h : Heap}
theorem errTxt_of {cn fld qual : Str} {p1 p2 q1 q2 q3 q4 q5 q6 q7 q8 q9 q10 : Pos} (X : K.In h) (G : h.Ns mainGlobals mg) (hi : initW K cn = (some ("__init__", qual, iA fld p1 p2, .stmts (iB fld q1 q2 q3 q4 q5 q6 q7 q8 q9 q10), iS fld, mainGlobals, ["__class__"], builtinsNs) : FnI)) (hb : errB K cn fld prog.main.file = true)
    (hg : (Fa.glo cn).ok K = true) (hs : (Fa.free "super").ok K = true) (ns : (prog.main.scope.names.lookup ("super" : Str)).isSome = false)
    (hpl : ∃ pl : Env → Sem Bool, ∀ env, eval (.Call (.Attribute (.Call (.Name "super" q1) [] [] q2) "__init__" q3) [.Name fld q4] [] q5) env = (do
      let ov ← attributeBase (.Call (.Name "super" q1) [] [] q2) "__init__" env (eval (.Call (.Name "super" q1) [] [] q2) env)
      standAt q3.atName
      let (f, first) ← holding [ov] (getMethod ov "__init__" (pl env))
      callWith q5 f first (backTo q5 (starEach [.Name fld q4] env)) [])) : ErrTxt prog K mg cn fld (ga K cn) (iOf K cn) (ccOf K (iOf K cn)) (cdOf K (iOf K cn)) := by
  unfold errB at hb
  obtain ⟨b1, hb⟩ := ba hb
  obtain ⟨b2, hb⟩ := ba hb
  obtain ⟨b3, hb⟩ := ba hb
  obtain ⟨b4, hb⟩ := ba hb
  obtain ⟨b5, hb⟩ := ba hb
  obtain ⟨b6, hb⟩ := ba hb
  obtain ⟨b7, hb⟩ := ba hb
  obtain ⟨b8, hb⟩ := ba hb
  obtain ⟨b9, hb⟩ := ba hb
  obtain ⟨b10, hb⟩ := ba hb
  obtain ⟨b11, hb⟩ := ba hb
  obtain ⟨b12, hb⟩ := ba hb
  obtain ⟨b13, hb⟩ := ba hb
  obtain ⟨b14, hb⟩ := ba hb
  obtain ⟨b15, hb⟩ := ba hb
  obtain ⟨b16, b17⟩ := ba hb
  have key : ∃ (oc : Value) (od : Option Addr) (doc pm : Value) (an : Option Addr) (ct : Value) (osl : Array (Option Value)) (cc cda : Addr), ccOf K (iOf K cn) = cc ∧ cdOf K (iOf K cn) = cda ∧
      K.lookup (iOf K cn) = some ⟨oc, od, .func (PySem.W.ksFn "__init__" qual (iA fld p1 p2) (iB fld q1 q2 q3 q4 q5 q6 q7 q8 q9 q10) (iS fld) .none .none doc pm an (.ref cda) ct cc), osl⟩ ∧ cellB K cc (ga K cn) = true ∧ fileB K cda prog.main.file = true ∧ PySem.W.codeIn K (.ref cda) qual = true := by
    unfold ifnB at b17
    unfold initW at hi
    cases q : K.lookup (iOf K cn) with
    | none => rw [q] at b17; cases b17
    | some o =>
      obtain ⟨oc, od, dt, osl⟩ := o
      rw [q] at b17 hi
      cases dt with
      | func fd =>
        obtain ⟨n1, n2, n3, n4, n5, n6, n7, n8, n9, n10, n11, n12, n13, n14, n15⟩ := fd
        have e2 : (some (n1, n2, n3, n4, n5, n6, n7.map (·.1), n15) : FnI) = (some ("__init__", qual, iA fld p1 p2, .stmts (iB fld q1 q2 q3 q4 q5 q6 q7 q8 q9 q10), iS fld, mainGlobals, ["__class__"], builtinsNs) : FnI) := hi
        simp only [Option.some.injEq, Prod.mk.injEq] at e2
        obtain ⟨h1, h2, h3, h4, h5, h6, h7, h8⟩ := e2
        subst h1 h2 h3 h4 h5 h6 h8
        obtain ⟨x, cc, cda, z1, z2, z3, z4, c1, c2, c3⟩ := ifnC_ok (K := K) (C := ga K cn) (fl := prog.main.file) (q := n2) (cl := n7) (cd := n13) (dv := n8) (kv := n9) b17
        subst z1 z2 z3 z4
        have hx : x = ("__class__" : Str) := by simpa using h7
        subst hx
        exact ⟨oc, od, n10, n11, n12, n14, osl, cc, cda, by unfold ccOf; rw [q] <;> rfl, by unfold cdOf; rw [q] <;> rfl, rfl, c1, c2, c3⟩
      | _ => cases b17
  obtain ⟨oc, od, doc, pm, an, ct, osl, cc, cda, k1, k2, k3, k4, k5, k6⟩ := key
  rw [k1, k2]
  refine ⟨glo_ok X G hg, clsB_ok b1, b2, eqO_ok b3, eqO_ok b4, eqO_ok b5, eqO_ok b6, eqO_ok b7, of_decide_eq_true b8, b9, of_decide_eq_true b10, of_decide_eq_true b11, of_decide_eq_true b12, of_decide_eq_true b13, b14, of_decide_eq_true b15, eqO_ok b16, free_ok X G hs, ns, ?_, ?_, ⟨qual, oc, od, doc, pm, an, ct, osl, p1, p2, q1, q2, q3, q4, q5, q6, q7, q8, q9, q10, k3, k6, hpl⟩⟩
  · unfold cellB at k4
    split at k4
    · rename_i x y C' z e
      have e2 := of_decide_eq_true k4
      subst e2
      exact ⟨_, _, _, e⟩
    · cases k4
  · unfold fileB at k5
    split at k5
    · rename_i x y vs z e
      split at k5
      · rename_i f t e2
        exact ⟨_, _, _, _, f, t, e, e2, k5⟩
      · cases k5
    · cases k5
/-- reading the field -/
theorem xfc_of {cn fld fl : Str} (hb : errB K cn fld fl = true) : XfC K (ga K cn) ∧ PySem.W.findIn K (.ref (ga K cn)) fld = some none ∧ PySem.W.exmOne K (.ref (ga K cn)) (.ref (ga K cn)) = some true := by
  unfold errB at hb
  obtain ⟨b1, hb⟩ := ba hb
  obtain ⟨b2, hb⟩ := ba hb
  obtain ⟨b3, hb⟩ := ba hb
  obtain ⟨b4, hb⟩ := ba hb
  obtain ⟨b5, hb⟩ := ba hb
  obtain ⟨b6, hb⟩ := ba hb
  obtain ⟨b7, hb⟩ := ba hb
  obtain ⟨b8, hb⟩ := ba hb
  obtain ⟨b9, hb⟩ := ba hb
  obtain ⟨b10, hb⟩ := ba hb
  obtain ⟨b11, hb⟩ := ba hb
  obtain ⟨b12, hb⟩ := ba hb
  obtain ⟨b13, hb⟩ := ba hb
  obtain ⟨b14, hb⟩ := ba hb
  obtain ⟨b15, hb⟩ := ba hb
  exact ⟨⟨eqO_ok b4, eqO_ok b5, of_decide_eq_true b10, b14⟩, eqO_ok b6, of_decide_eq_true b15⟩
end
/-! ### the Hook -/
structure SaysY (fa : List Fa) (fn : List DefD) (es : List DErr) (tf : List Defn) (ex : PySem.W.Frag → Bool) (h : Heap) (K : PySem.W.Frag) : Prop where
  d : SaysD fa fn K
  more : ex K = true
  err : es.map (fun e => initW K e.cn) = es.map DErr.val
  hd : ∀ p ∈ tf, PySem.W.codeHdIn K (cT K p).1 (cT K p).2 = true
  out : ∀ p ∈ tf, K.lookup (cT K p).2 = none
  empty : ∀ p ∈ tf, h.get? (cT K p).2 = some { cls := .none, data := .fields #[] }
abbrev AlY : Type := AlD × List FnI × Bool
def obsY (n : Nat) (fa : List Fa) (fn : List DefD) (es : List DErr) (tf : List Defn) (ex : PySem.W.Frag → Bool) (g : Addr → Option Obj) : AlY :=
  (obsD fa fn (frT g (asY g n)), es.map (fun e => initW (frT g (asY g n)) e.cn), ex (frT g (asY g n)) && tabsB g tf (frT g (asY g n)))
def valY (fn : List DefD) (es : List DErr) : AlY := (valD fn, es.map DErr.val, true)
theorem saysY_of {n : Nat} {fa : List Fa} {fn : List DefD} {es : List DErr} {tf : List Defn} {ex : PySem.W.Frag → Bool} {h : Heap} (e : obsY n fa fn es tf ex h.get? = valY fn es) : SaysY fa fn es tf ex h (frT h.get? (asY h.get? n)) := by
  have e1 : obsD fa fn (frT h.get? (asY h.get? n)) = valD fn := congrArg (fun z : AlY => z.1) e
  have e0 : es.map (fun e => initW (frT h.get? (asY h.get? n)) e.cn) = es.map DErr.val := congrArg (fun z : AlY => z.2.1) e
  have e2 : (ex (frT h.get? (asY h.get? n)) && tabsB h.get? tf (frT h.get? (asY h.get? n))) = true := congrArg (fun z : AlY => z.2.2) e
  obtain ⟨h1, h2⟩ := ba e2
  have key : ∀ p ∈ tf, PySem.W.codeHdIn (frT h.get? (asY h.get? n)) (cT (frT h.get? (asY h.get? n)) p).1 (cT (frT h.get? (asY h.get? n)) p).2 = true ∧ ∃ o, h.get? (cT (frT h.get? (asY h.get? n)) p).2 = some o ∧ emptyTab o = true := fun p hp => by
    obtain ⟨h3, h4⟩ := ba (List.all_eq_true.mp h2 p hp)
    refine ⟨h3, ?_⟩
    cases q : h.get? (cT (frT h.get? (asY h.get? n)) p).2 with
    | none => rw [q] at h4; cases h4
    | some o => rw [q] at h4; exact ⟨o, rfl, h4⟩
  exact ⟨e1, h1, e0, fun p hp => (key p hp).1, fun p hp => (key p hp).2.elim fun _ z => frT_none z.1 z.2, fun p hp => (key p hp).2.elim fun _ z => by rw [z.1, emptyTab_eq z.2]⟩
def hookY (n : Nat) (fa : List Fa) (fn : List DefD) (es : List DErr) (tf : List Defn) (ex : PySem.W.Frag → Bool) : PySem.W.Hook where
  α := AlY
  obs := fun s => obsY n fa fn es tf ex s.heap.get?
  val := fun _ => valY fn es
  says := fun _ h => ∃ K : PySem.W.Frag, K.In h ∧ SaysY fa fn es tf ex h K
  of := fun _ _ e => ⟨_, frT_in, saysY_of e⟩
  keeps := fun _ _ _ ⟨K, hK, c⟩ k => ⟨K, PySem.W.Frag.In.keeps hK k, ⟨c.d, c.more, c.err, c.hd, c.out, fun p hp => k _ _ (c.empty p hp)⟩⟩
theorem obsY_eq {n : Nat} {fa : List Fa} {fn : List DefD} {es : List DErr} {tf : List Defn} {ex : PySem.W.Frag → Bool} {g : Addr → Option Obj} {s : Shared} (h : ∀ a, g a = s.heap.get? a) : obsY n fa fn es tf ex g = (hookY n fa fn es tf ex).obs s := by
  have e : g = s.heap.get? := funext h
  rw [e] <;> rfl
theorem SaysY.init {fa : List Fa} {fn : List DefD} {es : List DErr} {tf : List Defn} {ex : PySem.W.Frag → Bool} {h : Heap} {K : PySem.W.Frag} (c : SaysY fa fn es tf ex h K) (i : Nat) {e : DErr} (he : es[i]? = some e := by rfl) : initW K e.cn = e.val := by
  have e2 : (es.map fun e => initW K e.cn)[i]? = (es.map DErr.val)[i]? := by rw [c.err]
  rw [List.getElem?_map, List.getElem?_map, he] at e2
  exact Option.some.inj e2
end DX

set_option Elab.async false
set_option linter.all false
set_option maxRecDepth 100000
set_option maxHeartbeats 1000000
/-! The data layer, 10: readings simplified. -/
namespace DL
open PySem PySem.Spec PyProof.Rows L2 DX
def onBl (x : D) (f : Bool → Prop) : Prop := match x with
  | .bl b => f b
  | _ => False
def onInt (x : D) (f : Int → Prop) : Prop := match x with
  | .int b => f b
  | _ => False
def onSeq (x : D) (f : List D → Prop) : Prop := match x with
  | .lst xs => f xs
  | .tup xs => f xs
  | .str z => f (signs z)
  | _ => False
def onSome {α : Type} (x : Option α) (f : α → Prop) : Prop := match x with
  | some a => f a
  | none => False
def lstAt (τ : TD) (a : Addr) : Option (List D) := match τ a with
  | some (.lst xs) => some xs
  | _ => none
theorem onBl_eq {b : Bool} {f : Bool → Prop} : onBl (.bl b) f = f b := rfl
theorem onInt_eq {b : Int} {f : Int → Prop} : onInt (.int b) f = f b := rfl
theorem onSeq_lst {xs : List D} {f : List D → Prop} : onSeq (.lst xs) f = f xs := rfl
theorem onSeq_tup {xs : List D} {f : List D → Prop} : onSeq (.tup xs) f = f xs := rfl
theorem onSeq_str {xs : Str} {f : List D → Prop} : onSeq (.str xs) f = f (signs xs) := rfl
theorem onSome_eq {α : Type} {a : α} {f : α → Prop} : onSome (some a) f = f a := rfl
theorem lstAt_of {τ : TD} {a : Addr} {xs : List D} (h : τ a = some (.lst xs)) : lstAt τ a = some xs := by unfold lstAt; rw [h]
theorem lstAt_iff {τ : TD} {a : Addr} {xs : List D} (h : lstAt τ a = some xs) : τ a = some (.lst xs) := by
  unfold lstAt at h
  split at h
  · cases h; assumption
  · cases h
theorem lstAt_same {τ : TD} {a : Addr} {xs : List D} : lstAt (tset τ a (.lst xs)) a = some xs := lstAt_of tset_same
section
variable {τ : TD} {ds : Sl} {k : DK} {δa δb δc δ : DE} {η : DT} {kt : TD → Bool → Prop} {δs : DA}
theorem dTest_eq : dTest δ τ ds kt = δ τ ds fun τ1 x => onBl x fun b => kt τ1 b := by
  unfold dTest
  first | rfl | (congr 1; funext τ1 x; cases x <;> rfl)
theorem dAndV_eq : dAndV δa δb τ ds k = δa τ ds fun τ1 x => onBl x fun b => if b = true then δb τ1 ds k else k τ1 (.bl false) := by
  unfold dAndV
  congr 1; funext τ1 x
  cases x with
  | bl b => cases b <;> simp [onBl]
  | _ => rfl
theorem dOrV_eq : dOrV δa δb τ ds k = δa τ ds fun τ1 x => onBl x fun b => if b = true then k τ1 (.bl true) else δb τ1 ds k := by
  unfold dOrV
  congr 1; funext τ1 x
  cases x with
  | bl b => cases b <;> simp [onBl]
  | _ => rfl
theorem dNotV_eq : dNotV δa τ ds k = δa τ ds fun τ1 x => onBl x fun b => k τ1 (.bl (!b)) := by
  unfold dNotV
  first | rfl | (congr 1; funext τ1 x; cases x <;> rfl)
theorem dChain_eq {ρ ρ' : D2} : dChain ρ ρ' δa δb δc τ ds k = δa τ ds fun τ1 x => δb τ1 ds fun τ2 y => ρ τ2 x y fun τ3 z => onBl z fun b => if b = true then δc τ3 ds fun τ4 w => ρ' τ4 y w k else k τ3 (.bl false) := by
  unfold dChain
  congr 1; funext τ1 x; congr 1; funext τ2 y; congr 1; funext τ3 z
  cases z with
  | bl b => cases b <;> simp [onBl]
  | _ => rfl
theorem dPart_eq {ko : TD → Option Int → Prop} : dPart δ τ ds ko = δ τ ds fun τ1 x => onInt x fun i => ko τ1 (some i) := by
  unfold dPart
  first | rfl | (congr 1; funext τ1 x; cases x <;> rfl)
theorem ιSeq_eq {ki : TD → List D → Prop} : ιSeq δ τ ds ki = δ τ ds fun τ1 x => onSeq x fun xs => ki τ1 xs := by
  unfold ιSeq
  first | rfl | (congr 1; funext τ1 x; cases x <;> rfl)
/-- a number that a range takes -/
def RngOk (i : Int) : Prop := -(2 ^ 62) ≤ i ∧ i < 2 ^ 62
theorem ιRng1_eq {ki : TD → List D → Prop} : ιRng1 (dCons δ dNil) τ ds ki = δ τ ds fun τ1 x => onInt x fun j => RngOk j ∧ ki τ1 (upto 0 j.toNat) := by
  unfold ιRng1 dCons dNil
  first | rfl | (congr 1; funext τ1 x; cases x <;> rfl)
theorem ιRng2_eq {ki : TD → List D → Prop} : ιRng2 (dCons δa (dCons δb dNil)) τ ds ki = δa τ ds fun τ1 x => δb τ1 ds fun τ2 y => onInt x fun i => onInt y fun j => (RngOk i ∧ RngOk j) ∧ ki τ2 (upto i (j - i).toNat) := by
  unfold ιRng2 dCons dNil
  congr 1; funext τ1 x; congr 1; funext τ2 y
  cases x with
  | int i =>
    cases y with
    | int j =>
      refine propext ⟨fun h => ⟨⟨⟨h.1.1, h.1.2.1⟩, h.1.2.2.1, h.1.2.2.2⟩, h.2⟩, fun h => ⟨⟨h.1.1.1, h.1.1.2, h.1.2.1, h.1.2.2⟩, h.2⟩⟩
    | _ => rfl
  | _ => rfl
theorem ρAdd_int {i j : Int} : ρAdd τ (.int i) (.int j) k = k τ (.int (i + j)) := rfl
theorem ρAdd_str {i j : Str} : ρAdd τ (.str i) (.str j) k = (i.length + j.length ≤ sizeLine ∧ k τ (.str (i ++ j))) := rfl
theorem ρAdd_tup {i j : List D} : ρAdd τ (.tup i) (.tup j) k = (i.length + j.length ≤ sizeLine ∧ k τ (.tup (i ++ j))) := rfl
theorem ρAdd_lst {i j : List D} : ρAdd τ (.lst i) (.lst j) k = (i.length + j.length ≤ sizeLine ∧ k τ (.lst (i ++ j))) := rfl
theorem ρAdd_rl {p : Addr} {ys : List D} : ρAdd τ (.ref p) (.lst ys) k = onSome (lstAt τ p) fun xs => xs.length + ys.length ≤ sizeLine ∧ k τ (.lst (xs ++ ys)) := by
  show (∃ xs, τ p = some (.lst xs) ∧ xs.length + ys.length ≤ sizeLine ∧ k τ (.lst (xs ++ ys))) = _
  unfold lstAt
  cases e : τ p with
  | none => exact propext ⟨fun ⟨_, z, _⟩ => (by cases z), fun z => z.elim⟩
  | some o =>
    cases o with
    | lst zs => exact propext ⟨fun ⟨_, z, q⟩ => by cases z; exact q, fun z => ⟨zs, rfl, z⟩⟩
    | _ => exact propext ⟨fun ⟨_, z, _⟩ => (by cases z), fun z => z.elim⟩
theorem ρI_int {i j : Int} {C : Int → Int → Prop} {g : Int → Int → D} : ρI C g τ (.int i) (.int j) k = (C i j ∧ k τ (g i j)) := rfl
theorem ρI0_int {i j : Int} {g : Int → Int → D} : ρI0 g τ (.int i) (.int j) k = k τ (g i j) := rfl
theorem ρMul_int {i j : Int} : ρMul τ (.int i) (.int j) k = (CMul i j ∧ k τ (.int (i * j))) := rfl
theorem ρMul_str {z : Str} {n : Int} : ρMul τ (.str z) (.int n) k = ((-(2 ^ 62) ≤ n ∧ n ≤ 1000 ∧ z.length ≤ 1000) ∧ k τ (.str (repS z n.toNat))) := rfl
theorem ρNeg_int {i : Int} : ρNeg τ (.int i) k = k τ (.int (-i)) := rfl
theorem ρCmp_int {i j : Int} {f : Int → Int → Bool} {g : Str → Str → Bool} : ρCmp f g τ (.int i) (.int j) k = k τ (.bl (f i j)) := rfl
theorem ρCmp_str {i j : Str} {f : Int → Int → Bool} {g : Str → Str → Bool} : ρCmp f g τ (.str i) (.str j) k = k τ (.bl (g i j)) := rfl
theorem ρIsN_eq {x : D} : ρIsN τ x .non k = k τ (.bl (isNonD x)) := rfl
theorem ρNotN_eq {x : D} : ρNotN τ x .non k = k τ (.bl (!isNonD x)) := rfl
theorem isNonD_bl {x : Bool} : isNonD (.bl x) = false := rfl
theorem isNonD_int {x : Int} : isNonD (.int x) = false := rfl
theorem isNonD_str {x : Str} : isNonD (.str x) = false := rfl
theorem isNonD_tup {x : List D} : isNonD (.tup x) = false := rfl
theorem isNonD_lst {x : List D} : isNonD (.lst x) = false := rfl
theorem isNonD_ref {x : Addr} : isNonD (.ref x) = false := rfl
theorem isNonD_non : isNonD .non = true := rfl
theorem ρSgn_eq {c : Nat} {z : Str} {neg : Bool} : ρSgn neg τ (.str ⟨#[c]⟩) (.str z) k = ρSgn neg τ (.str ⟨#[c]⟩) (.str z) k := rfl
theorem ρSgn_one {c : Nat} {z : Str} {neg : Bool} : ρSgn neg τ (.str ⟨#[c]⟩) (.str z) k = k τ (.bl (neg ^^ decide (c ∈ z.cps.toList))) := by
  refine propext ⟨fun ⟨c', e, h⟩ => ?_, fun h => ⟨c, rfl, h⟩⟩
  injection e with e
  have : c = c' := by simpa using e
  subst this
  exact h
theorem ρAbs_int {i : Int} : ρAbs τ [.int i] k = k τ (.int (if i < 0 then -i else i)) := rfl
theorem ρMax_two {i j : Int} : ρMax τ [.int i, .int j] k = k τ (.int (if j > i then j else i)) := rfl
theorem ρMin_two {i j : Int} : ρMin τ [.int i, .int j] k = k τ (.int (if j < i then j else i)) := rfl
theorem ex_some {α : Type} {o : Option α} {f : α → Prop} : (∃ a, o = some a ∧ f a) = onSome o f := by
  cases o with
  | none => exact propext ⟨fun ⟨_, z, _⟩ => (by cases z), fun z => z.elim⟩
  | some b => exact propext ⟨fun ⟨_, z, q⟩ => by cases z; exact q, fun z => ⟨b, rfl, z⟩⟩
theorem ρMax_lst {l : List D} : ρMax τ [.lst l] k = onSome (intsOf l) fun ns => onSome (maxL ns) fun z => k τ (.int z) := by
  show (∃ l' ns z, lstOf τ (.lst l) = some l' ∧ intsOf l' = some ns ∧ maxL ns = some z ∧ k τ (.int z)) = _
  refine propext ⟨fun ⟨l', ns, z, e1, e2, e3, h⟩ => ?_, fun h => ?_⟩
  · cases e1
    rw [e2]
    show onSome (maxL ns) _
    rw [e3]
    exact h
  · cases e2 : intsOf l with
    | none => rw [e2] at h; exact h.elim
    | some ns =>
      rw [e2] at h
      have h : onSome (maxL ns) fun z => k τ (.int z) := h
      cases e3 : maxL ns with
      | none => rw [e3] at h; exact h.elim
      | some z => rw [e3] at h; exact ⟨l, ns, z, rfl, e2, e3, h⟩
theorem ρMin_lst {l : List D} : ρMin τ [.lst l] k = onSome (intsOf l) fun ns => onSome (minL ns) fun z => k τ (.int z) := by
  show (∃ l' ns z, lstOf τ (.lst l) = some l' ∧ intsOf l' = some ns ∧ minL ns = some z ∧ k τ (.int z)) = _
  refine propext ⟨fun ⟨l', ns, z, e1, e2, e3, h⟩ => ?_, fun h => ?_⟩
  · cases e1
    rw [e2]
    show onSome (minL ns) _
    rw [e3]
    exact h
  · cases e2 : intsOf l with
    | none => rw [e2] at h; exact h.elim
    | some ns =>
      rw [e2] at h
      have h : onSome (minL ns) fun z => k τ (.int z) := h
      cases e3 : minL ns with
      | none => rw [e3] at h; exact h.elim
      | some z => rw [e3] at h; exact ⟨l, ns, z, rfl, e2, e3, h⟩
theorem ρInt_int {i : Int} : ρInt τ [.int i] k = k τ (.int i) := rfl
theorem ρInt_bl {i : Bool} : ρInt τ [.bl i] k = k τ (.int (if i then 1 else 0)) := rfl
theorem ρStr_int {i : Int} : ρStr τ [.int i] k = (i.natAbs.log2 < 1920 ∧ k τ (.str (strI i))) := rfl
theorem ρLen_str {z : Str} : ρLen τ [.str z] k = (z.length ≤ sizeLine ∧ k τ (.int (z.length : Nat))) := rfl
theorem ρLen_tup {z : List D} : ρLen τ [.tup z] k = k τ (.int (z.length : Nat)) := rfl
theorem ρLen_lst {z : List D} : ρLen τ [.lst z] k = k τ (.int (z.length : Nat)) := rfl
theorem ρLen_ref {p : Addr} : ρLen τ [.ref p] k = onSome (lstAt τ p) fun xs => k τ (.int (xs.length : Nat)) := by
  simp only [ρLen, lstAt]
  cases τ p with
  | none => rfl
  | some o => cases o <;> rfl
theorem ρSum_lst {l : List D} : ρSum τ [.lst l] k = onSome (intsOf l) fun ns => k τ (.int ns.sum) := by
  show (∃ l' ns, lstOf τ (.lst l) = some l' ∧ intsOf l' = some ns ∧ k τ (.int ns.sum)) = _
  refine propext ⟨fun ⟨l', ns, e1, e2, h⟩ => ?_, fun h => ?_⟩
  · cases e1
    rw [e2]
    exact h
  · cases e2 : intsOf l with
    | none => rw [e2] at h; exact h.elim
    | some ns => rw [e2] at h; exact ⟨l, ns, rfl, e2, h⟩
theorem ρAll_lst {l : List D} : ρAll τ [.lst l] k = onSome (blsOf l) fun ns => k τ (.bl (ns.all id)) := by
  show (∃ l' ns, lstOf τ (.lst l) = some l' ∧ blsOf l' = some ns ∧ k τ (.bl (ns.all id))) = _
  refine propext ⟨fun ⟨l', ns, e1, e2, h⟩ => ?_, fun h => ?_⟩
  · cases e1
    rw [e2]
    exact h
  · cases e2 : blsOf l with
    | none => rw [e2] at h; exact h.elim
    | some ns => rw [e2] at h; exact ⟨l, ns, rfl, e2, h⟩
theorem ρAny_lst {l : List D} : ρAny τ [.lst l] k = onSome (blsOf l) fun ns => k τ (.bl (ns.any id)) := by
  show (∃ l' ns, lstOf τ (.lst l) = some l' ∧ blsOf l' = some ns ∧ k τ (.bl (ns.any id))) = _
  refine propext ⟨fun ⟨l', ns, e1, e2, h⟩ => ?_, fun h => ?_⟩
  · cases e1
    rw [e2]
    exact h
  · cases e2 : blsOf l with
    | none => rw [e2] at h; exact h.elim
    | some ns => rw [e2] at h; exact ⟨l, ns, rfl, e2, h⟩
theorem ρTupO_tup {z : List D} : ρTupO τ [.tup z] k = k τ (.tup z) := rfl
theorem ρTupO_lst {z : List D} : ρTupO τ [.lst z] k = k τ (.tup z) := rfl
theorem ρLstO_eq0 {xs : List D} : ρLstO τ xs k = ρLstO τ xs k := rfl
theorem ρIsi_eq {x : D} {n : String} : ρIsi τ [x, .ty n] k = onSome (isiB x n) fun b => k τ (.bl b) := by
  simp only [ρIsi]
  cases isiB x n <;> rfl
theorem is_non_int : isiB .non "int" = some false := (show isiT "NoneType" "int" = some false by decide +kernel)
theorem is_non_bool : isiB .non "bool" = some false := (show isiT "NoneType" "bool" = some false by decide +kernel)
theorem is_non_str : isiB .non "str" = some false := (show isiT "NoneType" "str" = some false by decide +kernel)
theorem is_non_tuple : isiB .non "tuple" = some false := (show isiT "NoneType" "tuple" = some false by decide +kernel)
theorem is_non_list : isiB .non "list" = some false := (show isiT "NoneType" "list" = some false by decide +kernel)
theorem is_bl_int {x : Bool} : isiB (.bl x) "int" = some true := (show isiT "bool" "int" = some true by decide +kernel)
theorem is_bl_bool {x : Bool} : isiB (.bl x) "bool" = some true := (show isiT "bool" "bool" = some true by decide +kernel)
theorem is_bl_str {x : Bool} : isiB (.bl x) "str" = some false := (show isiT "bool" "str" = some false by decide +kernel)
theorem is_bl_tuple {x : Bool} : isiB (.bl x) "tuple" = some false := (show isiT "bool" "tuple" = some false by decide +kernel)
theorem is_bl_list {x : Bool} : isiB (.bl x) "list" = some false := (show isiT "bool" "list" = some false by decide +kernel)
theorem is_int_int {x : Int} : isiB (.int x) "int" = some true := (show isiT "int" "int" = some true by decide +kernel)
theorem is_int_bool {x : Int} : isiB (.int x) "bool" = some false := (show isiT "int" "bool" = some false by decide +kernel)
theorem is_int_str {x : Int} : isiB (.int x) "str" = some false := (show isiT "int" "str" = some false by decide +kernel)
theorem is_int_tuple {x : Int} : isiB (.int x) "tuple" = some false := (show isiT "int" "tuple" = some false by decide +kernel)
theorem is_int_list {x : Int} : isiB (.int x) "list" = some false := (show isiT "int" "list" = some false by decide +kernel)
theorem is_str_int {x : Str} : isiB (.str x) "int" = some false := (show isiT "str" "int" = some false by decide +kernel)
theorem is_str_bool {x : Str} : isiB (.str x) "bool" = some false := (show isiT "str" "bool" = some false by decide +kernel)
theorem is_str_str {x : Str} : isiB (.str x) "str" = some true := (show isiT "str" "str" = some true by decide +kernel)
theorem is_str_tuple {x : Str} : isiB (.str x) "tuple" = some false := (show isiT "str" "tuple" = some false by decide +kernel)
theorem is_str_list {x : Str} : isiB (.str x) "list" = some false := (show isiT "str" "list" = some false by decide +kernel)
theorem is_tup_int {x : List D} : isiB (.tup x) "int" = some false := (show isiT "tuple" "int" = some false by decide +kernel)
theorem is_tup_bool {x : List D} : isiB (.tup x) "bool" = some false := (show isiT "tuple" "bool" = some false by decide +kernel)
theorem is_tup_str {x : List D} : isiB (.tup x) "str" = some false := (show isiT "tuple" "str" = some false by decide +kernel)
theorem is_tup_tuple {x : List D} : isiB (.tup x) "tuple" = some true := (show isiT "tuple" "tuple" = some true by decide +kernel)
theorem is_tup_list {x : List D} : isiB (.tup x) "list" = some false := (show isiT "tuple" "list" = some false by decide +kernel)
theorem is_lst_int {x : List D} : isiB (.lst x) "int" = some false := (show isiT "list" "int" = some false by decide +kernel)
theorem is_lst_bool {x : List D} : isiB (.lst x) "bool" = some false := (show isiT "list" "bool" = some false by decide +kernel)
theorem is_lst_str {x : List D} : isiB (.lst x) "str" = some false := (show isiT "list" "str" = some false by decide +kernel)
theorem is_lst_tuple {x : List D} : isiB (.lst x) "tuple" = some false := (show isiT "list" "tuple" = some false by decide +kernel)
theorem is_lst_list {x : List D} : isiB (.lst x) "list" = some true := (show isiT "list" "list" = some true by decide +kernel)
theorem tyN_non : (tyN .non).isSome = true := rfl
theorem tyN_bl {x : Bool} : (tyN (.bl x)).isSome = true := rfl
theorem tyN_int {x : Int} : (tyN (.int x)).isSome = true := rfl
theorem tyN_str {x : Str} : (tyN (.str x)).isSome = true := rfl
theorem tyN_tup {x : List D} : (tyN (.tup x)).isSome = true := rfl
theorem tyN_lst {x : List D} : (tyN (.lst x)).isSome = true := rfl
theorem ρIx_tup0 {xs : List D} {i : Int} : ρIx τ (.tup xs) (.int i) k = ρIx τ (.tup xs) (.int i) k := rfl
theorem ρIx_tup {xs : List D} {i : Int} : ρIx τ (.tup xs) (.int i) k = onSome (atI xs i) fun d => k τ d := by
  simp only [ρIx]
  cases atI xs i <;> rfl
theorem ρIx_lst {xs : List D} {i : Int} : ρIx τ (.lst xs) (.int i) k = onSome (atI xs i) fun d => k τ d := by
  simp only [ρIx]
  cases atI xs i <;> rfl
theorem ρIx_str {z : Str} {i : Int} : ρIx τ (.str z) (.int i) k = (z.length ≤ sizeLine ∧ onSome (atI z.cps.toList i) fun c => k τ (.str ⟨#[c]⟩)) := by
  simp only [ρIx]
  cases atI z.cps.toList i <;> rfl
theorem ρIx_ref {p : Addr} {i : Int} : ρIx τ (.ref p) (.int i) k = onSome (lstAt τ p) fun xs => onSome (atI xs i) fun d => k τ d := by
  simp only [ρIx, lstAt]
  cases τ p with
  | none => rfl
  | some o =>
    cases o with
    | lst xs =>
      show (match atI xs i with | some d => k τ d | none => False) = onSome (atI xs i) _
      cases atI xs i <;> rfl
    | _ => rfl
theorem ρSl_str {z : Str} {lo hi : Option Int} : ρSl τ (.str z) lo hi k = (z.length ≤ sizeLine ∧ k τ (.str (cutS z lo hi))) := rfl
theorem ρSl_lst {z : List D} {lo hi : Option Int} : ρSl τ (.lst z) lo hi k = k τ (.lst (cutD z lo hi)) := rfl
theorem ρSl_tup {z : List D} {lo hi : Option Int} : ρSl τ (.tup z) lo hi k = k τ (.tup (cutD z lo hi)) := rfl
theorem ρApp_ref {p : Addr} {d : D} : ρApp τ (.ref p) [d] k = onSome (lstAt τ p) fun ys => ys.length < sizeLine ∧ k (tset τ p (.lst (ys ++ [d]))) .non := by
  simp only [ρApp, lstAt]
  cases τ p with
  | none => rfl
  | some o => cases o <;> rfl
theorem θLst_ref {p : Addr} : θLst τ (.ref p) = ((lstAt τ p).isSome = true) := by
  unfold θLst lstOf lstAt
  rfl
theorem θStr_str {z : Str} : θStr τ (.str z) = True := rfl
theorem ςLst_ref {p : Addr} {z : Int} {v : D} {kk : TD → Prop} : ςLst τ (.ref p) (.int z) v kk = onSome (lstAt τ p) fun ys => onSome (ixN ys.length z) fun n => kk (tset τ p (.lst (ys.set n v))) := by
  simp only [ςLst, lstAt]
  cases τ p with
  | none => rfl
  | some o =>
    cases o with
    | lst xs =>
      show (match ixN xs.length z with | some n => kk (tset τ p (.lst (xs.set n v))) | none => False) = onSome (ixN xs.length z) _
      cases ixN xs.length z <;> rfl
    | _ => rfl
theorem ρJoin_lst {s : Str} {l : List D} : ρJoin τ (.str s) [.lst l] k = onSome (strsOf l) fun ys => (ys.map (·.length)).sum + ys.length * s.length ≤ 16777216 ∧ k τ (.str (Txt.join s ys)) := by
  show (∃ l' ys, (lstOf τ (.lst l) = some l' ∨ tupOf (.lst l) = some l') ∧ strsOf l' = some ys ∧ _ ∧ _) = _
  refine propext ⟨fun ⟨l', ys, e1, e2, h⟩ => ?_, fun h => ?_⟩
  · rcases e1 with e1 | e1
    · cases e1
      rw [e2]
      exact h
    · cases e1
  · cases e2 : strsOf l with
    | none => rw [e2] at h; exact h.elim
    | some ns => rw [e2] at h; exact ⟨l, ns, .inl rfl, e2, h⟩
theorem dTup1 : dTup δs τ ds k = δs τ ds fun τ1 xs => xs.length ≤ sizeLine ∧ k τ1 (.tup xs) := rfl
theorem γTup_tup {n : Nat} {γs : DGs} {es : List D} {kg : TD → Sl → Prop} : γTup n γs (.tup es) τ ds kg = (es.length = n ∧ γs es τ ds kg) := rfl
end
theorem atI_nat {α : Type} {xs : List α} {n : Nat} (h : n < xs.length) : atI xs (n : Int) = xs[n]? := by
  unfold atI ixN
  have h1 : ¬ ((n : Int) < 0) := by omega
  simp [h1, h]
theorem atI_0 {α : Type} {x0 : α} {xs : List α} : atI (x0 :: xs) 0 = some x0 := by
  have h := atI_nat (xs := x0 :: xs) (n := 0) (by simp)
  simpa using h
theorem atI_1 {α : Type} {x0 x1 : α} {xs : List α} : atI (x0 :: x1 :: xs) 1 = some x1 := by
  have h := atI_nat (xs := x0 :: x1 :: xs) (n := 1) (by simp)
  simpa using h
theorem atI_2 {α : Type} {x0 x1 x2 : α} {xs : List α} : atI (x0 :: x1 :: x2 :: xs) 2 = some x2 := by
  have h := atI_nat (xs := x0 :: x1 :: x2 :: xs) (n := 2) (by simp)
  simpa using h
theorem atI_3 {α : Type} {x0 x1 x2 x3 : α} {xs : List α} : atI (x0 :: x1 :: x2 :: x3 :: xs) 3 = some x3 := by
  have h := atI_nat (xs := x0 :: x1 :: x2 :: x3 :: xs) (n := 3) (by simp)
  simpa using h
theorem atI_4 {α : Type} {x0 x1 x2 x3 x4 : α} {xs : List α} : atI (x0 :: x1 :: x2 :: x3 :: x4 :: xs) 4 = some x4 := by
  have h := atI_nat (xs := x0 :: x1 :: x2 :: x3 :: x4 :: xs) (n := 4) (by simp)
  simpa using h
theorem atI_5 {α : Type} {x0 x1 x2 x3 x4 x5 : α} {xs : List α} : atI (x0 :: x1 :: x2 :: x3 :: x4 :: x5 :: xs) 5 = some x5 := by
  have h := atI_nat (xs := x0 :: x1 :: x2 :: x3 :: x4 :: x5 :: xs) (n := 5) (by simp)
  simpa using h
theorem atI_6 {α : Type} {x0 x1 x2 x3 x4 x5 x6 : α} {xs : List α} : atI (x0 :: x1 :: x2 :: x3 :: x4 :: x5 :: x6 :: xs) 6 = some x6 := by
  have h := atI_nat (xs := x0 :: x1 :: x2 :: x3 :: x4 :: x5 :: x6 :: xs) (n := 6) (by simp)
  simpa using h
theorem atI_7 {α : Type} {x0 x1 x2 x3 x4 x5 x6 x7 : α} {xs : List α} : atI (x0 :: x1 :: x2 :: x3 :: x4 :: x5 :: x6 :: x7 :: xs) 7 = some x7 := by
  have h := atI_nat (xs := x0 :: x1 :: x2 :: x3 :: x4 :: x5 :: x6 :: x7 :: xs) (n := 7) (by simp)
  simpa using h
end DL

set_option Elab.async false
set_option linter.all false
set_option maxRecDepth 100000
set_option maxHeartbeats 1000000
/-! The data layer, 11: comprehensions over mapped lists, == of data. -/
namespace DL
open PySem PySem.Spec PyProof.Rows L2 DX
section
variable {τ : TD} {k : DK}
theorem ρEq_int {i j : Int} : ρEq τ (.int i) (.int j) k = k τ (.bl (decide (i = j))) := rfl
theorem ρEq_str {i j : Str} : ρEq τ (.str i) (.str j) k = k τ (.bl (decide (i = j))) := rfl
theorem ρEq_bl {i j : Bool} : ρEq τ (.bl i) (.bl j) k = k τ (.bl (decide (i = j))) := rfl
theorem ρNe_int {i j : Int} : ρNe τ (.int i) (.int j) k = k τ (.bl (!decide (i = j))) := rfl
theorem ρNe_str {i j : Str} : ρNe τ (.str i) (.str j) k = k τ (.bl (!decide (i = j))) := rfl
theorem ρNe_bl {i j : Bool} : ρNe τ (.bl i) (.bl j) k = k τ (.bl (!decide (i = j))) := rfl
theorem pyAll_int : ∀ is : List Int, pyAll (is.map D.int) = some (is.map PyData.int)
  | [] => rfl
  | i :: is => by
    show (match pyOf (.int i), pyAll (is.map D.int) with
    | some p, some ps => some (p :: ps)
    | _, _ => none) = _
    rw [pyAll_int is]
    rfl
theorem eqv_int : ∀ is js : List Int, PyData.eqvAll (is.map PyData.int) (js.map PyData.int) = decide (is = js)
  | [], [] => rfl
  | [], j :: js => rfl
  | i :: is, [] => rfl
  | i :: is, j :: js => by
    show ((i == j) && PyData.eqvAll (is.map PyData.int) (js.map PyData.int)) = _
    rw [eqv_int is js]
    by_cases h : i = j <;> by_cases h2 : is = js <;> simp [h, h2]
theorem lay_int : ∀ is : List Int, PyData.canLayAll0 (is.map PyData.int) = true
  | [] => rfl
  | i :: is => by
    show (true && PyData.canLayAll0 (is.map PyData.int)) = true
    rw [lay_int is]
    rfl
theorem dep_int : ∀ is : List Int, PyData.depthAll (is.map PyData.int) = 0
  | [] => rfl
  | i :: is => by
    show max 0 (PyData.depthAll (is.map PyData.int)) = 0
    rw [dep_int is]
    rfl
theorem sh_int (is : List Int) : SeqAt.shaped (.tuple (is.map PyData.int)) = true ∧ SeqAt.shaped (.list (is.map PyData.int)) = true := by
  have h1 := lay_int is
  have h2 := dep_int is
  constructor
  · show (PyData.canLayAll0 _ && decide (PyData.depthAll _ + 1 ≤ 64)) = true
    rw [h1, h2]; rfl
  · show (PyData.canLayAll0 _ && decide (PyData.depthAll _ + 1 ≤ 64)) = true
    rw [h1, h2]; rfl
theorem eqA_ti {is js : List Int} {f : Bool → Prop} : eqA (.tup (is.map D.int)) (.tup (js.map D.int)) f = f (decide (is = js)) := by
  show (match (pyAll (is.map D.int)).map PyData.tuple, (pyAll (js.map D.int)).map PyData.tuple with
    | some p, some p' => SeqAt.shaped p = true ∧ SeqAt.shaped p' = true ∧ f (PyData.eqv p p')
    | _, _ => False) = _
  rw [pyAll_int, pyAll_int]
  show (SeqAt.shaped _ = true ∧ SeqAt.shaped _ = true ∧ f (PyData.eqvAll _ _)) = _
  rw [(sh_int is).1, (sh_int js).1, eqv_int]
  simp
theorem eqA_li {is js : List Int} {f : Bool → Prop} : eqA (.lst (is.map D.int)) (.lst (js.map D.int)) f = f (decide (is = js)) := by
  show (match (pyAll (is.map D.int)).map PyData.list, (pyAll (js.map D.int)).map PyData.list with
    | some p, some p' => SeqAt.shaped p = true ∧ SeqAt.shaped p' = true ∧ f (PyData.eqv p p')
    | _, _ => False) = _
  rw [pyAll_int, pyAll_int]
  show (SeqAt.shaped _ = true ∧ SeqAt.shaped _ = true ∧ f (PyData.eqvAll _ _)) = _
  rw [(sh_int is).2, (sh_int js).2, eqv_int]
  simp
theorem ρEq_t3 {a b c a' b' c' : Int} : ρEq τ (.tup [.int a, .int b, .int c]) (.tup [.int a', .int b', .int c']) k = k τ (.bl (decide ([a, b, c] = [a', b', c']))) := eqA_ti (is := [a, b, c]) (js := [a', b', c'])
theorem ρNe_t3 {a b c a' b' c' : Int} : ρNe τ (.tup [.int a, .int b, .int c]) (.tup [.int a', .int b', .int c']) k = k τ (.bl (!decide ([a, b, c] = [a', b', c']))) := eqA_ti (is := [a, b, c]) (js := [a', b', c'])
theorem ρEq_t2 {a b a' b' : Int} : ρEq τ (.tup [.int a, .int b]) (.tup [.int a', .int b']) k = k τ (.bl (decide ([a, b] = [a', b']))) := eqA_ti (is := [a, b]) (js := [a', b'])
theorem ρNe_t2 {a b a' b' : Int} : ρNe τ (.tup [.int a, .int b]) (.tup [.int a', .int b']) k = k τ (.bl (!decide ([a, b] = [a', b']))) := eqA_ti (is := [a, b]) (js := [a', b'])
theorem pyAll_str : ∀ is : List Str, pyAll (is.map D.str) = some (is.map PyData.str)
  | [] => rfl
  | i :: is => by
    show (match pyOf (.str i), pyAll (is.map D.str) with
    | some p, some ps => some (p :: ps)
    | _, _ => none) = _
    rw [pyAll_str is]
    rfl
theorem eqv_str : ∀ is js : List Str, PyData.eqvAll (is.map PyData.str) (js.map PyData.str) = decide (is = js)
  | [], [] => rfl
  | [], j :: js => rfl
  | i :: is, [] => rfl
  | i :: is, j :: js => by
    show ((i == j) && PyData.eqvAll (is.map PyData.str) (js.map PyData.str)) = _
    rw [eqv_str is js]
    by_cases h : i = j <;> by_cases h2 : is = js <;> simp [h, h2]
theorem lay_str : ∀ is : List Str, (∀ x ∈ is, PyData.canLay0 (.str x) = true) → PyData.canLayAll0 (is.map PyData.str) = true
  | [], _ => rfl
  | i :: is, h => by
    show (PyData.canLay0 (.str i) && PyData.canLayAll0 (is.map PyData.str)) = true
    rw [lay_str is fun x hx => h x (List.mem_cons_of_mem _ hx), h i List.mem_cons_self]
    rfl
theorem dep_str : ∀ is : List Str, PyData.depthAll (is.map PyData.str) = 0
  | [] => rfl
  | i :: is => by
    show max 0 (PyData.depthAll (is.map PyData.str)) = 0
    rw [dep_str is]
    rfl
theorem eqA_ls {is js : List Str} {f : Bool → Prop} (h1 : ∀ x ∈ is, PyData.canLay0 (.str x) = true) (h2 : ∀ x ∈ js, PyData.canLay0 (.str x) = true) (h : f (decide (is = js))) : eqA (.lst (is.map D.str)) (.lst (js.map D.str)) f := by
  show (match (pyAll (is.map D.str)).map PyData.list, (pyAll (js.map D.str)).map PyData.list with
    | some p, some p' => SeqAt.shaped p = true ∧ SeqAt.shaped p' = true ∧ f (PyData.eqv p p')
    | _, _ => False)
  rw [pyAll_str, pyAll_str]
  refine ⟨?_, ?_, ?_⟩
  · show (PyData.canLayAll0 _ && decide (PyData.depthAll _ + 1 ≤ 64)) = true
    rw [lay_str is h1, dep_str]; rfl
  · show (PyData.canLayAll0 _ && decide (PyData.depthAll _ + 1 ≤ 64)) = true
    rw [lay_str js h2, dep_str]; rfl
  · show f (PyData.eqvAll _ _)
    rw [eqv_str]
    exact h
theorem intsOf_map : ∀ is : List Int, intsOf (is.map D.int) = some is
  | [] => rfl
  | i :: is => by
    show (intsOf (is.map D.int)).map (i :: ·) = _
    rw [intsOf_map is]
    rfl
theorem strsOf_map : ∀ is : List Str, strsOf (is.map D.str) = some is
  | [] => rfl
  | i :: is => by
    show (strsOf (is.map D.str)).map (i :: ·) = _
    rw [strsOf_map is]
    rfl
theorem blsOf_map : ∀ is : List Bool, blsOf (is.map D.bl) = some is
  | [] => rfl
  | i :: is => by
    show (blsOf (is.map D.bl)).map (i :: ·) = _
    rw [blsOf_map is]
    rfl
theorem intsOf_mapf {α : Type} (f : α → Int) (l : List α) : intsOf (l.map fun x => D.int (f x)) = some (l.map f) := by
  have h := intsOf_map (l.map f)
  rw [List.map_map] at h
  exact h
theorem strsOf_mapf {α : Type} (f : α → Str) (l : List α) : strsOf (l.map fun x => D.str (f x)) = some (l.map f) := by
  have h := strsOf_map (l.map f)
  rw [List.map_map] at h
  exact h
theorem blsOf_mapf {α : Type} (f : α → Bool) (l : List α) : blsOf (l.map fun x => D.bl (f x)) = some (l.map f) := by
  have h := blsOf_map (l.map f)
  rw [List.map_map] at h
  exact h
end
section
variable {γ : DG} {η : DT} {δ : DE} {ws : List Nat} {ds : Sl} {τ0 : TD} {k : TD → List D → Prop} {L : Addr} {α : Type}
/-- items g c, each read by itself: what comes of it, if it is taken -/
theorem lc_fm {l : List α} {g : α → D} (h : α → Option D) (hz : l.length ≤ sizeLine)
    (step : ∀ c ∈ l, ∀ (τ : TD) (k : TD → Option D → Prop), k τ (h c) → γ (g c) τ (wipeD ds ws) fun τ1 ds1 => η τ1 ds1 fun τ2 b => if b = true then δ τ2 ds1 fun τ3 d => k τ3 (some d) else k τ2 none)
    (hk : k (tset τ0 L (.lst (l.filterMap h))) (l.filterMap h)) : dLcL γ η δ ws ds L k (l.map g) [] (tset τ0 L (.lst [])) := by
  refine lc_ind (fun r acc τ => (∃ pre post, l = pre ++ post ∧ r = post.map g ∧ acc = pre.filterMap h) ∧ τ = tset τ0 L (.lst acc)) (fun x r acc τ hI G hG => ?_) (fun acc τ hI => ?_) (l.map g) [] _ ⟨⟨[], l, rfl, rfl, rfl⟩, rfl⟩
  · obtain ⟨⟨pre, post, e1, e2, e3⟩, e4⟩ := hI
    cases post with
    | nil => cases e2
    | cons c post =>
      have e5 : x = g c ∧ r = post.map g := by simpa using e2
      obtain ⟨e5, e6⟩ := e5
      subst e5 e6
      have hc : c ∈ l := by rw [e1]; simp
      have hl : acc.length < sizeLine := by
        have h1 : acc.length ≤ pre.length := by rw [e3]; exact List.length_filterMap_le _ _
        have h2 : l.length = pre.length + (post.length + 1) := by rw [e1]; simp
        omega
      have tl : τ L = some (.lst acc) := by rw [e4]; exact tset_same
      refine step c hc τ (fun τ3 o => match o with | some d => τ3 L = some (.lst acc) ∧ acc.length < sizeLine ∧ G (acc ++ [d]) (tset τ3 L (.lst (acc ++ [d]))) | none => G acc τ3) ?_
      cases hf : h c with
      | some d => exact ⟨tl, hl, hG _ _ ⟨⟨pre ++ [c], post, by rw [e1]; simp, rfl, by rw [e3]; simp [hf]⟩, by rw [e4, tset_tset]⟩⟩
      | none => exact hG _ _ ⟨⟨pre ++ [c], post, by rw [e1]; simp, rfl, by rw [e3]; simp [hf]⟩, e4⟩
  · obtain ⟨⟨pre, post, e1, e2, e3⟩, e4⟩ := hI
    have : post = [] := by simpa using e2.symm
    subst this
    rw [List.append_nil] at e1
    subst e1
    refine ⟨by rw [e4]; exact tset_same, ?_⟩
    rw [e4, e3]
    exact hk
theorem lc_map {l : List α} {g : α → D} (h : α → D) (hz : l.length ≤ sizeLine)
    (step : ∀ c ∈ l, ∀ (τ : TD) (k : TD → D → Prop), k τ (h c) → γ (g c) τ (wipeD ds ws) fun τ1 ds1 => δ τ1 ds1 fun τ3 d => k τ3 d)
    (hk : k (tset τ0 L (.lst (l.map h))) (l.map h)) : dLcL γ dYes δ ws ds L k (l.map g) [] (tset τ0 L (.lst [])) := by
  refine lc_fm (fun c => some (h c)) hz (fun c hc τ k' hk' => ?_) ?_
  · exact step c hc τ (fun τ3 d => k' τ3 (some d)) hk'
  · have e : (l.filterMap fun c => some (h c)) = l.map h := by
      induction l with
      | nil => rfl
      | cons a l ih => simp
    rw [e]
    exact hk
end
/-- a loop over mapped items, a state s that each turn changes -/
theorem loop_st {γ : DG} {β : DS} {F : EndsD} {α σ : Type} {g : α → D} (I : σ → TD → Sl → Prop) (f : σ → α → σ) (l : List α)
    (step : ∀ c ∈ l, ∀ s τ ds, I s τ ds → ∀ G : TD → Sl → Prop, (∀ τ' ds', I (f s c) τ' ds' → G τ' ds') → γ (g c) τ ds (β { F with nx := G, ct := G, bk := F.nx }))
    {s0 : σ} {τ : TD} {ds : Sl} (h0 : I s0 τ ds) (fin : ∀ τ ds, I (l.foldl f s0) τ ds → F.nx τ ds) : dLoop γ β F (l.map g) τ ds := by
  induction l generalizing s0 τ ds with
  | nil => exact fin τ ds h0
  | cons c l ih =>
    exact step c List.mem_cons_self s0 τ ds h0 _ fun τ' ds' h' => ih (fun c hc => step c (List.mem_cons_of_mem _ hc)) h' fin
theorem ixN_30 : ixN 3 0 = some 0 := rfl
theorem ixN_31 : ixN 3 1 = some 1 := rfl
theorem ixN_32 : ixN 3 2 = some 2 := rfl
theorem cutD_map {α : Type} (f : α → D) (l : List α) (lo hi : Option Int) : cutD (l.map f) lo hi = ((l.drop (HT.sIx l.length 0 lo)).take (HT.sIx l.length l.length hi - HT.sIx l.length 0 lo)).map f := by
  unfold cutD
  rw [List.length_map, List.map_take, List.map_drop]
theorem lstAt_ne {τ : TD} {a b : Addr} {o : DO} (h : b ≠ a) : lstAt (tset τ a o) b = lstAt τ b := by unfold lstAt; rw [tset_ne h]
/-- the law's dice: three numbers, the last at most n -/
def Dc (n : Nat) (xs : List D) : Prop := ∃ a b c : Int, xs = [.int a, .int b, .int c] ∧ 0 ≤ a ∧ 0 ≤ b ∧ 0 ≤ c ∧ c ≤ n
/-- .. with the number of turns -/
theorem loop_stn {γ : DG} {β : DS} {F : EndsD} {α σ : Type} {g : α → D} (I : Nat → σ → TD → Sl → Prop) (f : σ → α → σ) (l : List α)
    (step : ∀ i c, i < l.length → l[i]? = some c → ∀ s τ ds, I i s τ ds → ∀ G : TD → Sl → Prop, (∀ τ' ds', I (i + 1) (f s c) τ' ds' → G τ' ds') → γ (g c) τ ds (β { F with nx := G, ct := G, bk := F.nx }))
    {s0 : σ} {τ : TD} {ds : Sl} (h0 : I 0 s0 τ ds) (fin : ∀ τ ds, I l.length (l.foldl f s0) τ ds → F.nx τ ds) : dLoop γ β F (l.map g) τ ds := by
  have key : ∀ (pre post : List α) (τ : TD) (ds : Sl), l = pre ++ post → I pre.length (pre.foldl f s0) τ ds → dLoop γ β F (post.map g) τ ds := by
    intro pre post
    induction post generalizing pre with
    | nil =>
      intro τ ds e h
      rw [List.append_nil] at e
      subst e
      exact fin τ ds h
    | cons c post ih =>
      intro τ ds e h
      refine step pre.length c (by rw [e]; simp) (by rw [e]; simp) _ τ ds h _ fun τ' ds' h' => ih (pre ++ [c]) τ' ds' (by rw [e]; simp) ?_
      rw [List.length_append, List.foldl_append]
      exact h'
  exact key [] l τ ds rfl h0
theorem dSeq_step {ε ζ : DS} {F : EndsD} {τ : TD} {ds : Sl} (h : ∀ Z : TD → Sl → Prop, (∀ τ' ds', ζ F τ' ds' → Z τ' ds') → ε { F with nx := Z } τ ds) : dSeq ε ζ F τ ds := h (ζ F) fun _ _ h => h
theorem frzs_refl {τ' τ'' : TD} : ∀ xs : List D, Frzs τ' τ'' xs xs
  | [] => .nil
  | x :: xs => .cons (.same x) (frzs_refl xs)
theorem Fin.lst {k : DK} {τ : TD} {L : Addr} {xs : List D} (hL : τ L = none) (h : k τ (.lst xs)) : Fin k (tset τ L (.lst xs)) (.ref L) := ⟨τ, .lst xs, sub_tset hL, .lst tset_same hL (frzs_refl xs), h⟩
theorem head_of {α : Type} {p : α → Bool} {G : α → D} {r0 : α} (h2 : p r0 = true) : ∀ {l : List α}, (∀ r ∈ l, p r = true → r = r0) → r0 ∈ l → ∃ tl, l.filterMap (fun r => if p r = true then some (G r) else none) = G r0 :: tl
  | [], _, h => absurd h List.not_mem_nil
  | r :: l, h, hm => by
    by_cases e : p r = true
    · have := h r List.mem_cons_self e
      subst this
      rw [List.filterMap_cons, if_pos e]
      exact ⟨_, rfl⟩
    · rw [List.filterMap_cons, if_neg e]
      refine head_of h2 (fun r hr => h r (List.mem_cons_of_mem _ hr)) ?_
      rcases List.mem_cons.mp hm with e2 | e2
      · rw [e2] at h2; exact absurd h2 e
      · exact e2
theorem gK_01_0 {x0 : D} : gK 0 1 [0] [] [x0] = [x0] := rfl
theorem gK_02_01 {x0 x1 : D} : gK 0 2 [0, 1] [] [x0, x1] = [x0, x1] := rfl
theorem gK_02_10 {x0 x1 : D} : gK 0 2 [1, 0] [] [x0, x1] = [x1, x0] := rfl
theorem gK_03_012 {x0 x1 x2 : D} : gK 0 3 [0, 1, 2] [] [x0, x1, x2] = [x0, x1, x2] := rfl
theorem gK_03_021 {x0 x1 x2 : D} : gK 0 3 [0, 2, 1] [] [x0, x1, x2] = [x0, x2, x1] := rfl
theorem gK_03_102 {x0 x1 x2 : D} : gK 0 3 [1, 0, 2] [] [x0, x1, x2] = [x1, x0, x2] := rfl
theorem gK_03_120 {x0 x1 x2 : D} : gK 0 3 [1, 2, 0] [] [x0, x1, x2] = [x1, x2, x0] := rfl
theorem gK_03_201 {x0 x1 x2 : D} : gK 0 3 [2, 0, 1] [] [x0, x1, x2] = [x2, x0, x1] := rfl
theorem gK_03_210 {x0 x1 x2 : D} : gK 0 3 [2, 1, 0] [] [x0, x1, x2] = [x2, x1, x0] := rfl
theorem gK_11_0 {u0 x0 : D} : gK 1 1 [0] [u0] [x0] = [u0, x0] := rfl
theorem gK_12_01 {u0 x0 x1 : D} : gK 1 2 [0, 1] [u0] [x0, x1] = [u0, x0, x1] := rfl
theorem gK_12_10 {u0 x0 x1 : D} : gK 1 2 [1, 0] [u0] [x0, x1] = [u0, x1, x0] := rfl
theorem gK_13_012 {u0 x0 x1 x2 : D} : gK 1 3 [0, 1, 2] [u0] [x0, x1, x2] = [u0, x0, x1, x2] := rfl
theorem gK_13_021 {u0 x0 x1 x2 : D} : gK 1 3 [0, 2, 1] [u0] [x0, x1, x2] = [u0, x0, x2, x1] := rfl
theorem gK_13_102 {u0 x0 x1 x2 : D} : gK 1 3 [1, 0, 2] [u0] [x0, x1, x2] = [u0, x1, x0, x2] := rfl
theorem gK_13_120 {u0 x0 x1 x2 : D} : gK 1 3 [1, 2, 0] [u0] [x0, x1, x2] = [u0, x1, x2, x0] := rfl
theorem gK_13_201 {u0 x0 x1 x2 : D} : gK 1 3 [2, 0, 1] [u0] [x0, x1, x2] = [u0, x2, x0, x1] := rfl
theorem gK_13_210 {u0 x0 x1 x2 : D} : gK 1 3 [2, 1, 0] [u0] [x0, x1, x2] = [u0, x2, x1, x0] := rfl
theorem strsOf_c0 : strsOf [] = some [] := rfl
theorem strsOf_c1 {x0 : Str} : strsOf [.str x0] = some [x0] := rfl
theorem strsOf_c2 {x0 x1 : Str} : strsOf [.str x0, .str x1] = some [x0, x1] := rfl
theorem strsOf_c3 {x0 x1 x2 : Str} : strsOf [.str x0, .str x1, .str x2] = some [x0, x1, x2] := rfl
theorem strsOf_c4 {x0 x1 x2 x3 : Str} : strsOf [.str x0, .str x1, .str x2, .str x3] = some [x0, x1, x2, x3] := rfl
theorem strsOf_c5 {x0 x1 x2 x3 x4 : Str} : strsOf [.str x0, .str x1, .str x2, .str x3, .str x4] = some [x0, x1, x2, x3, x4] := rfl
theorem strsOf_c6 {x0 x1 x2 x3 x4 x5 : Str} : strsOf [.str x0, .str x1, .str x2, .str x3, .str x4, .str x5] = some [x0, x1, x2, x3, x4, x5] := rfl
theorem strsOf_c7 {x0 x1 x2 x3 x4 x5 x6 : Str} : strsOf [.str x0, .str x1, .str x2, .str x3, .str x4, .str x5, .str x6] = some [x0, x1, x2, x3, x4, x5, x6] := rfl
theorem strsOf_c8 {x0 x1 x2 x3 x4 x5 x6 x7 : Str} : strsOf [.str x0, .str x1, .str x2, .str x3, .str x4, .str x5, .str x6, .str x7] = some [x0, x1, x2, x3, x4, x5, x6, x7] := rfl
theorem intsOf_c0 : intsOf [] = some [] := rfl
theorem intsOf_c1 {x0 : Int} : intsOf [.int x0] = some [x0] := rfl
theorem intsOf_c2 {x0 x1 : Int} : intsOf [.int x0, .int x1] = some [x0, x1] := rfl
theorem intsOf_c3 {x0 x1 x2 : Int} : intsOf [.int x0, .int x1, .int x2] = some [x0, x1, x2] := rfl
theorem intsOf_c4 {x0 x1 x2 x3 : Int} : intsOf [.int x0, .int x1, .int x2, .int x3] = some [x0, x1, x2, x3] := rfl
theorem intsOf_c5 {x0 x1 x2 x3 x4 : Int} : intsOf [.int x0, .int x1, .int x2, .int x3, .int x4] = some [x0, x1, x2, x3, x4] := rfl
theorem intsOf_c6 {x0 x1 x2 x3 x4 x5 : Int} : intsOf [.int x0, .int x1, .int x2, .int x3, .int x4, .int x5] = some [x0, x1, x2, x3, x4, x5] := rfl
theorem intsOf_c7 {x0 x1 x2 x3 x4 x5 x6 : Int} : intsOf [.int x0, .int x1, .int x2, .int x3, .int x4, .int x5, .int x6] = some [x0, x1, x2, x3, x4, x5, x6] := rfl
theorem intsOf_c8 {x0 x1 x2 x3 x4 x5 x6 x7 : Int} : intsOf [.int x0, .int x1, .int x2, .int x3, .int x4, .int x5, .int x6, .int x7] = some [x0, x1, x2, x3, x4, x5, x6, x7] := rfl
theorem blsOf_c0 : blsOf [] = some [] := rfl
theorem blsOf_c1 {x0 : Bool} : blsOf [.bl x0] = some [x0] := rfl
theorem blsOf_c2 {x0 x1 : Bool} : blsOf [.bl x0, .bl x1] = some [x0, x1] := rfl
theorem blsOf_c3 {x0 x1 x2 : Bool} : blsOf [.bl x0, .bl x1, .bl x2] = some [x0, x1, x2] := rfl
theorem blsOf_c4 {x0 x1 x2 x3 : Bool} : blsOf [.bl x0, .bl x1, .bl x2, .bl x3] = some [x0, x1, x2, x3] := rfl
theorem blsOf_c5 {x0 x1 x2 x3 x4 : Bool} : blsOf [.bl x0, .bl x1, .bl x2, .bl x3, .bl x4] = some [x0, x1, x2, x3, x4] := rfl
theorem blsOf_c6 {x0 x1 x2 x3 x4 x5 : Bool} : blsOf [.bl x0, .bl x1, .bl x2, .bl x3, .bl x4, .bl x5] = some [x0, x1, x2, x3, x4, x5] := rfl
theorem blsOf_c7 {x0 x1 x2 x3 x4 x5 x6 : Bool} : blsOf [.bl x0, .bl x1, .bl x2, .bl x3, .bl x4, .bl x5, .bl x6] = some [x0, x1, x2, x3, x4, x5, x6] := rfl
theorem blsOf_c8 {x0 x1 x2 x3 x4 x5 x6 x7 : Bool} : blsOf [.bl x0, .bl x1, .bl x2, .bl x3, .bl x4, .bl x5, .bl x6, .bl x7] = some [x0, x1, x2, x3, x4, x5, x6, x7] := rfl
/-- a comprehension's scope, looked through -/
def blkB (N : List Str) (sc scope : Scope) (own : List (Str × Nat)) : Bool :=
  decide (scope.kind = .function) && ((scope.names.all fun y => decide (scope.names.lookup y.1 = some y.2)) && ((own.all fun p => decide (N[p.2]? = some p.1)) &&
  ((scope.names.all fun y => !decide (y.2 = .free) || decide (sc.names.lookup y.1 = some .cell) || decide (sc.names.lookup y.1 = some .free)) && (scope.names.all fun y => !(decide (y.2 = .local) || decide (y.2 = .cell)) || decide (y.1 ∈ own.map (·.1)) || decide (y.1 ∉ N)))))
theorem blk_of {N : List Str} {sc scope : Scope} {own : List (Str × Nat)} (h : blkB N sc scope own = true) : BlkOk N sc scope own := by
  unfold blkB at h
  simp only [Bool.and_eq_true, Bool.or_eq_true, Bool.not_eq_true', decide_eq_true_eq, decide_eq_false_iff_not, List.all_eq_true, Bool.or_eq_false_iff] at h
  obtain ⟨h1, h2, h3, h4, h5⟩ := h
  refine ⟨h1, h2, h3, fun y hy e => ?_, fun y hy e => ?_⟩
  · rcases h4 y hy with (z | z) | z
    · exact absurd e z
    · exact .inl z
    · exact .inr z
  · rcases h5 y hy with (z | z) | z
    · rcases e with e | e
      · exact absurd e z.1
      · exact absurd e z.2
    · exact .inl z
    · exact .inr z
end DL

set_option Elab.async false
set_option linter.all false
set_option maxRecDepth 100000
set_option maxHeartbeats 1000000
/-! The data layer, 12: in, zip, len(set(..)), pop, repeated tuples, == of like data. -/
namespace DL
open PySem PySem.Spec PyProof.Rows L2 DX
section
variable {T : List (Addr × Str)} {X : Cx} {E : XK} {KE : XD} {e a b c : Expr} {es : List Expr} {pos : Pos} {δ δa δb δc : DE} {δs : DA}
/-! ### == of what is alike -/
theorem eqv_refl_all : (∀ d : PyData, PyData.canLay0 d = true → PyData.eqv d d = true) ∧ (∀ l : List PyData, PyData.canLayAll0 l = true → PyData.eqvAll l l = true) := by
  have key : ∀ n : Nat, (∀ d : PyData, sizeOf d < n → PyData.canLay0 d = true → PyData.eqv d d = true) ∧ (∀ l : List PyData, sizeOf l < n → PyData.canLayAll0 l = true → PyData.eqvAll l l = true) := by
    intro n
    induction n with
    | zero => exact ⟨fun d h => by omega, fun l h => by omega⟩
    | succ n ih =>
      refine ⟨fun d hd hc => ?_, fun l hl hc => ?_⟩
      · cases d with
        | none => rfl
        | bool b => exact beq_self_eq_true b
        | int i => exact beq_self_eq_true i
        | str s => exact beq_self_eq_true s
        | list xs => exact ih.2 xs (by simp at hd; omega) hc
        | tuple xs => exact ih.2 xs (by simp at hd; omega) hc
        | dict kv => cases hc
      · cases l with
        | nil => rfl
        | cons x xs =>
          have hc : (PyData.canLay0 x && PyData.canLayAll0 xs) = true := hc
          obtain ⟨h1, h2⟩ := Bool.and_eq_true_iff.mp hc
          show (PyData.eqv x x && PyData.eqvAll xs xs) = true
          simp at hl
          rw [ih.1 x (by omega) h1, ih.2 xs (by omega) h2]
          rfl
  exact ⟨fun d => (key (sizeOf d + 1)).1 d (by omega), fun l => (key (sizeOf l + 1)).2 l (by omega)⟩
/-- data that == takes -/
def shD (x : D) : Prop := ∃ p, pyOf x = some p ∧ SeqAt.shaped p = true
theorem eqA_self {x : D} {f : Bool → Prop} (h : shD x) (hf : f true) : eqA x x f := by
  obtain ⟨p, h1, h2⟩ := h
  unfold eqA
  split
  · rename_i b hb
    have : b = true := by
      cases x <;> simp [scD] at hb <;> first | exact hb | exact hb.symm
    rw [this]; exact hf
  · rw [h1]
    show SeqAt.shaped p = true ∧ SeqAt.shaped p = true ∧ f (PyData.eqv p p)
    rw [eqv_refl_all.1 p (SeqAt.canLay_of_shaped h2)]
    exact ⟨h2, h2, hf⟩
/-! ### a < b < c as a test -/
theorem sndChain {K : PySem.W.Frag} {r r' : R2} {ρ ρ' : D2} {ta tb tc : TE} (hr : R2ok K T r ρ) (hr' : R2ok K T r' ρ') (s1 : SndE K T E KE ta δa) (s2 : SndE K T E KE tb δb) (s3 : SndE K T E KE tc δc) : SndE K T E KE (tChain r r' ta tb tc) (dChain ρ ρ' δa δb δc) := by
  intro σ H τ ds k Q j s h xo q
  refine s1 σ H τ ds _ _ j s h xo fun vx τ1 H1 x e1 j1 r1 k1 => ?_
  refine s2 σ H1 τ1 ds _ _ j1 (s.ext e1) k1 (xo.ext e1) fun vy τ2 H2 y e2 j2 r2 k2 => ?_
  refine hr τ2 H2 x y vx vy _ _ j2 (r1.ext e2) r2 k2 fun v τ3 H3 d e3 j3 r3 k3 => ?_
  cases d with
  | bl z =>
    refine ⟨z, r3, ?_⟩
    have e13 := (e1.trans e2).trans e3
    cases z with
    | true =>
      refine s3 σ H3 τ3 ds _ _ j3 (s.ext e13) k3 (xo.ext e13) fun vw τ4 H4 w e4 j4 r4 k4 => ?_
      exact hr' τ4 H4 y w vy vw k Q j4 ((r2.ext e3).ext e4) r4 k4 fun v τ' H' d e5 j5 r5 k5 => q v τ' H' d ((e13.trans e4).trans e5) j5 r5 k5
    | false => exact q (.bl false) τ3 H3 (.bl false) e13 j3 rfl k3
  | _ => exact k3.elim
theorem pdt_chain {op op' : CmpOp} {r r' : R2} {ρ ρ' : D2} (ho : OpR X (compareOp op) r) (ho' : OpR X (compareOp op') r') (hr : R2ok X.K T r ρ) (hr' : R2ok X.K T r' ρ') (ha : PD T X E KE a δa) (hb : PD T X E KE b δb) (hc : PD T X E KE c δc)
    (mk : ∀ ta tb tc, PE X a ta → PE X b tb → PE X c tc → PT X (.Compare a [op, op'] [b, c] pos) (tTest (tChain r r' ta tb tc))) : PDT T X E KE (.Compare a [op, op'] [b, c] pos) (dTest (dChain ρ ρ' δa δb δc)) := by
  obtain ⟨ta, p1, s1⟩ := ha.ex
  obtain ⟨tb, p2, s2⟩ := hb.ex
  obtain ⟨tc, p3, s3⟩ := hc.ex
  exact ⟨_, mk _ _ _ p1 p2 p3, sndTest (sndChain hr hr' s1 s2 s3)⟩
end
/-! ### in -/
def flatD : D → Bool
  | .non => true
  | .bl _ => true
  | .int _ => true
  | .str _ => true
  | _ => false
def flV : D → V
  | .non => .non
  | .bl b => .bl b
  | .int i => .int i
  | .str s => .str s
  | _ => .non
theorem flat_ok {K : PySem.W.Frag} {τ : TD} {H : Hp} {x : D} {v : V} (r : DR K τ H x v) (h : flatD x = true) : v = flV x ∧ flatV v = true := by
  cases x <;> first | (cases h; done) | skip
  all_goals
    have e := r
    simp only [DR] at e
    subst e
    exact ⟨rfl, rfl⟩
theorem flats_ok {K : PySem.W.Frag} {τ : TD} {H : Hp} : ∀ {xs : List D} {vs : List V}, DRs K τ H xs vs → xs.all flatD = true → vs = xs.map flV ∧ vs.all flatV = true
  | [], vs, r, _ => by
    have r : vs = [] := r
    subst r
    exact ⟨rfl, rfl⟩
  | x :: xs, vs, r, h => by
    obtain ⟨v, w, e, r1, r2⟩ := r
    subst e
    obtain ⟨h1, h2⟩ := Bool.and_eq_true_iff.mp (show (flatD x && xs.all flatD) = true from h)
    obtain ⟨e1, f1⟩ := flat_ok r1 h1
    obtain ⟨e2, f2⟩ := flats_ok r2 h2
    exact ⟨by rw [e1, e2]; rfl, by show (flatV v && w.all flatV) = true; rw [f1, f2]; rfl⟩
def seqAt (τ : TD) : D → Option (List D)
  | .lst xs => some xs
  | .tup xs => some xs
  | .ref a => lstAt τ a
  | _ => none
def ρIn (neg : Bool) : D2 := fun τ x y k => ∃ xs, seqAt τ y = some xs ∧ flatD x = true ∧ xs.all flatD = true ∧ k τ (.bl (if neg then !inV (flV x) (xs.map flV) else inV (flV x) (xs.map flV)))
theorem seqAt_ok {K : PySem.W.Frag} {T : List (Addr × Str)} {τ : TD} {H : Hp} (j : J K T τ H) {x : D} {v : V} {xs : List D} (r : DR K τ H x v) (h : seqAt τ x = some xs) : ∃ a vs, v = .ref a ∧ (SqL K H a vs ∨ SqT K H a vs) ∧ DRs K τ H xs vs := by
  cases x with
  | lst l =>
    obtain ⟨a, vs, e, s, rr⟩ := lstOf_ok j r (show lstOf τ (.lst l) = some xs from h)
    exact ⟨a, vs, e, .inl s, rr⟩
  | tup l =>
    obtain ⟨a, vs, e, _, s, rr⟩ := tupOf_ok r (show tupOf (.tup l) = some xs from h)
    exact ⟨a, vs, e, .inr s, rr⟩
  | ref p =>
    have h' : lstOf τ (.ref p) = some xs := by
      have h : lstAt τ p = some xs := h
      have h2 := lstAt_iff h
      simp only [lstOf, h2]
    obtain ⟨a, vs, e, s, rr⟩ := lstOf_ok j r h'
    exact ⟨a, vs, e, .inl s, rr⟩
  | _ => cases h
theorem ok_in {K : PySem.W.Frag} {T : List (Addr × Str)} {neg : Bool} : R2ok K T (rIn K neg) (ρIn neg) := by
  intro τ H x y vx vy k Q j hx hy h q
  obtain ⟨xs, h1, h2, h3, hk⟩ := h
  obtain ⟨a, vs, e, s, rr⟩ := seqAt_ok j hy h1
  obtain ⟨e1, f1⟩ := flat_ok hx h2
  obtain ⟨e2, f2⟩ := flats_ok rr h3
  subst e
  rw [e1] at f1 ⊢
  rw [e2] at f2 s
  exact ⟨a, _, rfl, s, f1, f2, q _ τ H (.bl _) (.refl _ _) j rfl hk⟩
theorem inV_int (i : Int) (is : List Int) : inV (.int i) (is.map V.int) = decide (i ∈ is) := by
  induction is with
  | nil => rfl
  | cons n is ih =>
    show (eqV (.int n) (.int i) || inV (.int i) (is.map V.int)) = _
    rw [ih]
    show ((n == i) || decide (i ∈ is)) = _
    by_cases h : n = i
    · subst h; simp
    · have h' : ¬ i = n := fun z => h z.symm
      have h2 : (n == i) = false := by simpa using h
      rw [h2]
      simp [h']
theorem flatD_ints (is : List Int) : (is.map D.int).all flatD = true := by simp [flatD]
theorem flV_ints (is : List Int) : (is.map D.int).map flV = is.map V.int := by simp [flV, Function.comp_def]
theorem ρIn_ints {τ : TD} {neg : Bool} {i : Int} {y : D} {is : List Int} {k : DK} (h : seqAt τ y = some (is.map D.int)) (hk : k τ (.bl (if neg then !decide (i ∈ is) else decide (i ∈ is)))) : ρIn neg τ (.int i) y k := by
  refine ⟨_, h, rfl, flatD_ints is, ?_⟩
  rw [flV_ints, show flV (.int i) = V.int i from rfl, inV_int]
  exact hk
end DL
namespace DL
open PySem PySem.Spec PyProof.Rows L2 DX
section
variable {T : List (Addr × Str)} {X : Cx} {E : XK} {KE : XD} {e a b c : Expr} {es : List Expr} {pos : Pos} {δ δa δb δc : DE} {δs : DA}
/-! ### zip -/
def pairsD (xs ys : List D) : List D := List.zipWith (fun x y => .tup [x, y]) xs ys
theorem pair_ok {K : PySem.W.Frag} {vs ws : List V} {xs ys : List D} {τ2 : TD} {H2 H3 : Hp} {i : Nat} {x : V} (j : J K T τ2 H2) (r1 : DRs K τ2 H2 xs vs) (r2 : DRs K τ2 H2 ys ws) (y : YPair (fun i => vs[i]?) (fun i => ws[i]?) i H2 x H3) :
    ∃ d, (pairsD xs ys)[i]? = some d ∧ Ext τ2 H2 τ2 H3 ∧ J K T τ2 H3 ∧ DR K τ2 H3 d x := by
  obtain ⟨t, u, w, rfl, hT, rfl, h1, h2⟩ := y
  obtain ⟨dx, e1, q1⟩ := r1.getV h1
  obtain ⟨dy, e2, q2⟩ := r2.getV h2
  exact ⟨.tup [dx, dy], by simp [pairsD, List.getElem?_zipWith, e1, e2], .new hT, j.new hT, t, [u, w], rfl, .inl ⟨.of upd_same, j.free hT⟩, u, [w], rfl, q1.ext (.new hT), w, [], rfl, q2.ext (.new hT), rfl⟩
theorem walk_zipT {K : PySem.W.Frag} {a b : Addr} {xs ys : List V} {n : Nat} (hn : n = min xs.length ys.length) : Walk (RZ.ItzT K a b) n (fun H => SqT K H a xs ∧ SqT K H b ys) (YPair (fun i => xs[i]?) (fun i => ys[i]?)) := by
  subst hn
  refine ⟨fun i _ hi q => ?_, fun _ q => ⟨xs, ys, q.1, q.2, by omega⟩, fun i H v H' _ q y => ?_⟩
  · have h1 : i < xs.length := by omega
    have h2 : i < ys.length := by omega
    exact ⟨xs, ys, xs[i], ys[i], q.1, q.2, by simp [h1], by simp [h2]⟩
  · obtain ⟨t, x, z, h1, h2, h3, h4, h5⟩ := y
    exact ⟨t, x, z, h1, h2, h3, h4 xs q.1, h5 ys q.2⟩
theorem pairs_len {xs ys : List D} : (pairsD xs ys).length = min xs.length ys.length := by simp [pairsD]
def ιZip (δs : DA) : DI := fun τ ds k => δs τ ds fun τ1 es => match es with
  | [.lst xs, .lst ys] => k τ1 (pairsD xs ys)
  | [.tup xs, .tup ys] => k τ1 (pairsD xs ys)
  | _ => False
theorem pdi_zip {elts : List Expr} {kk : Nat} {p tpos : Pos} (hg : Gl X "zip") (hm : X.mg "zip" = none) (ha : PDA T X E KE [a, b] δs)
    (hs : starEach [a, b] X.env = (false, eval a X.env) :: starEach [b] X.env := by rfl) (hpl : (backTo pos (starEach [b] X.env)).any (·.1) = false := by rfl) : PDI T X E KE (.Tuple elts kk tpos) (.Call (.Name "zip" p) [a, b] [] pos) (ιZip δs) := by
  obtain ⟨t, p1, s1⟩ := ha.ex
  refine ⟨_, RZ.pi_zipA hg hm p1 hs hpl, fun σ H τ ds k R j s h xo q => s1 σ H τ ds _ _ j s h xo fun vs τ1 H1 es e1 j1 r1 k1 => ?_⟩
  match es, k1, r1 with
  | [.lst xs, .lst ys], k1, r1 =>
    obtain ⟨v, u, ev, g1, g2⟩ := two_of r1
    obtain ⟨l1, us, eu, a1, b1⟩ := g1
    obtain ⟨l2, ws, ew, a2, b2⟩ := g2
    subst eu ew ev
    refine ⟨l1, l2, us, ws, rfl, .inl ⟨a1.sq, a2.sq, q _ _ τ1 H1 e1 j1 ⟨_, _, walk_zip (by rw [pairs_len, b1.length, b2.length]), fun τ2 H2 e => ⟨(a1.ext e).sq, (a2.ext e).sq⟩, fun i τ2 H2 x H3 e j y => pair_ok j (b1.ext e) (b2.ext e) y⟩ k1⟩⟩
  | [.tup xs, .tup ys], k1, r1 =>
    obtain ⟨v, u, ev, g1, g2⟩ := two_of r1
    obtain ⟨l1, us, eu, a1, b1⟩ := g1
    obtain ⟨l2, ws, ew, a2, b2⟩ := g2
    subst eu ew ev
    refine ⟨l1, l2, us, ws, rfl, .inr ⟨a1.sq, a2.sq, q _ _ τ1 H1 e1 j1 ⟨_, _, walk_zipT (by rw [pairs_len, b1.length, b2.length]), fun τ2 H2 e => ⟨(a1.ext e).sq, (a2.ext e).sq⟩, fun i τ2 H2 x H3 e j y => pair_ok j (b1.ext e) (b2.ext e) y⟩ k1⟩⟩
theorem ιZip_lst {τ : TD} {xs ys : List D} {ds : Sl} {ki : TD → List D → Prop} (hδ : δs τ ds = fun k => k τ [.lst xs, .lst ys]) : ιZip δs τ ds ki = ki τ (pairsD xs ys) := by unfold ιZip; rw [hδ]
/-! ### len(set(xs)) of a tuple of ints -/
def tLenSetT (K : PySem.W.Frag) (ta : TE) : TE := fun σ H Q => ta σ H fun x H1 => ∃ (l : Addr) (ns : List Int), x = .ref l ∧ SqT K H1 l (ns.map V.int) ∧ ns.length ≤ 4000 ∧ ∀ m : List Int, m.Nodup → (∀ k, k ∈ m ↔ k ∈ ns) → Q (.int (m.length : Nat)) H1
theorem pe_lenSetT {ta : TE} {p p2 q : Pos} (hg : Gl X "len") (hm : X.mg "len" = none) (hg2 : Gl X "set") (hm2 : X.mg "set" = none) (ha : PE X a ta) (hc : X.calm = true := by rfl)
    (na : starEach [a] X.env = (false, eval a X.env) :: starEach [] X.env := by rfl) : PE X (.Call (.Name "len" p) [.Call (.Name "set" p2) [a] [] q] [] pos) (tLenSetT X.K ta) := by
  refine ⟨fun pins s σ H Q I h => ?_⟩
  refine Call_ (ld_blt I hg hm boot_len ?_)
  refine PyProof.Rows.callWith_builtin1 (PyProof.Rows.args_cons ?_ rfl) rfl rfl
  refine Call_ (ld_blt I hg2 hm2 boot_set ?_)
  refine PyProof.Rows.callWith_type1 (PyProof.Rows.args_cons (thn (ha.run pins s σ H _ I h) fun v s1 ⟨x, H1, I1, r1, q1⟩ => PyProof.Rows.args_nil ?_) na) na rfl
  obtain ⟨l, ns, rfl, hq, hl, q1⟩ := q1
  cases r1
  obtain ⟨its, r, pt, hz⟩ := I1.tuple hq
  have hi : PyProof.Rows.IntsAre its.toArray.toList ns := by simpa using RZ.intsAre_vals r
  refine call_set_tupI ns (I1.ok.hd hc) (show s1.heap.IsTuple l its.toArray from pt) hi (by unfold scanBound; omega) fun h' tk c hS hcn hk => ?_
  refine PyProof.Rows.args_nil ?_
  obtain ⟨o, es, ep, t, ho, hex, hd, _, nd, hm3, _, hf, hn, _, _⟩ := hS
  have I2 : Inv X pins σ H1 { s1 with heap := h', toks := tk } := I1.kept fun b o e => hk b o e
  have q2 := q1 (es.toList.map keyOf) nd fun k => by rw [← hm3 k, decide_eq_true_eq]
  have e2 : (es.toList.map keyOf).length = es.size := by simp
  rw [e2] at q2
  exact call_len_set ho hex hd hf (by rw [hn]; omega) ⟨.int es.size, H1, I2.tok _, ⟨_, rfl⟩, q2⟩
def dLenSet (δ : DE) : DE := fun τ ds k => δ τ ds fun τ1 x => match x with
  | .tup xs => ∃ ns, intsOf xs = some ns ∧ ns.length ≤ 4000 ∧ ∀ m : List Int, m.Nodup → (∀ k, k ∈ m ↔ k ∈ ns) → k τ1 (.int (m.length : Nat))
  | _ => False
theorem pd_lenSet {p p2 q : Pos} (hg : Gl X "len") (hm : X.mg "len" = none) (hg2 : Gl X "set") (hm2 : X.mg "set" = none) (ha : PD T X E KE a δ) (hc : X.calm = true := by rfl)
    (na : starEach [a] X.env = (false, eval a X.env) :: starEach [] X.env := by rfl) : PD T X E KE (.Call (.Name "len" p) [.Call (.Name "set" p2) [a] [] q] [] pos) (dLenSet δ) := by
  obtain ⟨t, p1, s1⟩ := ha.ex
  refine ⟨_, pe_lenSetT hg hm hg2 hm2 p1 hc na, fun σ H τ ds k Q j s h xo q => s1 σ H τ ds _ _ j s h xo fun v τ1 H1 d e1 j1 r1 k1 => ?_⟩
  cases d with
  | tup xs =>
    obtain ⟨ns, h1, h2, h3⟩ := k1
    obtain ⟨l, vs, ev, tt, rr⟩ := r1
    have := intsOf_ok rr h1
    subst this
    exact ⟨l, ns, ev, tt.sq, h2, fun m a1 a2 => q _ τ1 H1 (.int _) e1 j1 rfl (h3 m a1 a2)⟩
  | _ => exact k1.elim
/-! ### xs.pop(i), tuples repeated -/
def ρPopAt : DM := fun τ x xs k => match x, xs with
  | .ref p, [.int i] => onSome (lstAt τ p) fun ys => 0 ≤ i ∧ i < ((ys.length : Nat) : Int) ∧ i < 2 ^ 63 ∧ onSome ys[i.toNat]? fun y => k (tset τ p (.lst (ys.eraseIdx i.toNat))) y
  | _, _ => False
theorem drs_erase {K : PySem.W.Frag} {τ : TD} {H : Hp} : ∀ {xs : List D} {vs : List V} (n : Nat), DRs K τ H xs vs → DRs K τ H (xs.eraseIdx n) (vs.eraseIdx n)
  | [], vs, n, r => by
    have r : vs = [] := r
    subst r
    rfl
  | x :: xs, vs, 0, r => by
    obtain ⟨v, w, e, r1, r2⟩ := r
    subst e
    exact r2
  | x :: xs, vs, n + 1, r => by
    obtain ⟨v, w, e, r1, r2⟩ := r
    subst e
    exact ⟨v, _, rfl, r1, drs_erase n r2⟩
theorem ok_popAt {K : PySem.W.Frag} : RMok K T rPopAt ρPopAt := by
  intro τ H x vx xs vs k Q j rx r h q
  match x, xs, h, rx, r with
  | .ref p, [.int i], h, rx, r =>
    obtain ⟨v, e, r1⟩ := one_of r
    have r1 : v = .int i := r1
    have rx : vx = .ref p := rx
    subst e r1 rx
    simp only [ρPopAt] at h
    cases hl : lstAt τ p with
    | none => rw [hl] at h; exact h.elim
    | some ys =>
      rw [hl] at h
      obtain ⟨h0, h1, h2, h3⟩ : 0 ≤ i ∧ i < ((ys.length : Nat) : Int) ∧ i < 2 ^ 63 ∧ onSome ys[i.toNat]? fun y => k (tset τ p (.lst (ys.eraseIdx i.toNat))) y := h
      cases hy : ys[i.toNat]? with
      | none => rw [hy] at h3; exact h3.elim
      | some y =>
        rw [hy] at h3
        have ey := lstAt_iff hl
        obtain ⟨ws, hv, rr⟩ := j.obj p _ ey
        obtain ⟨u, hu, ru⟩ := rr.get hy
        have ec : Ext τ H (tset τ p (.lst (ys.eraseIdx i.toNat))) (upd H p (.lst (ws.eraseIdx i.toNat))) := .chg ey
        exact ⟨p, ws, i, i.toNat, u, rfl, rfl, hv, by omega, h2, seqIndex_of h0 (by rw [rr.length]; exact h1), hu, q u _ _ y ec (j.chg ey ⟨_, upd_same, drs_erase _ (rr.ext ec)⟩) (ru.ext ec) h3⟩
theorem ρPopAt_ref {τ : TD} {p : Addr} {i : Int} {k : DK} : ρPopAt τ (.ref p) [.int i] k = onSome (lstAt τ p) fun ys => 0 ≤ i ∧ i < ((ys.length : Nat) : Int) ∧ i < 2 ^ 63 ∧ onSome ys[i.toNat]? fun y => k (tset τ p (.lst (ys.eraseIdx i.toNat))) y := rfl
/-- * of numbers, texts, tuples -/
def rMulT (K : PySem.W.Frag) : R2 := fun x y H Q => rMulU x y H Q ∨ rRepT K x y H Q
theorem op_mulT : OpR X (binaryOp .Mult) (rMulT X.K) := op_mulU.or op_repT
def ρMulT : D2 := fun τ x y k => match x, y with
  | .tup xs, .int n => (xs ≠ [] ∧ 2 ≤ n ∧ n ≤ 1000 ∧ xs.length ≤ 1000) ∧ k τ (.tup (List.replicate n.toNat xs).flatten)
  | x, y => ρMul τ x y k
theorem drs_rep {K : PySem.W.Frag} {τ : TD} {H : Hp} {xs : List D} {vs : List V} (r : DRs K τ H xs vs) : ∀ n : Nat, DRs K τ H (List.replicate n xs).flatten (List.replicate n vs).flatten
  | 0 => rfl
  | n + 1 => by
    rw [List.replicate_succ, List.replicate_succ, List.flatten_cons, List.flatten_cons]
    exact r.append (drs_rep r n)
theorem ok_mulT {K : PySem.W.Frag} : R2ok K T (rMulT K) ρMulT := by
  intro τ H x y vx vy k Q j hx hy h q
  by_cases c : ∃ xs n, x = .tup xs ∧ y = .int n
  · obtain ⟨xs, n, rfl, rfl⟩ := c
    obtain ⟨⟨h1, h2, h3, h4⟩, hk⟩ : (xs ≠ [] ∧ 2 ≤ n ∧ n ≤ 1000 ∧ xs.length ≤ 1000) ∧ k τ (.tup (List.replicate n.toNat xs).flatten) := h
    obtain ⟨a, vs, ev, tt, rr⟩ := hx
    have hy : vy = .int n := hy
    refine .inr ⟨a, n, vs, ev, hy, tt.sq, fun z => ?_, h2, h3, by rw [rr.length]; exact h4, fun p hp => ?_⟩
    · have := rr.length
      rw [z] at this
      exact h1 (List.eq_nil_of_length_eq_zero this.symm)
    · exact q (.ref p) τ _ (.tup _) (.new hp) (j.new hp) ⟨p, _, rfl, .inl ⟨.of upd_same, j.free hp⟩, (drs_rep rr n.toNat).ext (.new hp)⟩ hk
  · refine .inl (ok_mul (T := T) τ H x y vx vy k Q j hx hy ?_ q)
    unfold ρMulT at h
    split at h
    · rename_i xs n
      exact absurd ⟨xs, n, rfl, rfl⟩ c
    · exact h
theorem ρMulT_int {τ : TD} {k : DK} {i j : Int} : ρMulT τ (.int i) (.int j) k = (CMul i j ∧ k τ (.int (i * j))) := rfl
theorem ρMulT_str {τ : TD} {k : DK} {z : Str} {n : Int} : ρMulT τ (.str z) (.int n) k = ((-(2 ^ 62) ≤ n ∧ n ≤ 1000 ∧ z.length ≤ 1000) ∧ k τ (.str (repS z n.toNat))) := rfl
theorem ρMulT_tup {τ : TD} {k : DK} {xs : List D} {n : Int} : ρMulT τ (.tup xs) (.int n) k = ((xs ≠ [] ∧ 2 ≤ n ∧ n ≤ 1000 ∧ xs.length ≤ 1000) ∧ k τ (.tup (List.replicate n.toNat xs).flatten)) := rfl
/-! in: a sign in a text, a flat value in a list or a tuple -/
def rInU (K : PySem.W.Frag) (neg : Bool) : R2 := fun x y H Q => rSgn neg x y H Q ∨ rIn K neg x y H Q
theorem op_inU : OpR X (compareOp .In) (rInU X.K false) := op_sgn.or op_in_seq
theorem op_ninU : OpR X (compareOp .NotIn) (rInU X.K true) := op_nsgn.or op_notIn_seq
def ρInU (neg : Bool) : D2 := fun τ x y k => match y with
  | .str _ => ρSgn neg τ x y k
  | _ => ρIn neg τ x y k
theorem ok_inU {K : PySem.W.Frag} {neg : Bool} : R2ok K T (rInU K neg) (ρInU neg) := by
  intro τ H x y vx vy k Q j hx hy h q
  unfold ρInU at h
  split at h
  · exact .inl (ok_sgn (T := T) (K := K) τ H x _ vx vy k Q j hx hy h q)
  · exact .inr (ok_in (T := T) τ H x y vx vy k Q j hx hy h q)
theorem ρInU_one {τ : TD} {k : DK} {c : Nat} {z : Str} {neg : Bool} : ρInU neg τ (.str ⟨#[c]⟩) (.str z) k = k τ (.bl (neg ^^ decide (c ∈ z.cps.toList))) := ρSgn_one
/-! list(range(n)) -/
theorem drs_ints {K : PySem.W.Frag} {τ : TD} {H : Hp} {α : Type} (f : α → Int) : ∀ l : List α, DRs K τ H (l.map fun x => D.int (f x)) (l.map fun x => V.int (f x))
  | [] => rfl
  | a :: l => ⟨_, _, rfl, rfl, drs_ints f l⟩
def dLstRg (δ : DE) : DE := fun τ ds k => δ τ ds fun τ1 x => match x with
  | .int n => (-(2 ^ 62) ≤ n ∧ n ≤ 16777216) ∧ k τ1 (.lst (upto 0 n.toNat))
  | _ => False
theorem pd_lstRg {p q pos' : Pos} (hg : Gl X "list") (hm : X.mg "list" = none) (hg2 : Gl X "range") (hm2 : X.mg "range" = none) (ha : PD T X E KE a δ) (hc : X.calm = true := by rfl)
    (na : starEach [a] X.env = (false, eval a X.env) :: starEach [] X.env := by rfl) (nb : starEach [.Call (.Name "range" q) [a] [] pos'] X.env = (false, eval (.Call (.Name "range" q) [a] [] pos') X.env) :: starEach [] X.env := by rfl) :
    PD T X E KE (.Call (.Name "list" p) [.Call (.Name "range" q) [a] [] pos'] [] pos) (dLstRg δ) := by
  obtain ⟨t, p1, s1⟩ := ha.ex
  refine ⟨_, pe_listRg hc hg hm (prg_1 hg2 hm2 p1 na) nb, fun σ H τ ds k Q j s h xo q => s1 σ H τ ds _ _ j s h xo fun v τ1 H1 d e1 j1 r1 k1 => ?_⟩
  cases d with
  | int n =>
    have k1 : (-(2 ^ 62) ≤ n ∧ n ≤ 16777216) ∧ k τ1 (.lst (upto 0 n.toNat)) := k1
    refine ⟨n, r1, ⟨by decide, by decide, by omega, by omega, by omega⟩, fun p hp => ?_⟩
    refine q (.ref p) τ1 _ (.lst _) (e1.trans (.new hp)) (j1.new hp) ⟨p, _, rfl, .inl ⟨.of upd_same, j1.free hp⟩, ?_⟩ k1.2
    have e : (n - 0).toNat = n.toNat := by rw [Int.sub_zero]
    unfold upto rgV
    rw [e]
    exact drs_ints (fun i : Nat => 0 + (i : Int)) _
  | _ => exact k1.elim
/-- list(x), to be changed -/
def ρLstOM : DC := fun τ xs k => match xs with
  | [x] => onSome (seqAt τ x) fun ys => ∀ p, τ p = none → k (tset τ p (.lst ys)) (.ref p)
  | _ => False
theorem ok_lstOM {K : PySem.W.Frag} : RCok K T (rLstO K) ρLstOM := by
  intro τ H xs vs k Q j r h q
  match xs, h, r with
  | [x], h, r =>
    obtain ⟨v, e, r1⟩ := one_of r
    subst e
    have h : onSome (seqAt τ x) fun ys => ∀ p, τ p = none → k (tset τ p (.lst ys)) (.ref p) := h
    cases hs : seqAt τ x with
    | none => rw [hs] at h; exact h.elim
    | some ys =>
      rw [hs] at h
      obtain ⟨a, ws, e, s, rr⟩ := seqAt_ok j r1 hs
      subst e
      refine ⟨a, ws, rfl, s, fun l hl => ?_⟩
      have e2 : Ext τ H (tset τ l (.lst ys)) (upd H l (.lst ws)) := .newM hl
      exact q (.ref l) _ _ (.ref l) e2 (j.newM hl ⟨ws, upd_same, rr.ext e2⟩) rfl (h l (j.free hl))
theorem ρLstOM_eq {τ : TD} {k : DK} {x : D} : ρLstOM τ [x] k = onSome (seqAt τ x) fun ys => ∀ p, τ p = none → k (tset τ p (.lst ys)) (.ref p) := rfl
theorem seqAt_lst {τ : TD} {xs : List D} : seqAt τ (.lst xs) = some xs := rfl
theorem seqAt_tup {τ : TD} {xs : List D} : seqAt τ (.tup xs) = some xs := rfl
theorem seqAt_ref {τ : TD} {p : Addr} : seqAt τ (.ref p) = lstAt τ p := rfl
/-! x, y, z = a, b, c -/
def dPar3 (i j l : Nat) (δs : DA) : DS := fun F τ ds => δs τ ds fun τ1 es => match es with
  | [x, y, z] => F.nx τ1 (((ds.set i (some x)).set j (some y)).set l (some z))
  | _ => False
theorem pds_par3 {i j l : Nat} {x y z : Str} {px py pz pt : Pos} {kt k2 pt2} (hc : X.calm = true) (hN : X.N.Nodup) (hi : X.N[i]? = some x) (hj : X.N[j]? = some y) (hl : X.N[l]? = some z) (hij : i ≠ j) (hil : i ≠ l) (hjl : j ≠ l)
    (hx : X.env.scope.names.lookup x = some .local) (hy : X.env.scope.names.lookup y = some .local) (hz : X.env.scope.names.lookup z = some .local) (ha : PDA T X E KE [a, b, c] δs)
    (hw : swappedStores [.Tuple [.Name x px, .Name y py, .Name z pz] kt pt] (.Tuple [a, b, c] k2 pt2) X.env = pure (some [x, y, z]) := by rfl)
    (hs : swapsWithSole [.Tuple [.Name x px, .Name y py, .Name z pz] kt pt] (.Tuple [a, b, c] k2 pt2) pos.line X.env = pure false := by rfl) :
    PDS T X E KE (.Assign [.Tuple [.Name x px, .Name y py, .Name z pz] kt pt] (.Tuple [a, b, c] k2 pt2) pos) (dPar3 i j l δs) := by
  obtain ⟨t, p1, s1⟩ := ha.ex
  refine ⟨_, ps_par3 hc hN hi hj hl hij hil hjl hx hy hz p1 hw hs, fun σ H τ ds F D' j s h xo eo => s1 σ H τ ds _ _ j s h xo fun vs τ1 H1 es e1 j1 r1 k1 => ?_⟩
  match es, k1, r1 with
  | [x, y, z], k1, r1 =>
    obtain ⟨u, r, eu, h1, v, r', ev, h2, w, r'', ew, h3, er⟩ := r1
    have er : r'' = [] := er
    subst er ew ev eu
    exact ⟨u, v, w, rfl, eo.nx τ1 H1 _ _ e1 j1 ((((s.ext e1).set _ h1).set _ h2).set _ h3) k1⟩
end
/-- a comprehension over the items themselves -/
theorem lc_mapI {γ : DG} {δ : DE} {ws : List Nat} {ds : Sl} {τ0 : TD} {k : TD → List D → Prop} {L : Addr} {xs : List D} (h : D → D) (hz : xs.length ≤ sizeLine)
    (step : ∀ c ∈ xs, ∀ (τ : TD) (k : TD → D → Prop), k τ (h c) → γ c τ (wipeD ds ws) fun τ1 ds1 => δ τ1 ds1 fun τ3 d => k τ3 d)
    (hk : k (tset τ0 L (.lst (xs.map h))) (xs.map h)) : dLcL γ dYes δ ws ds L k xs [] (tset τ0 L (.lst [])) := by
  have e : xs = xs.map fun x => x := by simp
  have q := lc_map (γ := γ) (δ := δ) (ws := ws) (ds := ds) (τ0 := τ0) (k := k) (L := L) (l := xs) (g := fun x => x) h hz step hk
  rw [← e] at q
  exact q
theorem lc_fmI {γ : DG} {η : DT} {δ : DE} {ws : List Nat} {ds : Sl} {τ0 : TD} {k : TD → List D → Prop} {L : Addr} {xs : List D} (h : D → Option D) (hz : xs.length ≤ sizeLine)
    (step : ∀ c ∈ xs, ∀ (τ : TD) (k : TD → Option D → Prop), k τ (h c) → γ c τ (wipeD ds ws) fun τ1 ds1 => η τ1 ds1 fun τ2 b => if b = true then δ τ2 ds1 fun τ3 d => k τ3 (some d) else k τ2 none)
    (hk : k (tset τ0 L (.lst (xs.filterMap h))) (xs.filterMap h)) : dLcL γ η δ ws ds L k xs [] (tset τ0 L (.lst [])) := by
  have e : xs = xs.map fun x => x := by simp
  have q := lc_fm (γ := γ) (η := η) (δ := δ) (ws := ws) (ds := ds) (τ0 := τ0) (k := k) (L := L) (l := xs) (g := fun x => x) h hz step hk
  rw [← e] at q
  exact q
end DL

set_option Elab.async false
set_option linter.all false
set_option maxRecDepth 100000
set_option maxHeartbeats 1000000
/-! The data layer, 13: == of any data, told by a function; shorter ends. -/
namespace DL
open PySem PySem.Spec PyProof.Rows L2 DX
theorem Fin.eq {k : DK} {τ : TD} {d d' : D} (h : k τ d) (e : d = d') : Fin k τ d' := Fin.same (e ▸ h)
theorem FinX.eq {k : XD} {τ : TD} {C : Addr} {f : Str} {d d' : D} (h : k τ C f d) (e : d = d') : FinX k τ C f d' := FinX.same (e ▸ h)
mutual
def eqD : D → D → Bool
  | .non, .non => true
  | .bl a, .bl b => a == b
  | .bl a, .int j => (if a then 1 else 0) == j
  | .int i, .bl b => i == (if b then 1 else 0)
  | .int i, .int j => i == j
  | .str x, .str y => x == y
  | .lst xs, .lst ys => eqDs xs ys
  | .tup xs, .tup ys => eqDs xs ys
  | _, _ => false
def eqDs : List D → List D → Bool
  | [], [] => true
  | x :: xs, y :: ys => eqD x y && eqDs xs ys
  | _, _ => false
end
mutual
/-- == takes it: data no deeper than n -/
def shB : Nat → D → Bool
  | _, .non => true
  | _, .bl _ => true
  | _, .int _ => true
  | _, .str s => PyData.strOk s
  | 0, .tup _ => false
  | n + 1, .tup xs => shBs n xs
  | 0, .lst _ => false
  | n + 1, .lst xs => shBs n xs
  | _, .ref _ => false
  | _, .ty _ => false
def shBs : Nat → List D → Bool
  | _, [] => true
  | n, x :: xs => shB n x && shBs n xs
end
theorem shBs_all (n : Nat) : ∀ xs : List D, shBs n xs = xs.all (shB n)
  | [] => by simp [shBs]
  | x :: xs => by rw [shBs, shBs_all n xs]; rfl
theorem pyOf_tup {xs : List D} : pyOf (.tup xs) = (pyAll xs).map .tuple := by rw [pyOf]
theorem pyOf_lst {xs : List D} : pyOf (.lst xs) = (pyAll xs).map .list := by rw [pyOf]
theorem pyAll_cons {x : D} {xs : List D} : pyAll (x :: xs) = match pyOf x, pyAll xs with
    | some p, some ps => some (p :: ps)
    | _, _ => none := by rw [pyAll]; try rfl
mutual
theorem shB_iff : ∀ (x : D) (n : Nat), shB n x = true ↔ ∃ p, pyOf x = some p ∧ PyData.canLay0 p = true ∧ PyData.depth p ≤ n
  | .non, n => by simp [shB, pyOf, PyData.canLay0, PyData.depth]
  | .bl b, n => by simp [shB, pyOf, PyData.canLay0, PyData.depth]
  | .int b, n => by simp [shB, pyOf, PyData.canLay0, PyData.depth]
  | .str b, n => by simp [shB, pyOf, PyData.canLay0, PyData.depth]
  | .ref b, n => by simp [shB, pyOf]
  | .ty b, n => by simp [shB, pyOf]
  | .tup xs, 0 => by
    simp only [shB, pyOf_tup]
    constructor
    · intro h; cases h
    · rintro ⟨p, h1, _, h3⟩
      cases e : pyAll xs with
      | none => rw [e] at h1; cases h1
      | some ps => rw [e] at h1; cases h1; simp [PyData.depth] at h3
  | .tup xs, n + 1 => by
    rw [shB, shBs_iff xs n, pyOf_tup]
    constructor
    · rintro ⟨ps, h1, h2, h3⟩
      exact ⟨.tuple ps, by rw [h1]; rfl, by simpa [PyData.canLay0] using h2, by simpa [PyData.depth] using h3⟩
    · rintro ⟨p, h1, h2, h3⟩
      cases e : pyAll xs with
      | none => rw [e] at h1; cases h1
      | some ps =>
        rw [e] at h1; cases h1
        exact ⟨ps, rfl, by simpa [PyData.canLay0] using h2, by simpa [PyData.depth] using h3⟩
  | .lst xs, 0 => by
    simp only [shB, pyOf_lst]
    constructor
    · intro h; cases h
    · rintro ⟨p, h1, _, h3⟩
      cases e : pyAll xs with
      | none => rw [e] at h1; cases h1
      | some ps => rw [e] at h1; cases h1; simp [PyData.depth] at h3
  | .lst xs, n + 1 => by
    rw [shB, shBs_iff xs n, pyOf_lst]
    constructor
    · rintro ⟨ps, h1, h2, h3⟩
      exact ⟨.list ps, by rw [h1]; rfl, by simpa [PyData.canLay0] using h2, by simpa [PyData.depth] using h3⟩
    · rintro ⟨p, h1, h2, h3⟩
      cases e : pyAll xs with
      | none => rw [e] at h1; cases h1
      | some ps =>
        rw [e] at h1; cases h1
        exact ⟨ps, rfl, by simpa [PyData.canLay0] using h2, by simpa [PyData.depth] using h3⟩
theorem shBs_iff : ∀ (xs : List D) (n : Nat), shBs n xs = true ↔ ∃ ps, pyAll xs = some ps ∧ PyData.canLayAll0 ps = true ∧ PyData.depthAll ps ≤ n
  | [], n => by simp [shBs, pyAll, PyData.canLayAll0, PyData.depthAll]
  | x :: xs, n => by
    rw [shBs, Bool.and_eq_true, shB_iff x n, shBs_iff xs n, pyAll_cons]
    constructor
    · rintro ⟨⟨p, a1, a2, a3⟩, ps, b1, b2, b3⟩
      refine ⟨p :: ps, by rw [a1, b1], ?_, ?_⟩
      · rw [PyData.canLayAll0, a2, b2]; rfl
      · rw [PyData.depthAll]; omega
    · rintro ⟨ps, h1, h2, h3⟩
      cases e1 : pyOf x with
      | none => rw [e1] at h1; cases h1
      | some p =>
        cases e2 : pyAll xs with
        | none => rw [e1, e2] at h1; cases h1
        | some qs =>
          rw [e1, e2] at h1; cases h1
          rw [PyData.canLayAll0, Bool.and_eq_true] at h2
          rw [PyData.depthAll] at h3
          exact ⟨⟨p, rfl, h2.1, by omega⟩, qs, rfl, h2.2, by omega⟩
end
theorem sh_iff {x : D} : shB 64 x = true ↔ ∃ p, pyOf x = some p ∧ SeqAt.shaped p = true := by
  rw [shB_iff]
  constructor
  · rintro ⟨p, h1, h2, h3⟩
    exact ⟨p, h1, by unfold SeqAt.shaped; rw [h2, decide_eq_true h3]; rfl⟩
  · rintro ⟨p, h1, h2⟩
    exact ⟨p, h1, SeqAt.canLay_of_shaped h2, SeqAt.depth_of_shaped h2⟩
mutual
theorem eqv_eq : ∀ (x y : D) (p q : PyData), pyOf x = some p → pyOf y = some q → PyData.eqv p q = eqD x y
  | .tup xs, y, p, q, h1, h2 => by
    rw [pyOf_tup] at h1
    cases e : pyAll xs with
    | none => rw [e] at h1; cases h1
    | some ps =>
      rw [e] at h1; cases h1
      cases y with
      | tup ys =>
        rw [pyOf_tup] at h2
        cases e2 : pyAll ys with
        | none => rw [e2] at h2; cases h2
        | some qs =>
          rw [e2] at h2; cases h2
          rw [eqD, ← eqvs_eq xs ys ps qs e e2, PyData.eqv]
      | lst ys =>
        rw [pyOf_lst] at h2
        cases e2 : pyAll ys with
        | none => rw [e2] at h2; cases h2
        | some qs => rw [e2] at h2; cases h2; simp [eqD, PyData.eqv]
      | _ => simp [pyOf] at h2 <;> (try subst h2) <;> simp [eqD, PyData.eqv]
  | .lst xs, y, p, q, h1, h2 => by
    rw [pyOf_lst] at h1
    cases e : pyAll xs with
    | none => rw [e] at h1; cases h1
    | some ps =>
      rw [e] at h1; cases h1
      cases y with
      | lst ys =>
        rw [pyOf_lst] at h2
        cases e2 : pyAll ys with
        | none => rw [e2] at h2; cases h2
        | some qs =>
          rw [e2] at h2; cases h2
          rw [eqD, ← eqvs_eq xs ys ps qs e e2, PyData.eqv]
      | tup ys =>
        rw [pyOf_tup] at h2
        cases e2 : pyAll ys with
        | none => rw [e2] at h2; cases h2
        | some qs => rw [e2] at h2; cases h2; simp [eqD, PyData.eqv]
      | _ => simp [pyOf] at h2 <;> (try subst h2) <;> simp [eqD, PyData.eqv]
  | .non, y, p, q, h1, h2 => by
    cases h1
    cases y with
    | lst ys =>
      rw [pyOf_lst] at h2
      cases e2 : pyAll ys with
      | none => rw [e2] at h2; cases h2
      | some qs => rw [e2] at h2; cases h2; simp [eqD, PyData.eqv]
    | tup ys =>
      rw [pyOf_tup] at h2
      cases e2 : pyAll ys with
      | none => rw [e2] at h2; cases h2
      | some qs => rw [e2] at h2; cases h2; simp [eqD, PyData.eqv]
    | _ => simp [pyOf] at h2 <;> (try subst h2) <;> simp [eqD, PyData.eqv]
  | .bl b, y, p, q, h1, h2 => by
    cases h1
    cases y with
    | lst ys =>
      rw [pyOf_lst] at h2
      cases e2 : pyAll ys with
      | none => rw [e2] at h2; cases h2
      | some qs => rw [e2] at h2; cases h2; simp [eqD, PyData.eqv]
    | tup ys =>
      rw [pyOf_tup] at h2
      cases e2 : pyAll ys with
      | none => rw [e2] at h2; cases h2
      | some qs => rw [e2] at h2; cases h2; simp [eqD, PyData.eqv]
    | _ => simp [pyOf] at h2 <;> (try subst h2) <;> simp [eqD, PyData.eqv]
  | .int b, y, p, q, h1, h2 => by
    cases h1
    cases y with
    | lst ys =>
      rw [pyOf_lst] at h2
      cases e2 : pyAll ys with
      | none => rw [e2] at h2; cases h2
      | some qs => rw [e2] at h2; cases h2; simp [eqD, PyData.eqv]
    | tup ys =>
      rw [pyOf_tup] at h2
      cases e2 : pyAll ys with
      | none => rw [e2] at h2; cases h2
      | some qs => rw [e2] at h2; cases h2; simp [eqD, PyData.eqv]
    | _ => simp [pyOf] at h2 <;> (try subst h2) <;> simp [eqD, PyData.eqv]
  | .str b, y, p, q, h1, h2 => by
    cases h1
    cases y with
    | lst ys =>
      rw [pyOf_lst] at h2
      cases e2 : pyAll ys with
      | none => rw [e2] at h2; cases h2
      | some qs => rw [e2] at h2; cases h2; simp [eqD, PyData.eqv]
    | tup ys =>
      rw [pyOf_tup] at h2
      cases e2 : pyAll ys with
      | none => rw [e2] at h2; cases h2
      | some qs => rw [e2] at h2; cases h2; simp [eqD, PyData.eqv]
    | _ => simp [pyOf] at h2 <;> (try subst h2) <;> simp [eqD, PyData.eqv]
  | .ref _, y, p, q, h1, h2 => by simp [pyOf] at h1
  | .ty _, y, p, q, h1, h2 => by simp [pyOf] at h1
theorem eqvs_eq : ∀ (xs ys : List D) (ps qs : List PyData), pyAll xs = some ps → pyAll ys = some qs → PyData.eqvAll ps qs = eqDs xs ys
  | [], [], ps, qs, h1, h2 => by cases h1; cases h2; simp [PyData.eqvAll, eqDs]
  | [], y :: ys, ps, qs, h1, h2 => by
    cases h1
    rw [pyAll_cons] at h2
    split at h2
    · cases h2; simp [PyData.eqvAll, eqDs]
    · cases h2
  | x :: xs, [], ps, qs, h1, h2 => by
    cases h2
    rw [pyAll_cons] at h1
    split at h1
    · cases h1; simp [PyData.eqvAll, eqDs]
    · cases h1
  | x :: xs, y :: ys, ps, qs, h1, h2 => by
    rw [pyAll_cons] at h1 h2
    split at h1
    · rename_i p ps' a1 a2
      cases h1
      split at h2
      · rename_i q qs' b1 b2
        cases h2
        rw [PyData.eqvAll, eqDs, eqv_eq x y p q a1 b1, eqvs_eq xs ys ps' qs' a2 b2]
      · cases h2
    · cases h1
end
theorem scD_eqD {x y : D} {b : Bool} (h : scD x y = some b) : eqD x y = b := by
  cases x <;> cases y <;> simp [scD] at h <;> simp [eqD, ← h] <;> rfl
theorem eqA_gen {x y : D} {f : Bool → Prop} (hx : shB 64 x = true) (hy : shB 64 y = true) (h : f (eqD x y)) : eqA x y f := by
  unfold eqA
  split
  · rename_i b hb
    rw [← scD_eqD hb]; exact h
  · obtain ⟨p, a1, a2⟩ := sh_iff.mp hx
    obtain ⟨q, b1, b2⟩ := sh_iff.mp hy
    rw [a1, b1]
    exact ⟨a2, b2, by rw [eqv_eq x y p q a1 b1]; exact h⟩
theorem eqA_iff {x y : D} {f : Bool → Prop} (hs : scD x y = none) : eqA x y f = (shB 64 x = true ∧ shB 64 y = true ∧ f (eqD x y)) := by
  refine propext ⟨fun h => ?_, fun ⟨hx, hy, h⟩ => eqA_gen hx hy h⟩
  unfold eqA at h
  rw [hs] at h
  split at h
  · rename_i z; cases z
  · split at h
    · rename_i p q a1 b1
      exact ⟨sh_iff.mpr ⟨p, a1, h.1⟩, sh_iff.mpr ⟨q, b1, h.2.1⟩, by rw [← eqv_eq x y p q a1 b1]; exact h.2.2⟩
    · exact h.elim
/-- a mutable list is told by what is in it -/
def resD (τ : TD) : D → D
  | .ref a => match τ a with
    | some (.lst xs) => .lst xs
    | _ => .ref a
  | d => d
theorem resD_ref {τ : TD} {a : Addr} {xs : List D} (h : lstAt τ a = some xs) : resD τ (.ref a) = .lst xs := by
  have e := lstAt_iff h
  simp only [resD, e]
theorem resD_non {τ : TD} : resD τ .non = .non := rfl
theorem resD_bl {τ : TD} {b : Bool} : resD τ (.bl b) = .bl b := rfl
theorem resD_int {τ : TD} {b : Int} : resD τ (.int b) = .int b := rfl
theorem resD_str {τ : TD} {b : Str} : resD τ (.str b) = .str b := rfl
theorem resD_tup {τ : TD} {b : List D} : resD τ (.tup b) = .tup b := rfl
theorem resD_lst {τ : TD} {b : List D} : resD τ (.lst b) = .lst b := rfl
theorem resD_ok {K : PySem.W.Frag} {T : List (Addr × Str)} {τ : TD} {H : Hp} {x : D} {v : V} {p : PyData} (j : J K T τ H) (r : DR K τ H x v) (h : pyOf (resD τ x) = some p) : Dp K H v p := by
  cases x with
  | ref a =>
    unfold resD at h
    split at h
    · rename_i a' e
      cases e
      split at h
      · rename_i xs e
        obtain ⟨vs, hv, rv⟩ := j.obj a _ e
        rw [pyOf_lst] at h
        cases z : pyAll xs with
        | none => rw [z] at h; cases h
        | some ps =>
          rw [z] at h
          cases h
          have r : v = .ref a := r
          subst r
          exact .lst (.inl (.of hv)) (pyAll_ok xs vs ps rv z)
      · simp [pyOf] at h
    · rename_i hn; exact absurd rfl (hn a)
  | _ => exact pyOf_ok _ _ _ r h
def ρEqR : D2 := fun τ x y k => eqA (resD τ x) (resD τ y) fun b => k τ (.bl b)
def ρNeR : D2 := fun τ x y k => eqA (resD τ x) (resD τ y) fun b => k τ (.bl (!b))
section
variable {T : List (Addr × Str)}
theorem scR {τ : TD} {H : Hp} {K : PySem.W.Frag} {x y : D} {vx vy : V} {b : Bool} (hx : DR K τ H x vx) (hy : DR K τ H y vy) (h : scD (resD τ x) (resD τ y) = some b) : scal vx vy = true ∧ decide (vx = vy) = b := by
  have key : ∀ {z : D}, (∀ a, z = .ref a → False) → resD τ z = z := fun {z} h => by
    cases z <;> first | rfl | exact (h _ rfl).elim
  cases x <;> cases y <;> first
    | exact scD_ok hx hy h
    | (exfalso
       simp only [resD] at h
       repeat' (split at h)
       all_goals (cases h))
theorem ok_eqR {K : PySem.W.Frag} : R2ok K T (rEqU K) ρEqR := by
  intro τ H x y vx vy k Q j hx hy h q
  unfold ρEqR eqA at h
  split at h
  · rename_i b hb
    obtain ⟨h1, h2⟩ := scR hx hy hb
    exact .inl ⟨h1, by rw [h2]; exact q _ τ H (.bl b) (.refl _ _) j rfl h⟩
  · split at h
    · rename_i p p' h1 h2
      exact .inr ⟨p, p', resD_ok j hx h1, resD_ok j hy h2, h.1, h.2.1, q _ τ H (.bl _) (.refl _ _) j rfl h.2.2⟩
    · exact h.elim
theorem ok_neR {K : PySem.W.Frag} : R2ok K T (rNeU K) ρNeR := by
  intro τ H x y vx vy k Q j hx hy h q
  unfold ρNeR eqA at h
  split at h
  · rename_i b hb
    obtain ⟨h1, h2⟩ := scR hx hy hb
    exact .inl ⟨h1, by rw [h2]; exact q _ τ H (.bl (!b)) (.refl _ _) j rfl h⟩
  · split at h
    · rename_i p p' h1 h2
      exact .inr ⟨p, p', resD_ok j hx h1, resD_ok j hy h2, h.1, h.2.1, q _ τ H (.bl _) (.refl _ _) j rfl h.2.2⟩
    · exact h.elim
end
theorem ρEqR_eq {τ : TD} {x y : D} {k : DK} : ρEqR τ x y k = eqA (resD τ x) (resD τ y) fun b => k τ (.bl b) := rfl
theorem ρNeR_eq {τ : TD} {x y : D} {k : DK} : ρNeR τ x y k = eqA (resD τ x) (resD τ y) fun b => k τ (.bl (!b)) := rfl
section
variable {f : Bool → Prop}
theorem eqA_nn : eqA .non .non f = f true := rfl
theorem eqA_ii {i j : Int} : eqA (.int i) (.int j) f = f (decide (i = j)) := rfl
theorem eqA_bb {i j : Bool} : eqA (.bl i) (.bl j) f = f (decide (i = j)) := rfl
theorem eqA_ss {i j : Str} : eqA (.str i) (.str j) f = f (decide (i = j)) := rfl
theorem eqA_ni {j : Int} : eqA .non (.int j) f = f false := rfl
theorem eqA_in {j : Int} : eqA (.int j) .non f = f false := rfl
theorem eqA_nb {j : Bool} : eqA .non (.bl j) f = f false := rfl
theorem eqA_bn {j : Bool} : eqA (.bl j) .non f = f false := rfl
theorem eqA_ns {j : Str} : eqA .non (.str j) f = f false := rfl
theorem eqA_sn {j : Str} : eqA (.str j) .non f = f false := rfl
theorem eqA_is {i : Int} {j : Str} : eqA (.int i) (.str j) f = f false := rfl
theorem eqA_si {i : Str} {j : Int} : eqA (.str i) (.int j) f = f false := rfl
theorem eqA_tt {xs ys : List D} : eqA (.tup xs) (.tup ys) f = (shBs 63 xs = true ∧ shBs 63 ys = true ∧ f (eqDs xs ys)) := by rw [eqA_iff rfl]; rfl
theorem eqA_ll {xs ys : List D} : eqA (.lst xs) (.lst ys) f = (shBs 63 xs = true ∧ shBs 63 ys = true ∧ f (eqDs xs ys)) := by rw [eqA_iff rfl]; rfl
theorem eqA_tl {xs ys : List D} : eqA (.tup xs) (.lst ys) f = (shBs 63 xs = true ∧ shBs 63 ys = true ∧ f false) := by rw [eqA_iff rfl]; rfl
theorem eqA_lt {xs ys : List D} : eqA (.lst xs) (.tup ys) f = (shBs 63 xs = true ∧ shBs 63 ys = true ∧ f false) := by rw [eqA_iff rfl]; rfl
theorem eqA_tn {xs : List D} : eqA (.tup xs) .non f = (shBs 63 xs = true ∧ f false) := by rw [eqA_iff rfl]; simp [shB, eqD]
theorem eqA_nt {xs : List D} : eqA .non (.tup xs) f = (shBs 63 xs = true ∧ f false) := by rw [eqA_iff rfl]; simp [shB, eqD]
theorem eqA_ti' {xs : List D} {j : Int} : eqA (.tup xs) (.int j) f = (shBs 63 xs = true ∧ f false) := by rw [eqA_iff rfl]; simp [shB, eqD]
theorem eqA_it {xs : List D} {j : Int} : eqA (.int j) (.tup xs) f = (shBs 63 xs = true ∧ f false) := by rw [eqA_iff rfl]; simp [shB, eqD]
theorem eqA_ts {xs : List D} {j : Str} : eqA (.tup xs) (.str j) f = (shBs 63 xs = true ∧ PyData.strOk j = true ∧ f false) := by rw [eqA_iff rfl]; simp [shB, eqD]
theorem eqA_st {xs : List D} {j : Str} : eqA (.str j) (.tup xs) f = (PyData.strOk j = true ∧ shBs 63 xs = true ∧ f false) := by rw [eqA_iff rfl]; simp [shB, eqD]
end
theorem shB_non {n : Nat} : shB n .non = true := by rw [shB]
theorem shB_bl {n : Nat} {b : Bool} : shB n (.bl b) = true := by rw [shB]
theorem shB_int {n : Nat} {b : Int} : shB n (.int b) = true := by rw [shB]
theorem shB_str {n : Nat} {b : Str} : shB n (.str b) = PyData.strOk b := by rw [shB]
theorem shB_t {n : Nat} {b : List D} : shB (n + 1) (.tup b) = shBs n b := by rw [shB]
theorem shB_l {n : Nat} {b : List D} : shB (n + 1) (.lst b) = shBs n b := by rw [shB]
theorem shB_t63 {b : List D} : shB 63 (.tup b) = shBs 62 b := shB_t
theorem shB_t62 {b : List D} : shB 62 (.tup b) = shBs 61 b := shB_t
theorem shB_t61 {b : List D} : shB 61 (.tup b) = shBs 60 b := shB_t
theorem shB_t60 {b : List D} : shB 60 (.tup b) = shBs 59 b := shB_t
theorem shB_t59 {b : List D} : shB 59 (.tup b) = shBs 58 b := shB_t
theorem shB_l63 {b : List D} : shB 63 (.lst b) = shBs 62 b := shB_l
theorem shB_l62 {b : List D} : shB 62 (.lst b) = shBs 61 b := shB_l
theorem shB_l61 {b : List D} : shB 61 (.lst b) = shBs 60 b := shB_l
theorem shB_l60 {b : List D} : shB 60 (.lst b) = shBs 59 b := shB_l
theorem shBs_nil {n : Nat} : shBs n [] = true := by rw [shBs]
theorem shBs_cons {n : Nat} {x : D} {xs : List D} : shBs n (x :: xs) = (shB n x && shBs n xs) := by rw [shBs]
theorem shBs_map {α : Type} {n : Nat} {g : α → D} {l : List α} (h : ∀ a ∈ l, shB n (g a) = true) : shBs n (l.map g) = true := by
  rw [shBs_all, List.all_map]; exact List.all_eq_true.mpr h
theorem shBs_append {n : Nat} {xs ys : List D} : shBs n (xs ++ ys) = (shBs n xs && shBs n ys) := by
  rw [shBs_all, shBs_all, shBs_all, List.all_append]
theorem shBs_ints {n : Nat} {l : List Int} : shBs n (l.map D.int) = true := shBs_map fun _ _ => shB_int
theorem eqDs_nil : eqDs [] [] = true := by rw [eqDs]
theorem eqDs_cons {x y : D} {xs ys : List D} : eqDs (x :: xs) (y :: ys) = (eqD x y && eqDs xs ys) := by rw [eqDs]
theorem eqDs_cn {x : D} {xs : List D} : eqDs (x :: xs) [] = false := by simp [eqDs]
theorem eqDs_nc {x : D} {xs : List D} : eqDs [] (x :: xs) = false := by simp [eqDs]
theorem eqD_ii {i j : Int} : eqD (.int i) (.int j) = decide (i = j) := by simp [eqD]; rfl
theorem eqD_bb {i j : Bool} : eqD (.bl i) (.bl j) = decide (i = j) := by cases i <;> cases j <;> simp [eqD]
theorem eqD_ss {i j : Str} : eqD (.str i) (.str j) = decide (i = j) := by
  rw [eqD]
  by_cases h : i = j
  · subst h; simp
  · simp [h]
theorem eqD_tt {i j : List D} : eqD (.tup i) (.tup j) = eqDs i j := by rw [eqD]
theorem eqD_ll {i j : List D} : eqD (.lst i) (.lst j) = eqDs i j := by rw [eqD]
theorem eqD_nn : eqD .non .non = true := by rw [eqD]
mutual
theorem eqD_self : ∀ x : D, (∃ n, shB n x = true) → eqD x x = true
  | .non, _ => by rw [eqD]
  | .bl _, _ => by simp [eqD]
  | .int _, _ => by simp [eqD]
  | .str _, _ => by simp [eqD]
  | .tup xs, ⟨n, h⟩ => by
    cases n with
    | zero => rw [shB] at h; cases h
    | succ n => rw [shB] at h; rw [eqD]; exact eqDs_self xs ⟨n, h⟩
  | .lst xs, ⟨n, h⟩ => by
    cases n with
    | zero => rw [shB] at h; cases h
    | succ n => rw [shB] at h; rw [eqD]; exact eqDs_self xs ⟨n, h⟩
  | .ref _, ⟨n, h⟩ => by rw [shB] at h; cases h
  | .ty _, ⟨n, h⟩ => by rw [shB] at h; cases h
theorem eqDs_self : ∀ xs : List D, (∃ n, shBs n xs = true) → eqDs xs xs = true
  | [], _ => by rw [eqDs]
  | x :: xs, ⟨n, h⟩ => by
    rw [shBs, Bool.and_eq_true] at h
    rw [eqDs, eqD_self x ⟨n, h.1⟩, eqDs_self xs ⟨n, h.2⟩]; rfl
end
/-- mapped lists are equal if and only if the lists are -/
theorem eqDs_map {α : Type} [DecidableEq α] {g : α → D} (h : ∀ a b, eqD (g a) (g b) = decide (a = b)) : ∀ l m : List α, eqDs (l.map g) (m.map g) = decide (l = m)
  | [], [] => by simp [eqDs]
  | [], y :: ys => by simp [eqDs]
  | x :: xs, [] => by simp [eqDs]
  | x :: xs, y :: ys => by
    simp only [List.map_cons, eqDs_cons, h, eqDs_map h xs ys]
    by_cases e1 : x = y <;> by_cases e2 : xs = ys <;> simp [e1, e2]
theorem eqDs_ints {l m : List Int} : eqDs (l.map D.int) (m.map D.int) = decide (l = m) := eqDs_map (fun _ _ => eqD_ii) l m
theorem eqDs_strs {l m : List Str} : eqDs (l.map D.str) (m.map D.str) = decide (l = m) := eqDs_map (fun _ _ => eqD_ss) l m
/-- a value compared with itself -/
theorem eqA_refl {x : D} {f : Bool → Prop} (h : shB 64 x = true) (hf : f true) : eqA x x f := eqA_gen h h (by rw [eqD_self x ⟨64, h⟩]; exact hf)
theorem ρEqR_refl {τ : TD} {x : D} {k : DK} (h : shB 64 x = true) (hf : k τ (.bl true)) : ρEqR τ x x k := by
  have e : resD τ x = x := by cases x <;> first | rfl | (rw [shB] at h; cases h)
  rw [ρEqR_eq, e]; exact eqA_refl h hf
theorem ρNeR_refl {τ : TD} {x : D} {k : DK} (h : shB 64 x = true) (hf : k τ (.bl false)) : ρNeR τ x x k := by
  have e : resD τ x = x := by cases x <;> first | rfl | (rw [shB] at h; cases h)
  rw [ρNeR_eq, e]; exact eqA_refl h hf
theorem ρInU_ints {τ : TD} {neg : Bool} {i : Int} {is : List Int} {k : DK} (hk : k τ (.bl (if neg then !decide (i ∈ is) else decide (i ∈ is)))) : ρInU neg τ (.int i) (.tup (is.map D.int)) k := by
  unfold ρInU
  exact ρIn_ints (is := is) rfl hk
theorem ρInU_seq {τ : TD} {neg : Bool} {i : Int} {y : D} {is : List Int} {k : DK} (h : seqAt τ y = some (is.map D.int)) (hk : k τ (.bl (if neg then !decide (i ∈ is) else decide (i ∈ is)))) : ρInU neg τ (.int i) y k := by
  unfold ρInU
  split
  · cases h
  · exact ρIn_ints h hk
theorem fm_filter {α : Type} (p : α → Bool) (g : α → D) (l : List α) : (l.filterMap fun r => if p r = true then some (g r) else none) = (l.filter p).map g := by
  induction l with
  | nil => rfl
  | cons a l ih =>
    by_cases h : p a = true
    · rw [List.filterMap_cons, if_pos h, List.filter_cons, if_pos h, List.map_cons, ih]
    · rw [List.filterMap_cons, if_neg h, List.filter_cons, if_neg h, ih]
theorem sub_trans {a b c : TD} (h : Sub a b) (g : Sub b c) : Sub a c := fun x o e => g x o (h x o e)
theorem sub_set {τ τ' : TD} {p : Addr} {o : DO} (s : Sub τ τ') (h : τ p = none) : Sub τ (tset τ' p o) := fun a u e => by
  have : a ≠ p := fun z => by rw [z, h] at e; cases e
  rw [tset_ne this]; exact s a u e
/-- .. also at p, where both are set anew -/
theorem sub_set2 {τ τ' : TD} {p : Addr} {o u : DO} (s : Sub (tset τ p o) τ') : Sub (tset τ p u) (tset τ' p u) := fun a w e => by
  by_cases z : a = p
  · subst z; rw [tset_same] at e ⊢; exact e
  · rw [tset_ne z] at e ⊢
    exact s a w (by rw [tset_ne z]; exact e)
theorem sub_lst {τ τ' : TD} {p : Addr} {xs : List D} (s : Sub τ τ') (h : lstAt τ p = some xs) : lstAt τ' p = some xs := lstAt_of (s p _ (lstAt_iff h))
theorem sub_ne {τ : TD} {p q : Addr} {o : DO} (h : τ p = some o) (g : τ q = none) : q ≠ p := fun z => by rw [z, h] at g; cases g
theorem tset_comm {τ : TD} {p q : Addr} {a b : DO} (h : q ≠ p) : tset (tset τ p a) q b = tset (tset τ q b) p a := by
  funext x
  by_cases h1 : x = p
  · subst h1; rw [tset_ne (Ne.symm h), tset_same, tset_same]
  · by_cases h2 : x = q
    · subst h2; rw [tset_same, tset_ne h1, tset_same]
    · rw [tset_ne h2, tset_ne h1, tset_ne h1, tset_ne h2]
theorem tset_comm3 {τ : TD} {p q : Addr} {a b c : DO} (h : q ≠ p) : tset (tset (tset τ p a) q b) p c = tset (tset τ p c) q b := by
  rw [← tset_comm (τ := tset τ p a) (p := p) (q := q) h, tset_tset]
theorem pigeon : ∀ (n : Nat) (l : List Int), l.Nodup → (∀ x ∈ l, 0 ≤ x ∧ x < (n : Int)) → l.length ≤ n
  | 0, l, _, h => by
    cases l with
    | nil => exact Nat.le_refl _
    | cons a l => have := h a List.mem_cons_self; omega
  | n + 1, l, hn, h => by
    have h1 := pigeon n (l.erase (n : Int)) (hn.erase _) fun x hx => by
      obtain ⟨h2, h3⟩ := hn.mem_erase_iff.mp hx
      have := h x h3
      omega
    have h2 : l.length ≤ (l.erase (n : Int)).length + 1 := by
      rw [List.length_erase]; split <;> omega
    omega
theorem Dc.le {m n : Nat} {xs : List D} (h : Dc m xs) (l : m ≤ n) : Dc n xs := by
  obtain ⟨a, b, c, h1, h2, h3, h4, h5⟩ := h
  exact ⟨a, b, c, h1, h2, h3, h4, by omega⟩
/-- a comprehension whose items change what is mutable -/
theorem lc_st {γ : DG} {δ : DE} {ws : List Nat} {ds : Sl} {τ0 : TD} {k : TD → List D → Prop} {L : Addr} {α : Type} {l : List α} {g : α → D} (I : Nat → List D → TD → Prop) (hz : l.length ≤ sizeLine) (hL : τ0 L = none) (h0 : I 0 [] τ0)
    (step : ∀ i c, l[i]? = some c → ∀ acc σ, σ L = none → acc.length = i → I i acc σ → ∀ G : TD → D → Prop, (∀ d σ', σ' L = none → I (i + 1) (acc ++ [d]) σ' → G (tset σ' L (.lst acc)) d) →
      γ (g c) (tset σ L (.lst acc)) (wipeD ds ws) fun τ1 ds1 => δ τ1 ds1 fun τ3 d => G τ3 d)
    (fin : ∀ acc σ, σ L = none → acc.length = l.length → I l.length acc σ → k (tset σ L (.lst acc)) acc) : dLcL γ dYes δ ws ds L k (l.map g) [] (tset τ0 L (.lst [])) := by
  refine lc_ind (fun r acc τ => ∃ (pre post : List α) (σ : TD), l = pre ++ post ∧ r = post.map g ∧ acc.length = pre.length ∧ σ L = none ∧ τ = tset σ L (.lst acc) ∧ I pre.length acc σ) (fun x r acc τ hI G hG => ?_) (fun acc τ hI => ?_) (l.map g) [] _ ⟨[], l, τ0, rfl, rfl, rfl, hL, rfl, h0⟩
  · obtain ⟨pre, post, σ, e1, e2, e3, e4, e5, hI⟩ := hI
    cases post with
    | nil => cases e2
    | cons c post =>
      have e6 : x = g c ∧ r = post.map g := by simpa using e2
      obtain ⟨e6, e7⟩ := e6
      subst e6 e7 e5
      refine step pre.length c (by rw [e1]; simp) acc σ e4 e3 hI (fun τ3 d => τ3 L = some (.lst acc) ∧ acc.length < sizeLine ∧ G (acc ++ [d]) (tset τ3 L (.lst (acc ++ [d])))) fun d σ' hs hI' => ?_
      refine ⟨tset_same, ?_, hG _ _ ?_⟩
      · have : l.length = pre.length + (post.length + 1) := by rw [e1]; simp
        omega
      · rw [tset_tset]
        exact ⟨pre ++ [c], post, σ', by rw [e1]; simp, rfl, by simp [e3], hs, rfl, by simpa using hI'⟩
  · obtain ⟨pre, post, σ, e1, e2, e3, e4, e5, hI⟩ := hI
    have : post = [] := by simpa using e2.symm
    subst this
    rw [List.append_nil] at e1
    subst e1 e5
    exact ⟨tset_same, fin acc σ e4 e3 hI⟩
theorem ρLstO_seq {τ : TD} {x : D} {k : DK} : ρLstO τ [x] k = onSome (seqAt τ x) fun ys => k τ (.lst ys) := by
  cases x with
  | ref a =>
    simp only [ρLstO, seqAt, lstAt]
    cases τ a with
    | none => rfl
    | some o => cases o <;> rfl
  | _ => rfl
theorem ρTupO_ref {τ : TD} {p : Addr} {k : DK} : ρTupO τ [.ref p] k = onSome (lstAt τ p) fun ys => k τ (.tup ys) := by
  simp only [ρTupO, lstAt]
  cases τ p with
  | none => rfl
  | some o => cases o <;> rfl
theorem Fin.lst' {k : DK} {τ τ' : TD} {L : Addr} {xs : List D} (s : Sub τ τ') (h : lstAt τ' L = some xs) (hL : τ L = none) (hk : k τ (.lst xs)) : Fin k τ' (.ref L) := ⟨τ, .lst xs, s, .lst (lstAt_iff h) hL (frzs_refl xs), hk⟩
theorem Fin.sub {k : DK} {τ τ' : TD} {d : D} (s : Sub τ τ') (hk : k τ d) : Fin k τ' d := ⟨τ, d, s, .same _, hk⟩
theorem map_erase {α β : Type} (g : α → β) : ∀ (l : List α) (n : Nat), (l.map g).eraseIdx n = (l.eraseIdx n).map g
  | [], n => by simp
  | a :: l, 0 => rfl
  | a :: l, n + 1 => by simp [map_erase g l n]
theorem perm_erase {α : Type} : ∀ (l : List α) (n : Nat) (h : n < l.length), (l[n] :: l.eraseIdx n).Perm l
  | a :: l, 0, _ => List.Perm.refl _
  | a :: l, n + 1, h => by
    have q := perm_erase l n (by simpa using h)
    simp only [List.getElem_cons_succ, List.eraseIdx_cons_succ]
    exact (List.Perm.swap _ _ _).trans (q.cons a)
theorem cutD_take {xs : List D} {k : Int} (h : 0 ≤ k) : cutD xs none (some k) = xs.take k.toNat := by
  obtain ⟨n, rfl⟩ := Int.eq_ofNat_of_zero_le h
  unfold cutD
  rw [show HT.sIx xs.length 0 none = 0 from rfl, HT.sIx_nat, List.drop_zero, Nat.sub_zero, Int.toNat_natCast]
  by_cases c : n ≤ xs.length
  · rw [Nat.min_eq_left c]
  · rw [Nat.min_eq_right (by omega), List.take_length, List.take_of_length_le (by omega)]
theorem cutD_drop {xs : List D} {k : Int} (h : 0 ≤ k) : cutD xs (some k) none = xs.drop k.toNat := by
  obtain ⟨n, rfl⟩ := Int.eq_ofNat_of_zero_le h
  unfold cutD
  rw [show HT.sIx xs.length xs.length none = xs.length from rfl, HT.sIx_nat, Int.toNat_natCast]
  by_cases c : n ≤ xs.length
  · rw [Nat.min_eq_left c, List.take_of_length_le (by simp)]
  · rw [Nat.min_eq_right (by omega), List.drop_length, List.drop_of_length_le (by omega)]; simp
theorem cutD_mid {xs : List D} {a b : Int} (h : 0 ≤ a) (hb : 0 ≤ b) : cutD xs (some a) (some b) = (xs.drop a.toNat).take (b.toNat - a.toNat) := by
  obtain ⟨m, rfl⟩ := Int.eq_ofNat_of_zero_le h
  obtain ⟨n, rfl⟩ := Int.eq_ofNat_of_zero_le hb
  unfold cutD
  rw [HT.sIx_nat, HT.sIx_nat, Int.toNat_natCast, Int.toNat_natCast]
  by_cases c : m ≤ xs.length
  · rw [Nat.min_eq_left c]
    by_cases d : n ≤ xs.length
    · rw [Nat.min_eq_left d]
    · rw [Nat.min_eq_right (by omega), List.take_of_length_le (by simp), List.take_of_length_le (by simp; omega)]
  · rw [Nat.min_eq_right (by omega : xs.length ≤ m), List.drop_length, List.drop_of_length_le (by omega)]; simp
theorem nodup_map {α β : Type} {f : α → β} {l : List α} (h : ∀ a b, f a = f b → a = b) (hl : l.Nodup) : (l.map f).Nodup := by
  unfold List.Nodup at *
  rw [List.pairwise_map]
  exact hl.imp fun hab e => hab (h _ _ e)
theorem szl {n : Nat} (h : n ≤ 1000) : (n ≤ sizeLine) = True := eq_true (by rw [sizeLine_eq]; omega)
/-- .. and may leave items out -/
theorem lc_stf {γ : DG} {η : DT} {δ : DE} {ws : List Nat} {ds : Sl} {τ0 : TD} {k : TD → List D → Prop} {L : Addr} {α : Type} {l : List α} {g : α → D} (I : Nat → List D → TD → Prop) (hz : l.length ≤ sizeLine) (hL : τ0 L = none) (h0 : I 0 [] τ0)
    (step : ∀ i c, l[i]? = some c → ∀ acc σ, σ L = none → acc.length ≤ i → I i acc σ → ∀ (G1 : TD → D → Prop) (G2 : TD → Prop), (∀ d σ', σ' L = none → I (i + 1) (acc ++ [d]) σ' → G1 (tset σ' L (.lst acc)) d) → (∀ σ', σ' L = none → I (i + 1) acc σ' → G2 (tset σ' L (.lst acc))) →
      γ (g c) (tset σ L (.lst acc)) (wipeD ds ws) fun τ1 ds1 => η τ1 ds1 fun τ2 b => if b = true then δ τ2 ds1 fun τ3 d => G1 τ3 d else G2 τ2)
    (fin : ∀ acc σ, σ L = none → acc.length ≤ l.length → I l.length acc σ → k (tset σ L (.lst acc)) acc) : dLcL γ η δ ws ds L k (l.map g) [] (tset τ0 L (.lst [])) := by
  refine lc_ind (fun r acc τ => ∃ (pre post : List α) (σ : TD), l = pre ++ post ∧ r = post.map g ∧ acc.length ≤ pre.length ∧ σ L = none ∧ τ = tset σ L (.lst acc) ∧ I pre.length acc σ) (fun x r acc τ hI G hG => ?_) (fun acc τ hI => ?_) (l.map g) [] _ ⟨[], l, τ0, rfl, rfl, Nat.le_refl _, hL, rfl, h0⟩
  · obtain ⟨pre, post, σ, e1, e2, e3, e4, e5, hI⟩ := hI
    cases post with
    | nil => cases e2
    | cons c post =>
      have e6 : x = g c ∧ r = post.map g := by simpa using e2
      obtain ⟨e6, e7⟩ := e6
      subst e6 e7 e5
      refine step pre.length c (by rw [e1]; simp) acc σ e4 e3 hI (fun τ3 d => τ3 L = some (.lst acc) ∧ acc.length < sizeLine ∧ G (acc ++ [d]) (tset τ3 L (.lst (acc ++ [d])))) (fun τ2 => G acc τ2) (fun d σ' hs hI' => ?_) (fun σ' hs hI' => ?_)
      · refine ⟨tset_same, ?_, hG _ _ ?_⟩
        · have : l.length = pre.length + (post.length + 1) := by rw [e1]; simp
          omega
        · rw [tset_tset]
          exact ⟨pre ++ [c], post, σ', by rw [e1]; simp, rfl, by simp; omega, hs, rfl, by simpa using hI'⟩
      · exact hG _ _ ⟨pre ++ [c], post, σ', by rw [e1]; simp, rfl, by simp; omega, hs, rfl, by simpa using hI'⟩
  · obtain ⟨pre, post, σ, e1, e2, e3, e4, e5, hI⟩ := hI
    have : post = [] := by simpa using e2.symm
    subst this
    rw [List.append_nil] at e1
    subst e1 e5
    exact ⟨tset_same, fin acc σ e4 e3 hI⟩
end DL

set_option Elab.async false
set_option linter.all false
set_option maxRecDepth 100000
set_option maxHeartbeats 2000000
/-! The data layer, 14: enumerate of tuples and of lists. -/
namespace DL
open PySem PySem.Spec PyProof.Rows L2 DX
open PySem.Sem (wp)
/-- enumerate(t), its cells -/
theorem new_enumT (tt : Addr) (vs : Array Value) :
    Meets (Builtin.«enumerate.__new__» ⟨[.type "enumerate", .ref tt], []⟩) (fun _ RR sh => sh.heap.IsTuple tt vs ∧
      RR (.ok (.ret (.ref (sh.heap.push { cls := .type "tuple_iterator", data := .fields #[.ref tt, .int 0 0] }).objs.size)))
        { sh with heap := (sh.heap.push { cls := .type "tuple_iterator", data := .fields #[.ref tt, .int 0 0] }).push { cls := .type "enumerate", data := .fields #[.none, .bool false, .ref sh.heap.objs.size, rawInt 0, .none, .none] } }) :=
  .of_wp fun pp ww AA RR sh hh => by
    obtain ⟨hq, gg, dd, kk, oo⟩ := sh; obtain ⟨ht, hh⟩ := hh
    have sub1 := sub_enumerate
    have gt : ∀ {A' : Around} {E : Value → Shared → Prop} {Q : Value → Shared → Prop}, Q (.ref hq.objs.size) ⟨hq.push { cls := .type "tuple_iterator", data := .fields #[.ref tt, .int 0 0] }, gg, dd, kk, oo⟩ → wpAny (model pp ww) A' (pyIter (.ref tt)) Q E ⟨hq, gg, dd, kk, oo⟩ :=
      fun qq => (begins_tuple tt vs).iter pp ww _ _ ⟨hq, gg, dd, kk, oo⟩ _ ht qq
    wp_walk using gt
    refine wpAny_stack_any fun _ => wpAny_pure ?_
    split
    · rename_i c _ _ _ _ _
      cases (c == Value.type "enumerate") <;> (wp_walk using gt; exact ⟨_, rfl, hh⟩)
    · wp_walk using gt
      exact ⟨_, rfl, hh⟩
theorem mk_enumT {pp : Program} {ww : World} {AA : Around} {EE : Value → Shared → Prop} {sh : Shared} {tt : Addr} {vs : Array Value} {QQ : Value → Shared → Prop} (ht : sh.heap.IsTuple tt vs)
    (hh : ∀ hn, IsEnum hn (sh.heap.objs.size + 1) sh.heap.objs.size 0 .none → hn.IsTupleIter sh.heap.objs.size tt 0 → hn.objs.size = sh.heap.objs.size + 2 →
      (∀ x ob, sh.heap.get? x = some ob → hn.get? x = some ob) → QQ (.ref (sh.heap.objs.size + 1)) { sh with heap := hn }) :
    wpAny (model pp ww) AA (call (.type "enumerate") [.ref tt]) QQ EE sh := by
  refine callType_new F.called_enumerate (by decide) (F.typeCall_enumerate_1 _) (F.newCall_enumerate_1 _) (fun ob => F.args_object_init_2 ob _) F.entry_enumerate_new (new_enumT tt vs) ⟨ht, ?_⟩
  generalize ei : ({ cls := .type "tuple_iterator", data := .fields #[.ref tt, .int 0 0] } : Obj) = oi
  have fi : oi.isFreed = false := by rw [← ei]; rfl
  have zz : (sh.heap.push oi).objs.size = sh.heap.objs.size + 1 := Heap.size_push ..
  show _ ∧ _
  rw [zz]
  generalize eo : ({ cls := .type "enumerate", data := .fields #[.none, .bool false, .ref sh.heap.objs.size, rawInt 0, .none, .none] } : Obj) = oe
  have fe : oe.isFreed = false := by rw [← eo]; rfl
  have ge : ((sh.heap.push oi).push oe).get? (sh.heap.objs.size + 1) = some oe := by
    have q := Heap.get?_push_size (sh.heap.push oi) (o := oe) fe
    rwa [zz] at q
  have ge' : IsEnum ((sh.heap.push oi).push oe) (sh.heap.objs.size + 1) sh.heap.objs.size 0 .none := by rw [← eo] at ge ⊢; exact ge
  have gi : ((sh.heap.push oi).push oe).get? sh.heap.objs.size = some oi := Heap.get?_push_of_some _ (Heap.get?_push_size _ fi)
  exact ⟨⟨_, ge', rfl⟩, hh _ ge' ⟨_, gi, by rw [← ei], by rw [← ei]; rfl⟩ (by rw [Heap.size_push, zz]) fun x ob e => Heap.get?_push_of_some _ (Heap.get?_push_of_some _ e)⟩
/-- the tuple at a, each item in a new pair with its place -/
def IteT (K : PySem.W.Frag) (a : Addr) : It where
  go := fun n H => ∃ (l : List V) (y : V), SqT K H a l ∧ l[n]? = some y
  yld := fun n H v H' => ∃ p y, v = .ref p ∧ H p = none ∧ H' = upd H p (.tup [.int (n : Nat), y]) ∧ ∀ l, SqT K H a l → l[n]? = some y
  stop := fun n H => ∃ l : List V, SqT K H a l ∧ l.length = n
theorem turn_enumT {P : Program} {w : World} {K : PySem.W.Frag} {es : List Expr} {kk : Nat} {pp : Pos} {a e2 t2 : Addr} (ne2 : e2 ≠ t2) (na : a ≠ t2) (nb : a ≠ e2) :
    Turn P w K (.Tuple es kk pp) (IteT K a) [e2, t2] e2 (fun n hp => (∃ v0, IsEnum hp e2 t2 (n : Nat) v0) ∧ hp.IsTupleIter t2 a n) where
  mem := List.mem_cons_self
  obj := fun n hp tn x hx => by
    obtain ⟨⟨v0, g1⟩, o2, g2, _, d2⟩ := tn
    rcases List.mem_cons.mp hx with rfl | hx
    · exact ⟨_, g1, fun v z => nomatch z⟩
    · rw [List.mem_singleton] at hx
      subst hx
      exact ⟨o2, g2, fun v z => by rw [d2] at z; cases z⟩
  keep := fun n hp hp' tn kp => ⟨tn.1.elim fun v0 g1 => ⟨v0, kp e2 List.mem_cons_self _ g1⟩, tn.2.at fun o z => kp t2 (List.mem_cons_of_mem _ List.mem_cons_self) o z⟩
  item := by
    intro X hP hw hK hc n pins s σ H E I hf tn hg
    subst hP hw hK
    obtain ⟨⟨v0, g1⟩, g2⟩ := tn
    obtain ⟨l, y, hl, hy⟩ := hg
    obtain ⟨us, rv, tp, _⟩ := I.tuple hl
    obtain ⟨u, hu, ru⟩ := rv.get hy
    have lt1 : e2 < s.heap.objs.size := Heap.lt_size g1
    have lt2 : t2 < s.heap.objs.size := by
      obtain ⟨_, z, _⟩ := g2
      exact Heap.lt_size z
    have hlt : n < us.toArray.size := by simpa using (List.getElem?_eq_some_iff.mp hu).1
    refine wpAny_pyNext_enum_itemD (Draws.tuple (A := X.A.in1) (show X.A.in1.handled = none from I.ok.hd hc) t2 a na us.toArray) g1 ⟨g2, tp⟩ hlt ne2 (by simp [ne2, Ne.symm nb]) fun x hp' tk px out st' nt sz kp => ?_
    have ex : x = u := by
      have : us[n]? = some x := by simpa using px
      rw [hu] at this; exact (Option.some.inj this).symm
    subst ex
    refine ⟨_, rfl, wpAny_letOwnedTupleGo_enum (s := { s with heap := hp', toks := tk + 1 }) out fun hp2 en2 sb => ?_⟩
    have nt2 := (sb.2 _ (Nat.ne_of_gt lt1)).trans nt
    have ok : ObjOk X.prog X.w (upd H s.heap.objs.size (.tup [.int (n : Nat), y])) hp2 s.heap.objs.size (.tup [.int (n : Nat), y]) :=
      ⟨by show 2 ≤ sizeLine; decide, [.int n tk, x], .cons ⟨_, rfl⟩ (.cons ru .nil), ⟨_, nt2, rfl, _, rfl⟩⟩
    have I2 : Inv X pins σ (upd H s.heap.objs.size (.tup [.int (n : Nat), y])) { s with heap := hp2, toks := tk + 1 } :=
      I.turnedNew (t' := tk + 1) (ch := [e2, t2]) (fun b ob hb z => (sb.2 b fun q => hb (by rw [q]; exact List.mem_cons_self)).trans (kp b ob (fun q => hb (by rw [q]; exact List.mem_cons_self)) (fun q => hb (by rw [q]; exact List.mem_cons_of_mem _ List.mem_cons_self)) z)) hf (Nat.le_refl _) ok
    refine ⟨.ref s.heap.objs.size, _, I2, rfl, ⟨_, y, rfl, I.hok.fresh (Nat.le_refl _), rfl, fun l' hl' => by rw [I.tuple_inj hl' hl]; exact hy⟩, ⟨⟨x, ?_⟩, st'.1.at fun o z => (sb.2 t2 (Ne.symm ne2)).trans z⟩, fun b hb => ?_⟩
    · have : (((n + 1 : Nat) : Int)) = (n : Int) + 1 := by omega
      rw [this]; exact en2
    · have : b < s.heap.objs.size := by
        rcases List.mem_cons.mp hb with rfl | hb
        · exact lt1
        · rw [List.mem_singleton] at hb
          rw [hb]; exact lt2
      rw [upd_ne (Nat.ne_of_lt this)]
      exact (hf b hb).1
  done := by
    intro X hP hw hK hc n pins s σ H E I hf tn hg
    subst hP hw hK
    obtain ⟨⟨v0, g1⟩, g2⟩ := tn
    obtain ⟨l, hl, hn⟩ := hg
    obtain ⟨us, rv, tp, _⟩ := I.tuple hl
    have lu : us.toArray.size = n := by have := rv.length; simp; omega
    obtain ⟨f0, f1, f2, f3, f4, f5⟩ := hf t2 (List.mem_cons_of_mem _ List.mem_cons_self)
    exact wpAny_pyNext_enum_endD (Draws.tuple (A := X.A.in1) (show X.A.in1.handled = none from I.ok.hd hc) t2 a na us.toArray) g1 (by rw [lu]; exact ⟨g2, tp⟩) fun hp' ex => ⟨rfl, I.turned (t' := s.toks) (fun b ob hb z => ex b ob hb z) f0 f1 f3 f4 f5⟩
  self := fun AA n sh QQ EE tn z => tn.1.elim fun v0 g1 => wpAny_pyIter_enum g1 z
def iEnumT (K : PySem.W.Frag) (ta : TA) : TI := fun σ H R => ta σ H fun vs H1 => ∃ a xs, vs = [.ref a] ∧ ((SqL K H1 a xs ∧ R (Ite K a) H1) ∨ (SqT K H1 a xs ∧ R (IteT K a) H1))
theorem pi_enumT {X : Cx} {e : Expr} {ta : TA} {p p2 p3 : Pos} {es : List Expr} {kk : Nat} (hg : Gl X "enumerate") (hm : X.mg "enumerate" = none) (ha : PA X [e] ta) (hs : starEach [e] X.env = [(false, eval e X.env)] := by rfl) :
    PI X (.Tuple es kk p3) (.Call (.Name "enumerate" p) [e] [] p2) (iEnumT X.K ta) := by
  refine ⟨fun pins s σ H R I h => ?_⟩
  refine Call_ (ld_blt I hg hm boot_enumerate (PyProof.Rows.callWith_type1 (thn (ha.run p2 pins s σ H _ I h) fun us s1 ⟨vs, H1, I1, r1, a, xs, ex, q⟩ => ?_) hs rfl))
  subst ex
  cases r1 with
  | cons r rr =>
    cases rr
    cases r
    have new : ∀ b, b = s1.heap.objs.size + 1 ∨ b = s1.heap.objs.size → s1.heap.objs.size ≤ b := fun b hb => by rcases hb with rfl | rfl <;> omega
    rcases q with ⟨hq, q⟩ | ⟨hq, q⟩
    · obtain ⟨us, rv, lp, _⟩ := I1.list hq
      refine call_enumerate_list lp.isList fun hn g1 g2 _ kp => wpAny_pyIter_enum g1 ⟨s1.heap.objs.size + 1, [s1.heap.objs.size + 1, s1.heap.objs.size], _, _, H1, rfl, I1.kept (t' := s1.toks) kp, turn_enum a _ _, ⟨⟨.none, g1⟩, g2, Nat.succ_ne_self _⟩, fun b hb => ?_, q⟩
      have := new b (by simpa using hb)
      exact I1.fpOk this (I1.hok.fresh this)
    · obtain ⟨us, rv, tp, _⟩ := I1.tuple hq
      have lt : a < s1.heap.objs.size := by
        obtain ⟨_, z, _⟩ := tp
        exact Heap.lt_size z
      refine mk_enumT tp fun hn g1 g2 _ kp => wpAny_pyIter_enum g1 ⟨s1.heap.objs.size + 1, [s1.heap.objs.size + 1, s1.heap.objs.size], _, _, H1, rfl, I1.kept (t' := s1.toks) kp, turn_enumT (Nat.succ_ne_self _) (Nat.ne_of_lt lt) (Nat.ne_of_lt (Nat.lt_succ_of_lt lt)), ⟨⟨.none, g1⟩, g2⟩, fun b hb => ?_, q⟩
      have := new b (by simpa using hb)
      exact I1.fpOk this (I1.hok.fresh this)
theorem walk_enumT {K : PySem.W.Frag} {a : Addr} {xs : List V} : Walk (IteT K a) xs.length (fun H => SqT K H a xs) (YPair (fun i => some (.int (i : Nat))) (fun i => xs[i]?)) := by
  refine ⟨fun i _ hi q => ⟨xs, xs[i], q, by simp [hi]⟩, fun _ q => ⟨xs, q, rfl⟩, fun i H v H' _ q y => ?_⟩
  obtain ⟨p, z, h1, h2, h3, h4⟩ := y
  exact ⟨p, .int (i : Nat), z, h1, h2, h3, rfl, h4 xs q⟩
section
variable {T : List (Addr × Str)} {X : Cx} {E : XK} {KE : XD} {a : Expr} {δs : DA}
/-- pairs of place and item -/
def enumD (xs : List D) : List D := xs.zipIdx.map fun p => .tup [.int (p.2 : Nat), p.1]
theorem enumD_get {xs : List D} {i : Nat} {d : D} (h : xs[i]? = some d) : (enumD xs)[i]? = some (.tup [.int (i : Nat), d]) := by
  simp [enumD, h]
theorem enum_yld {K : PySem.W.Frag} {vs : List V} {xs : List D} {τ2 : TD} {H2 H3 : Hp} {i : Nat} {x : V} (j : J K T τ2 H2) (r1 : DRs K τ2 H2 xs vs) (y : YPair (fun i => some (.int (i : Nat))) (fun i => vs[i]?) i H2 x H3) :
    ∃ d, (enumD xs)[i]? = some d ∧ Ext τ2 H2 τ2 H3 ∧ J K T τ2 H3 ∧ DR K τ2 H3 d x := by
  obtain ⟨p, u, v, rfl, hp, rfl, e1, e2⟩ := y
  cases e1
  obtain ⟨d, hd, rd⟩ := r1.getV e2
  exact ⟨_, enumD_get hd, .new hp, j.new hp, p, _, rfl, .inl ⟨.of upd_same, j.free hp⟩, .int (i : Nat), [v], rfl, rfl, v, [], rfl, rd.ext (.new hp), rfl⟩
def ιEnum (δs : DA) : DI := fun τ ds k => δs τ ds fun τ1 es => match es with
  | [.tup xs] => k τ1 (enumD xs)
  | [.lst xs] => k τ1 (enumD xs)
  | _ => False
theorem pdi_enum {es : List Expr} {kk : Nat} {p p3 p2 : Pos} (hg : Gl X "enumerate") (hm : X.mg "enumerate" = none) (ha : PDA T X E KE [a] δs) (hs : starEach [a] X.env = [(false, eval a X.env)] := by rfl) : PDI T X E KE (.Tuple es kk p3) (.Call (.Name "enumerate" p) [a] [] p2) (ιEnum δs) := by
  obtain ⟨t, h1, s1⟩ := ha.ex
  have ln : ∀ {xs : List D}, (enumD xs).length = xs.length := fun {xs} => by simp [enumD]
  refine ⟨_, pi_enumT hg hm h1 hs, fun σ H τ ds k R j s h xo q => s1 σ H τ ds _ _ j s h xo fun vs τ1 H1 es e1 j1 r1 k1 => ?_⟩
  match es, k1, r1 with
  | [.tup xs], k1, r1 =>
    obtain ⟨v, u, ev, ⟨l1, us, eu, a1, b1⟩, er⟩ := r1
    have er : u = [] := er
    subst er eu ev
    exact ⟨l1, us, rfl, .inr ⟨a1.sq, q _ _ τ1 H1 e1 j1 ⟨_, _, by rw [ln, ← b1.length]; exact walk_enumT, fun τ2 H2 e => (a1.ext e).sq, fun i τ2 H2 x H3 e j y => enum_yld j (b1.ext e) y⟩ k1⟩⟩
  | [.lst xs], k1, r1 =>
    obtain ⟨v, u, ev, ⟨l1, us, eu, a1, b1⟩, er⟩ := r1
    have er : u = [] := er
    subst er eu ev
    exact ⟨l1, us, rfl, .inl ⟨a1.sq, q _ _ τ1 H1 e1 j1 ⟨_, _, by rw [ln, ← b1.length]; exact walk_enum, fun τ2 H2 e => (a1.ext e).sq, fun i τ2 H2 x H3 e j y => enum_yld j (b1.ext e) y⟩ k1⟩⟩
def onSq (x : List D) (f : List D → Prop) : Prop := match x with
  | [.tup xs] => f xs
  | [.lst xs] => f xs
  | _ => False
theorem ιEnum_eq {δ : DE} {τ : TD} {ds : Sl} {ki : TD → List D → Prop} : ιEnum (dCons δ dNil) τ ds ki = δ τ ds fun τ1 x => onSq [x] fun xs => ki τ1 (enumD xs) := by
  unfold ιEnum dCons dNil
  first | rfl | (congr 1; funext τ1 x; cases x <;> rfl)
theorem onSq_tup {xs : List D} {f : List D → Prop} : onSq [.tup xs] f = f xs := rfl
theorem onSq_lst {xs : List D} {f : List D → Prop} : onSq [.lst xs] f = f xs := rfl
theorem enumD_map {α : Type} (g : α → D) (l : List α) : enumD (l.map g) = l.zipIdx.map fun p => .tup [.int (p.2 : Nat), g p.1] := by
  simp [enumD, List.zipIdx_map, Function.comp_def]
end
/-! ### a mutable list becomes still in the midst of a def -/
def FrzSl (τ τ' : TD) (ds es : Sl) : Prop := ds.length = es.length ∧ ∀ (i : Nat) (e : D), es[i]? = some (some e) → ∃ d, ds[i]? = some (some d) ∧ Frz τ τ' d e
theorem FrzSl.refl (τ τ' : TD) (ds : Sl) : FrzSl τ τ' ds ds := ⟨rfl, fun i e h => ⟨e, h, .same e⟩⟩
theorem FrzSl.ok {K : PySem.W.Frag} {T : List (Addr × Str)} {τ τ' : TD} {H : Hp} {ds es : Sl} {σ : L2.St} (j : J K T τ H) (s : Sub τ' τ) (f : FrzSl τ τ' ds es) (r : SR K τ H ds σ) : SR K τ' H es σ := by
  refine ⟨f.1.symm.trans r.len, fun i e h => ?_⟩
  obtain ⟨d, h1, h2⟩ := f.2 i e h
  obtain ⟨v, h3, h4⟩ := r.at_ i d h1
  exact ⟨v, h3, h2.ok j s h4⟩
def dFrz (ε : DS) : DS := fun F τ ds => ∃ τ' es, Sub τ' τ ∧ FrzSl τ τ' ds es ∧ ε F τ' es
theorem ext_sub {τ τ' : TD} {H : Hp} (s : Sub τ' τ) : Ext τ H τ' H := ⟨fun _ _ h _ _ => h, fun _ _ _ t _ => s.none t, fun _ _ _ t _ => s.still t⟩
theorem sub_ext {τ τ' τ2 : TD} {H H2 : Hp} (s : Sub τ' τ) (e : Ext τ' H τ2 H2) : Ext τ H τ2 H2 := (ext_sub s).trans e
section
variable {T : List (Addr × Str)} {X : Cx} {E : XK} {KE : XD} {st : Stmt} {sts : List Stmt} {ε : DS}
theorem pds_frz (h : PDS T X E KE st ε) : PDS T X E KE st (dFrz ε) := by
  obtain ⟨t, h1, s1⟩ := h.ex
  refine ⟨t, h1, fun σ H τ ds F D' j s h xo eo => ?_⟩
  obtain ⟨τ', es, sb, fz, h⟩ := h
  exact s1 σ H τ' es F D' (j.sub sb) (fz.ok j sb s) h (xo.ext (ext_sub sb)) (eo.ext (ext_sub sb))
end
theorem dFrz_no {ε : DS} {F : EndsD} {τ : TD} {ds : Sl} (h : ε F τ ds) : dFrz ε F τ ds := ⟨τ, ds, .refl _, .refl _ _ _, h⟩
/-- the list at p, in slot i, becomes still -/
theorem dFrz_lst {ε : DS} {F : EndsD} {τ τ' : TD} {ds : Sl} {p : Addr} {xs : List D} (i : Nat) (s : Sub τ' τ) (h1 : lstAt τ p = some xs) (h2 : τ' p = none) (hi : ds[i]? = some (some (.ref p))) (h : ε F τ' (ds.set i (some (.lst xs)))) : dFrz ε F τ ds := by
  refine ⟨τ', _, s, ⟨by simp, fun k e hk => ?_⟩, h⟩
  by_cases c : k = i
  · subst c
    have hl := (List.getElem?_eq_some_iff.mp hi).1
    rw [List.getElem?_set_self hl] at hk
    cases hk
    exact ⟨_, hi, .lst (lstAt_iff h1) h2 (frzs_refl xs)⟩
  · rw [List.getElem?_set_ne (Ne.symm c)] at hk
    exact ⟨e, hk, .same e⟩
end DL

set_option Elab.async false
set_option linter.all false
set_option maxRecDepth 100000
set_option maxHeartbeats 1000000
/-! The data layer, 15: dicts. -/
namespace DL
open PySem PySem.Spec PyProof.Rows L2 DX
/-! ### keys, pairs -/
def keyOf : D → Option Key
  | .int i => some (.inl i)
  | .str s => some (.inr s)
  | _ => none
def keysOf : List D → Option (List Key)
  | [] => some []
  | d :: ds => match keyOf d, keysOf ds with
    | some k, some ks => some (k :: ks)
    | _, _ => none
section
variable {κ : Type} [DecidableEq κ]
def lookD (kvs : List (κ × D)) (k : κ) : Option D := (kvs.find? fun p => decide (p.1 = k)).map (·.2)
def putD (kvs : List (κ × D)) (k : κ) (d : D) : List (κ × D) := if (kvs.any fun p => decide (p.1 = k)) = true then kvs.map (fun p => if p.1 = k then (p.1, d) else p) else kvs ++ [(k, d)]
def delD (kvs : List (κ × D)) (k : κ) : List (κ × D) := kvs.filter fun p => decide (p.1 ≠ k)
abbrev PrD (K : PySem.W.Frag) (τ : TD) (H : Hp) : List (κ × D) → List (κ × V) → Prop := Paired fun p q => p.1 = q.1 ∧ DR K τ H p.2 q.2
variable {K : PySem.W.Frag} {τ τ' : TD} {H H' : Hp} {kvs : List (κ × D)} {kv : List (κ × V)}
theorem PrD.ext (h : PrD K τ H kvs kv) (e : Ext τ H τ' H') : PrD K τ' H' kvs kv := paired_map h fun _ _ z => ⟨z.1, z.2.ext e⟩
theorem PrD.len (h : PrD K τ H kvs kv) : kv.length = kvs.length := by
  induction h with
  | nil => rfl
  | cons _ _ ih => simp [ih]
theorem PrD.look (h : PrD K τ H kvs kv) (k : κ) : (∀ d, lookD kvs k = some d → ∃ v, valV kv k = some v ∧ DR K τ H d v) ∧ (lookD kvs k = none → valV kv k = none) := by
  induction h with
  | nil => exact ⟨fun d z => by simp [lookD] at z, fun _ => rfl⟩
  | cons r _ ih =>
    rename_i p q l m _
    obtain ⟨r1, r2⟩ := r
    by_cases c : p.1 = k
    · have c2 : q.1 = k := r1 ▸ c
      refine ⟨fun d z => ?_, fun z => ?_⟩
      · simp [lookD, List.find?_cons, c] at z
        subst z
        exact ⟨q.2, valV_pos c2, r2⟩
      · simp [lookD, List.find?_cons, c] at z
    · have c2 : ¬ q.1 = k := r1 ▸ c
      have e1 : lookD (p :: l) k = lookD l k := by simp [lookD, List.find?_cons, c]
      rw [e1, valV_neg c2]
      exact ih
theorem PrD.any (h : PrD K τ H kvs kv) (k : κ) : (kvs.any fun p => decide (p.1 = k)) = kv.any fun p => decide (p.1 = k) := by
  induction h with
  | nil => rfl
  | cons r _ ih => simp only [List.any_cons, ih, r.1]
theorem PrD.setA (h : PrD K τ H kvs kv) (k : κ) {d : D} {v : V} (r : DR K τ H d v) : PrD K τ H (kvs.map fun p => if p.1 = k then (p.1, d) else p) (kv.map fun q => if q.1 = k then (q.1, v) else q) := by
  induction h with
  | nil => exact .nil
  | cons r1 _ ih =>
    simp only [List.map_cons]
    refine .cons ?_ ih
    rw [r1.1]
    split
    · exact ⟨rfl, r⟩
    · exact r1
theorem PrD.snoc (h : PrD K τ H kvs kv) (k : κ) {d : D} {v : V} (r : DR K τ H d v) : PrD K τ H (kvs ++ [(k, d)]) (kv ++ [(k, v)]) := by
  induction h with
  | nil => exact .cons ⟨rfl, r⟩ .nil
  | cons r1 _ ih => exact .cons r1 ih
theorem PrD.put (h : PrD K τ H kvs kv) (k : κ) {d : D} {v : V} (r : DR K τ H d v) : PrD K τ H (putD kvs k d) (putK kv k v) := by
  unfold putD putK
  rw [h.any k]
  split
  · exact h.setA k r
  · exact h.snoc k r
theorem PrD.del (h : PrD K τ H kvs kv) (k : κ) : PrD K τ H (delD kvs k) (dropK kv k) := by
  unfold delD dropK
  induction h with
  | nil => exact .nil
  | cons r1 _ ih =>
    simp only [List.filter_cons, r1.1]
    split
    · exact .cons r1 ih
    · exact ih
theorem PrD.get (h : PrD K τ H kvs kv) {i : Nat} {q : κ × V} (e : kv[i]? = some q) : ∃ p, kvs[i]? = some p ∧ p.1 = q.1 ∧ DR K τ H p.2 q.2 := by
  induction h generalizing i with
  | nil => simp at e
  | cons r1 _ ih =>
    cases i with
    | zero => simp only [List.getElem?_cons_zero, Option.some.injEq] at e; subst e; exact ⟨_, by simp, r1⟩
    | succ i => simp only [List.getElem?_cons_succ] at e ⊢; exact ih e
end
section
variable {K : PySem.W.Frag} {τ : TD} {H : Hp}
theorem keyOf_ok {d : D} {v : V} {k : Key} (r : DR K τ H d v) (h : keyOf d = some k) : v = kV k := by
  cases d <;> cases h <;> exact r
theorem keysOf_ok : ∀ {ds : List D} {vs : List V} {ks : List Key}, DRs K τ H ds vs → keysOf ds = some ks → vs = ks.map kV
  | [], vs, ks, r, h => by
    cases h
    exact r
  | d :: ds, vs, ks, r, h => by
    obtain ⟨v, w, e, r1, r2⟩ := r
    unfold keysOf at h
    split at h
    · rename_i k ks' h1 h2
      cases h
      rw [e, keyOf_ok r1 h1, keysOf_ok r2 h2]; rfl
    · cases h
end
/-! ### what the dict at a holds -/
def dkAt (τ : TD) (a : Addr) : Option (List (Key × D)) := match τ a with
  | some (.dK kvs) => some kvs
  | some (.lK kvs) => some kvs
  | _ => none
def dtAt (τ : TD) (a : Addr) : Option (List (List Key × D)) := match τ a with
  | some (.dT kvs) => some kvs
  | some (.lT kvs) => some kvs
  | _ => none
def dkW (τ : TD) (a : Addr) : Option (List (Key × D)) := match τ a with
  | some (.dK kvs) => some kvs
  | _ => none
def dtW (τ : TD) (a : Addr) : Option (List (List Key × D)) := match τ a with
  | some (.dT kvs) => some kvs
  | _ => none
theorem dkW_iff {τ : TD} {a : Addr} {kvs} (h : dkW τ a = some kvs) : τ a = some (.dK kvs) := by
  unfold dkW at h; split at h
  · cases h; assumption
  · cases h
theorem dtW_iff {τ : TD} {a : Addr} {kvs} (h : dtW τ a = some kvs) : τ a = some (.dT kvs) := by
  unfold dtW at h; split at h
  · cases h; assumption
  · cases h
theorem dkAt_of {τ : TD} {a : Addr} {kvs} (h : τ a = some (.dK kvs)) : dkAt τ a = some kvs := by unfold dkAt; rw [h]
theorem dtAt_of {τ : TD} {a : Addr} {kvs} (h : τ a = some (.dT kvs)) : dtAt τ a = some kvs := by unfold dtAt; rw [h]
theorem dkW_of {τ : TD} {a : Addr} {kvs} (h : τ a = some (.dK kvs)) : dkW τ a = some kvs := by unfold dkW; rw [h]
theorem dtW_of {τ : TD} {a : Addr} {kvs} (h : τ a = some (.dT kvs)) : dtW τ a = some kvs := by unfold dtW; rw [h]
theorem dkAt_same {τ : TD} {a : Addr} {kvs} : dkAt (tset τ a (.dK kvs)) a = some kvs := dkAt_of tset_same
theorem dtAt_same {τ : TD} {a : Addr} {kvs} : dtAt (tset τ a (.dT kvs)) a = some kvs := dtAt_of tset_same
theorem dkW_same {τ : TD} {a : Addr} {kvs} : dkW (tset τ a (.dK kvs)) a = some kvs := dkW_of tset_same
theorem dtW_same {τ : TD} {a : Addr} {kvs} : dtW (tset τ a (.dT kvs)) a = some kvs := dtW_of tset_same
theorem dkAt_ne {τ : TD} {a b : Addr} {o : DO} (h : b ≠ a) : dkAt (tset τ a o) b = dkAt τ b := by unfold dkAt; rw [tset_ne h]
theorem dtAt_ne {τ : TD} {a b : Addr} {o : DO} (h : b ≠ a) : dtAt (tset τ a o) b = dtAt τ b := by unfold dtAt; rw [tset_ne h]
theorem dkW_ne {τ : TD} {a b : Addr} {o : DO} (h : b ≠ a) : dkW (tset τ a o) b = dkW τ b := by unfold dkW; rw [tset_ne h]
theorem dtW_ne {τ : TD} {a b : Addr} {o : DO} (h : b ≠ a) : dtW (tset τ a o) b = dtW τ b := by unfold dtW; rw [tset_ne h]
section
variable {K : PySem.W.Frag} {T : List (Addr × Str)} {τ : TD} {H : Hp}
theorem dk_read (j : J K T τ H) {a : Addr} {kvs} (h : dkAt τ a = some kvs) : ∃ kv, Rd H a (.dK kv) ∧ PrD K τ H kvs kv := by
  unfold dkAt at h
  split at h
  · rename_i k e
    cases h
    obtain ⟨kv, h1, h2⟩ := j.obj a _ e
    exact ⟨kv, .of h1, h2⟩
  · rename_i k e
    cases h
    obtain ⟨o, kv, h1, h2⟩ := j.obj a _ e
    exact ⟨kv, .inr ⟨o, h1⟩, h2⟩
  · cases h
theorem dt_read (j : J K T τ H) {a : Addr} {kvs} (h : dtAt τ a = some kvs) : ∃ kv, Rd H a (.dT kv) ∧ PrD K τ H kvs kv := by
  unfold dtAt at h
  split at h
  · rename_i k e
    cases h
    obtain ⟨kv, h1, h2⟩ := j.obj a _ e
    exact ⟨kv, .of h1, h2⟩
  · rename_i k e
    cases h
    obtain ⟨o, kv, h1, h2⟩ := j.obj a _ e
    exact ⟨kv, .inr ⟨o, h1⟩, h2⟩
  · cases h
end
def onRef (x : D) (f : Addr → Prop) : Prop := match x with
  | .ref a => f a
  | _ => False
theorem onRef_eq {a : Addr} {f : Addr → Prop} : onRef (.ref a) f = f a := rfl
theorem onSome_ok {α : Type} {o : Option α} {f : α → Prop} (h : onSome o f) : ∃ a, o = some a ∧ f a := by
  cases o with
  | none => exact h.elim
  | some a => exact ⟨a, rfl, h⟩
theorem onRef_ok {x : D} {f : Addr → Prop} (h : onRef x f) : ∃ a, x = .ref a ∧ f a := by
  cases x <;> first | exact ⟨_, rfl, h⟩ | exact h.elim
section
variable {T : List (Addr × Str)} {X : Cx} {E : XK} {KE : XD} {o i e f : Expr} {es : List Expr} {pos : Pos} {δd δk δ δx : DE} {δs : DA}
/-! ### {} -/
def dNewK : DE := fun τ _ k => ∀ p, τ p = none → k (tset τ p (.dK [])) (.ref p)
def dNewT : DE := fun τ _ k => ∀ p, τ p = none → k (tset τ p (.dT [])) (.ref p)
theorem pd_newK : PD T X E KE (.Dict [] [] pos) dNewK := by
  refine ⟨_, pe_dnewK, fun σ H τ ds k Q j s h _ q p hp => ?_⟩
  exact q (.ref p) _ _ (.ref p) (.newM hp) (j.newM (u := .dK []) hp ⟨[], upd_same, .nil⟩) rfl (h p (j.free hp))
theorem pd_newT : PD T X E KE (.Dict [] [] pos) dNewT := by
  refine ⟨_, pe_dnewT, fun σ H τ ds k Q j s h _ q p hp => ?_⟩
  exact q (.ref p) _ _ (.ref p) (.newM hp) (j.newM (u := .dT []) hp ⟨[], upd_same, .nil⟩) rfl (h p (j.free hp))
/-! ### d[k] -/
def dGetK (δd δk : DE) : DE := fun τ ds k => δd τ ds fun τ1 x => δk τ1 ds fun τ2 y => onRef x fun a => onSome (dkAt τ2 a) fun kvs => onSome (keyOf y) fun key => onSome (lookD kvs key) fun d => k τ2 d
theorem pd_getK (hu : X.A.units + 64 < cLine) (ho : PD T X E KE o δd) (hi : PD T X E KE i δk) (hs : NoSl i := by exact fun _ _ => rfl) : PD T X E KE (.Subscript o i pos) (dGetK δd δk) := by
  obtain ⟨td, p1, s1⟩ := ho.ex
  obtain ⟨tk, p2, s2⟩ := hi.ex
  refine ⟨_, pe_dget (by omega) p1 p2 hs, fun σ H τ ds k Q j s h xo q => s1 σ H τ ds _ _ j s h xo fun v τ1 H1 x e1 j1 r1 k1 => s2 σ H1 τ1 ds _ _ j1 (s.ext e1) k1 (xo.ext e1) fun w τ2 H2 y e2 j2 r2 k2 => ?_⟩
  obtain ⟨a, rfl, k2⟩ := onRef_ok k2
  obtain ⟨kvs, h1, k2⟩ := onSome_ok k2
  obtain ⟨key, h2, k2⟩ := onSome_ok k2
  obtain ⟨d, h3, k2⟩ := onSome_ok k2
  obtain ⟨kv, rd, pr⟩ := dk_read j2 h1
  obtain ⟨u, h4, ru⟩ := (pr.look key).1 d h3
  exact ⟨a, u, r1, .inl ⟨kv, key, rd, keyOf_ok r2 h2, h4.symm⟩, q u τ2 H2 d (e1.trans e2) j2 ru k2⟩
/-! a key that is a tuple, written there -/
def dGetT (δd : DE) (δs : DA) : DE := fun τ ds k => δd τ ds fun τ1 x => δs τ1 ds fun τ2 ys => ys.length ≤ sizeLine ∧ onRef x fun a => onSome (dtAt τ2 a) fun kvs => onSome (keysOf ys) fun key => onSome (lookD kvs key) fun d => k τ2 d
theorem pd_getT {x1 : Nat} {tp : Pos} (hu : X.A.units + 64 < cLine) (ho : PD T X E KE o δd) (hi : PDA T X E KE es δs) (hs : NoSl (.Tuple es x1 tp) := by exact fun _ _ => rfl) : PD T X E KE (.Subscript o (.Tuple es x1 tp) pos) (dGetT δd δs) := by
  obtain ⟨td, p1, s1⟩ := ho.ex
  obtain ⟨tk, p2, s2⟩ := hi.ex
  refine ⟨_, pe_dget (by omega) p1 (pe_tup p2) hs, fun σ H τ ds k Q j s h xo q => s1 σ H τ ds _ _ j s h xo fun v τ1 H1 x e1 j1 r1 k1 => s2 σ H1 τ1 ds _ _ j1 (s.ext e1) k1 (xo.ext e1) fun w τ2 H2 ys e2 j2 r2 k2 => ⟨by rw [r2.length]; exact k2.1, fun p hp => ?_⟩⟩
  obtain ⟨kl, k2⟩ := k2
  obtain ⟨a, rfl, k2⟩ := onRef_ok k2
  obtain ⟨kvs, h1, k2⟩ := onSome_ok k2
  obtain ⟨key, h2, k2⟩ := onSome_ok k2
  obtain ⟨d, h3, k2⟩ := onSome_ok k2
  have e3 : Ext τ2 H2 τ2 (upd H2 p (.tup w)) := .new hp
  obtain ⟨kv, rd, pr⟩ := dt_read (j2.new (o := .tup w) hp) h1
  obtain ⟨u, h4, ru⟩ := (pr.look key).1 d h3
  have ew := keysOf_ok r2 h2
  exact ⟨a, u, r1, .inr ⟨kv, key, p, rd, rfl, by rw [upd_same, ew], h4.symm⟩, q u τ2 _ d ((e1.trans e2).trans e3) (j2.new hp) ru k2⟩
/-! ### k in d -/
def dInK (neg : Bool) (δk δd : DE) : DE := fun τ ds k => δk τ ds fun τ1 y => δd τ1 ds fun τ2 x => onRef x fun a => onSome (dkAt τ2 a) fun kvs => onSome (keyOf y) fun key => k τ2 (.bl (neg ^^ (lookD kvs key).isSome))
def dInT (neg : Bool) (δs : DA) (δd : DE) : DE := fun τ ds k => δs τ ds fun τ1 ys => ys.length ≤ sizeLine ∧ δd τ1 ds fun τ2 x => onRef x fun a => onSome (dtAt τ2 a) fun kvs => onSome (keysOf ys) fun key => k τ2 (.bl (neg ^^ (lookD kvs key).isSome))
theorem some_same {κ : Type} [DecidableEq κ] {K : PySem.W.Frag} {τ : TD} {H : Hp} {kvs : List (κ × D)} {kv : List (κ × V)} (pr : PrD K τ H kvs kv) (k : κ) : (valV kv k).isSome = (lookD kvs k).isSome := by
  cases e : lookD kvs k with
  | none => rw [(pr.look k).2 e]; rfl
  | some d => obtain ⟨v, h, _⟩ := (pr.look k).1 d e; rw [h]; rfl
theorem pd_inK (hu : X.A.units + 64 < cLine) (hi : PD T X E KE i δk) (ho : PD T X E KE o δd) (hm : behindInMarks .In o = false := by rfl) : PD T X E KE (.Compare i [.In] [o] pos) (dInK false δk δd) := by
  obtain ⟨tk, p2, s2⟩ := hi.ex
  obtain ⟨td, p1, s1⟩ := ho.ex
  refine ⟨_, pe_cmp (pc_din (by omega) p2 p1) hm, fun σ H τ ds k Q j s h xo q => s2 σ H τ ds _ _ j s h xo fun w τ1 H1 y e1 j1 r2 k1 => s1 σ H1 τ1 ds _ _ j1 (s.ext e1) k1 (xo.ext e1) fun v τ2 H2 x e2 j2 r1 k2 => ?_⟩
  obtain ⟨a, rfl, k2⟩ := onRef_ok k2
  obtain ⟨kvs, h1, k2⟩ := onSome_ok k2
  obtain ⟨key, h2, k2⟩ := onSome_ok k2
  obtain ⟨kv, rd, pr⟩ := dk_read j2 h1
  refine ⟨a, _, r1, .inl ⟨kv, key, rd, keyOf_ok (r2.ext e2) h2, rfl⟩, q _ τ2 H2 (.bl _) (e1.trans e2) j2 (by rw [some_same pr]; rfl) (by simpa using k2)⟩
theorem pd_ninK (hu : X.A.units + 64 < cLine) (hi : PD T X E KE i δk) (ho : PD T X E KE o δd) (hm : behindInMarks .NotIn o = false := by rfl) : PD T X E KE (.Compare i [.NotIn] [o] pos) (dInK true δk δd) := by
  obtain ⟨tk, p2, s2⟩ := hi.ex
  obtain ⟨td, p1, s1⟩ := ho.ex
  refine ⟨_, pe_cmp (pc_dnotin (by omega) p2 p1) hm, fun σ H τ ds k Q j s h xo q => s2 σ H τ ds _ _ j s h xo fun w τ1 H1 y e1 j1 r2 k1 => s1 σ H1 τ1 ds _ _ j1 (s.ext e1) k1 (xo.ext e1) fun v τ2 H2 x e2 j2 r1 k2 => ?_⟩
  obtain ⟨a, rfl, k2⟩ := onRef_ok k2
  obtain ⟨kvs, h1, k2⟩ := onSome_ok k2
  obtain ⟨key, h2, k2⟩ := onSome_ok k2
  obtain ⟨kv, rd, pr⟩ := dk_read j2 h1
  refine ⟨a, _, r1, .inl ⟨kv, key, rd, keyOf_ok (r2.ext e2) h2, rfl⟩, q _ τ2 H2 (.bl _) (e1.trans e2) j2 (by rw [some_same pr]; rfl) (by simpa using k2)⟩
theorem pd_inT {x1 : Nat} {tp : Pos} (hu : X.A.units + 64 < cLine) (hi : PDA T X E KE es δs) (ho : PD T X E KE o δd) (hm : behindInMarks .In o = false := by rfl) : PD T X E KE (.Compare (.Tuple es x1 tp) [.In] [o] pos) (dInT false δs δd) := by
  obtain ⟨tk, p2, s2⟩ := hi.ex
  obtain ⟨td, p1, s1⟩ := ho.ex
  refine ⟨_, pe_cmp (pc_din (by omega) (pe_tup p2) p1) hm, fun σ H τ ds k Q j s h xo q => s2 σ H τ ds _ _ j s h xo fun w τ1 H1 ys e1 j1 r2 k1 => ⟨by rw [r2.length]; exact k1.1, fun p hp => ?_⟩⟩
  have e3 : Ext τ1 H1 τ1 (upd H1 p (.tup w)) := .new hp
  refine s1 σ _ τ1 ds _ _ (j1.new hp) (s.ext (e1.trans e3)) k1.2 (xo.ext (e1.trans e3)) fun v τ2 H2 x e2 j2 r1 k2 => ?_
  obtain ⟨a, rfl, k2⟩ := onRef_ok k2
  obtain ⟨kvs, h1, k2⟩ := onSome_ok k2
  obtain ⟨key, h2, k2⟩ := onSome_ok k2
  obtain ⟨kv, rd, pr⟩ := dt_read j2 h1
  have hT : H2 p = some (.tup (key.map kV)) := by rw [← keysOf_ok r2 h2]; exact e2.keep p _ upd_same (.inl (j1.free hp)) (fun ps z => by cases z)
  exact ⟨a, _, r1, .inr ⟨kv, key, p, rd, rfl, hT, rfl⟩, q _ τ2 H2 (.bl _) ((e1.trans e3).trans e2) j2 (by rw [some_same pr]; rfl) (by simpa using k2)⟩
theorem pd_ninT {x1 : Nat} {tp : Pos} (hu : X.A.units + 64 < cLine) (hi : PDA T X E KE es δs) (ho : PD T X E KE o δd) (hm : behindInMarks .NotIn o = false := by rfl) : PD T X E KE (.Compare (.Tuple es x1 tp) [.NotIn] [o] pos) (dInT true δs δd) := by
  obtain ⟨tk, p2, s2⟩ := hi.ex
  obtain ⟨td, p1, s1⟩ := ho.ex
  refine ⟨_, pe_cmp (pc_dnotin (by omega) (pe_tup p2) p1) hm, fun σ H τ ds k Q j s h xo q => s2 σ H τ ds _ _ j s h xo fun w τ1 H1 ys e1 j1 r2 k1 => ⟨by rw [r2.length]; exact k1.1, fun p hp => ?_⟩⟩
  have e3 : Ext τ1 H1 τ1 (upd H1 p (.tup w)) := .new hp
  refine s1 σ _ τ1 ds _ _ (j1.new hp) (s.ext (e1.trans e3)) k1.2 (xo.ext (e1.trans e3)) fun v τ2 H2 x e2 j2 r1 k2 => ?_
  obtain ⟨a, rfl, k2⟩ := onRef_ok k2
  obtain ⟨kvs, h1, k2⟩ := onSome_ok k2
  obtain ⟨key, h2, k2⟩ := onSome_ok k2
  obtain ⟨kv, rd, pr⟩ := dt_read j2 h1
  have hT : H2 p = some (.tup (key.map kV)) := by rw [← keysOf_ok r2 h2]; exact e2.keep p _ upd_same (.inl (j1.free hp)) (fun ps z => by cases z)
  exact ⟨a, _, r1, .inr ⟨kv, key, p, rd, rfl, hT, rfl⟩, q _ τ2 H2 (.bl _) ((e1.trans e3).trans e2) j2 (by rw [some_same pr]; rfl) (by simpa using k2)⟩
/-! ### d[k] = v -/
def dPutK (δ δd δk : DE) : DS := fun F τ ds => δ τ ds fun τ1 v => δd τ1 ds fun τ2 x => δk τ2 ds fun τ3 y => onRef x fun a => onSome (dkW τ3 a) fun kvs => onSome (keyOf y) fun key => kvs.length < sizeLine ∧ F.nx (tset τ3 a (.dK (putD kvs key v))) ds
theorem pds_putK {p' : Pos} (hu : X.A.units + 64 < cLine) (hv : PD T X E KE e δ) (ho : PD T X E KE o δd) (hi : PD T X E KE i δk) (hs : swapsWith e (some (.Subscript o i p')) pos.line X.env = pure false := by rfl) : PDS T X E KE (.Assign [.Subscript o i p'] e pos) (dPutK δ δd δk) := by
  obtain ⟨te, p0, s0⟩ := hv.ex
  obtain ⟨td, p1, s1⟩ := ho.ex
  obtain ⟨tk, p2, s2⟩ := hi.ex
  refine ⟨_, ps_dput (by omega) p1 p2 p0 hs, fun σ H τ ds F D' j s h xo eo => s0 σ H τ ds _ _ j s h xo fun u τ1 H1 v e1 j1 r0 k1 => s1 σ H1 τ1 ds _ _ j1 (s.ext e1) k1 (xo.ext e1) fun w τ2 H2 x e2 j2 r1 k2 => s2 σ H2 τ2 ds _ _ j2 (s.ext (e1.trans e2)) k2 (xo.ext (e1.trans e2)) fun z τ3 H3 y e3 j3 r2 k3 => ?_⟩
  obtain ⟨a, rfl, k3⟩ := onRef_ok k3
  obtain ⟨kvs, h1, k3⟩ := onSome_ok k3
  obtain ⟨key, h2, k3⟩ := onSome_ok k3
  have h1 := dkW_iff h1
  obtain ⟨kv, g1, pr⟩ := j3.obj a _ h1
  have pr : PrD _ _ _ kvs kv := pr
  have ez := keyOf_ok r2 h2
  subst ez
  have ec : Ext τ3 H3 (tset τ3 a (.dK (putD kvs key v))) (upd H3 a (.dK (putK kv key u))) := .chg h1
  have r0' := ((r0.ext (e2.trans e3)).ext ec)
  have ee := (e1.trans (e2.trans e3)).trans ec
  exact ⟨a, _, r1, .k g1 (by rw [pr.len]; exact k3.1), eo.nx _ _ ds σ ee (j3.chg (u0 := .dK kvs) h1 ⟨_, upd_same, (pr.ext ec).put key r0'⟩) (s.ext ee) k3.2⟩
def dPutT (δ δd : DE) (δs : DA) : DS := fun F τ ds => δ τ ds fun τ1 v => δd τ1 ds fun τ2 x => δs τ2 ds fun τ3 ys => ys.length ≤ sizeLine ∧ onRef x fun a => onSome (dtW τ3 a) fun kvs => onSome (keysOf ys) fun key => kvs.length < sizeLine ∧ F.nx (tset τ3 a (.dT (putD kvs key v))) ds
theorem pds_putT {x1 : Nat} {tp p' : Pos} (hu : X.A.units + 64 < cLine) (hv : PD T X E KE e δ) (ho : PD T X E KE o δd) (hi : PDA T X E KE es δs) (hs : swapsWith e (some (.Subscript o (.Tuple es x1 tp) p')) pos.line X.env = pure false := by rfl) : PDS T X E KE (.Assign [.Subscript o (.Tuple es x1 tp) p'] e pos) (dPutT δ δd δs) := by
  obtain ⟨te, p0, s0⟩ := hv.ex
  obtain ⟨td, p1, s1⟩ := ho.ex
  obtain ⟨tk, p2, s2⟩ := hi.ex
  refine ⟨_, ps_dput (by omega) p1 (pe_tup p2) p0 hs, fun σ H τ ds F D' j s h xo eo => s0 σ H τ ds _ _ j s h xo fun u τ1 H1 v e1 j1 r0 k1 => s1 σ H1 τ1 ds _ _ j1 (s.ext e1) k1 (xo.ext e1) fun w τ2 H2 x e2 j2 r1 k2 => s2 σ H2 τ2 ds _ _ j2 (s.ext (e1.trans e2)) k2 (xo.ext (e1.trans e2)) fun z τ3 H3 ys e3 j3 r2 k3 => ⟨by rw [r2.length]; exact k3.1, fun p hp => ?_⟩⟩
  obtain ⟨kl, k3⟩ := k3
  obtain ⟨a, rfl, k3⟩ := onRef_ok k3
  obtain ⟨kvs, h1, k3⟩ := onSome_ok k3
  obtain ⟨key, h2, k3⟩ := onSome_ok k3
  have h1 := dtW_iff h1
  have ez := keysOf_ok r2 h2
  subst ez
  have e4 : Ext τ3 H3 τ3 (upd H3 p (.tup (key.map kV))) := .new hp
  have j4 := j3.new (o := .tup (key.map kV)) hp
  obtain ⟨kv, g1, pr⟩ := j4.obj a _ h1
  have pr : PrD _ _ _ kvs kv := pr
  have ec : Ext τ3 (upd H3 p (.tup (key.map kV))) (tset τ3 a (.dT (putD kvs key v))) (upd (upd H3 p (.tup (key.map kV))) a (.dT (putK kv key u))) := .chg h1
  have r0' := ((r0.ext ((e2.trans e3).trans e4)).ext ec)
  have ee := ((e1.trans (e2.trans e3)).trans e4).trans ec
  exact ⟨a, _, r1, .t g1 upd_same (by rw [pr.len]; exact k3.1), eo.nx _ _ ds σ ee (j4.chg (u0 := .dT kvs) h1 ⟨_, upd_same, (pr.ext ec).put key r0'⟩) (s.ext ee) k3.2⟩
/-! ### d[k] op= e -/
def dAugK (δd δk δ : DE) (ρ : D2) : DS := fun F τ ds => δd τ ds fun τ1 x => δk τ1 ds fun τ2 y => onRef x fun a => onSome (dkAt τ2 a) fun kvs => onSome (keyOf y) fun key => onSome (lookD kvs key) fun d => δ τ2 ds fun τ3 u => ρ τ3 d u fun τ4 z => onSome (dkW τ4 a) fun kvs' => kvs'.length < sizeLine ∧ F.nx (tset τ4 a (.dK (putD kvs' key z))) ds
theorem pds_augK {op : Operator} {rd : V → V → Hp → VK → Prop} {ρ : D2} {tpos : Pos} (hu : X.A.units + 64 < cLine) (ho : PD T X E KE o δd) (hi : PD T X E KE i δk) (hv : PD T X E KE e δ) (hop : InOp X op rd) (hr : R2ok X.K T rd ρ)
    (ha : ∀ ov iv new, augStore i ov iv new = (do holding [new, ov, iv] (setItem ov iv new); release [new, ov, iv] []; pure .next) := by exact fun _ _ _ => rfl) : PDS T X E KE (.AugAssign (.Subscript o i tpos) op e pos) (dAugK δd δk δ ρ) := by
  obtain ⟨te, p0, s0⟩ := hv.ex
  obtain ⟨td, p1, s1⟩ := ho.ex
  obtain ⟨tk, p2, s2⟩ := hi.ex
  refine ⟨_, ps_daug (by omega) p1 p2 p0 hop ha, fun σ H τ ds F D' j s h xo eo => s1 σ H τ ds _ _ j s h xo fun w τ1 H1 x e1 j1 r1 k1 => s2 σ H1 τ1 ds _ _ j1 (s.ext e1) k1 (xo.ext e1) fun z τ2 H2 y e2 j2 r2 k2 => ?_⟩
  obtain ⟨a, rfl, k2⟩ := onRef_ok k2
  obtain ⟨kvs, h1, k2⟩ := onSome_ok k2
  obtain ⟨key, h2, k2⟩ := onSome_ok k2
  obtain ⟨d, h3, k2⟩ := onSome_ok k2
  obtain ⟨kv, rd0, pr⟩ := dk_read j2 h1
  obtain ⟨u, h4, ru⟩ := (pr.look key).1 d h3
  have ez := keyOf_ok r2 h2
  subst ez
  refine ⟨a, u, r1, .inl ⟨kv, key, rd0, rfl, h4.symm⟩, s0 σ H2 τ2 ds _ _ j2 (s.ext (e1.trans e2)) k2 (xo.ext (e1.trans e2)) fun b τ3 H3 y3 e3 j3 r3 k3 => ?_⟩
  refine hr τ3 H3 d y3 u b _ _ j3 (ru.ext e3) r3 k3 fun c τ4 H4 z4 e4 j4 r4 k4 => ?_
  obtain ⟨kvs', g1, k4⟩ := onSome_ok k4
  have g1 := dkW_iff g1
  obtain ⟨kv', g2, pr'⟩ := j4.obj a _ g1
  have pr' : PrD _ _ _ kvs' kv' := pr'
  have ec : Ext τ4 H4 (tset τ4 a (.dK (putD kvs' key z4))) (upd H4 a (.dK (putK kv' key c))) := .chg g1
  have ee := ((e1.trans e2).trans (e3.trans e4)).trans ec
  exact ⟨_, .k g2 (by rw [pr'.len]; exact k4.1), eo.nx _ _ ds σ ee (j4.chg (u0 := .dK kvs') g1 ⟨_, upd_same, (pr'.ext ec).put key (r4.ext ec)⟩) (s.ext ee) k4.2⟩
def dAugT (δd : DE) (δs : DA) (δ : DE) (ρ : D2) : DS := fun F τ ds => δd τ ds fun τ1 x => δs τ1 ds fun τ2 ys => ys.length ≤ sizeLine ∧ onRef x fun a => onSome (dtAt τ2 a) fun kvs => onSome (keysOf ys) fun key => onSome (lookD kvs key) fun d => δ τ2 ds fun τ3 u => ρ τ3 d u fun τ4 z => onSome (dtW τ4 a) fun kvs' => kvs'.length < sizeLine ∧ F.nx (tset τ4 a (.dT (putD kvs' key z))) ds
theorem pds_augT {op : Operator} {rd : V → V → Hp → VK → Prop} {ρ : D2} {x1 : Nat} {tp tpos : Pos} (hu : X.A.units + 64 < cLine) (ho : PD T X E KE o δd) (hi : PDA T X E KE es δs) (hv : PD T X E KE e δ) (hop : InOp X op rd) (hr : R2ok X.K T rd ρ)
    (ha : ∀ ov iv new, augStore (.Tuple es x1 tp) ov iv new = (do holding [new, ov, iv] (setItem ov iv new); release [new, ov, iv] []; pure .next) := by exact fun _ _ _ => rfl) : PDS T X E KE (.AugAssign (.Subscript o (.Tuple es x1 tp) tpos) op e pos) (dAugT δd δs δ ρ) := by
  obtain ⟨te, p0, s0⟩ := hv.ex
  obtain ⟨td, p1, s1⟩ := ho.ex
  obtain ⟨tk, p2, s2⟩ := hi.ex
  refine ⟨_, ps_daug (by omega) p1 (pe_tup p2) p0 hop ha, fun σ H τ ds F D' j s h xo eo => s1 σ H τ ds _ _ j s h xo fun w τ1 H1 x e1 j1 r1 k1 => s2 σ H1 τ1 ds _ _ j1 (s.ext e1) k1 (xo.ext e1) fun z τ2 H2 ys e2 j2 r2 k2 => ⟨by rw [r2.length]; exact k2.1, fun p hp => ?_⟩⟩
  obtain ⟨kl, k2⟩ := k2
  obtain ⟨a, rfl, k2⟩ := onRef_ok k2
  obtain ⟨kvs, h1, k2⟩ := onSome_ok k2
  obtain ⟨key, h2, k2⟩ := onSome_ok k2
  obtain ⟨d, h3, k2⟩ := onSome_ok k2
  have ez := keysOf_ok r2 h2
  subst ez
  have en : Ext τ2 H2 τ2 (upd H2 p (.tup (key.map kV))) := .new hp
  have jn := j2.new (o := .tup (key.map kV)) hp
  obtain ⟨kv, rd0, pr⟩ := dt_read jn h1
  obtain ⟨u, h4, ru⟩ := (pr.look key).1 d h3
  refine ⟨a, u, r1, .inr ⟨kv, key, p, rd0, rfl, upd_same, h4.symm⟩, s0 σ _ τ2 ds _ _ jn (s.ext ((e1.trans e2).trans en)) k2 (xo.ext ((e1.trans e2).trans en)) fun b τ3 H3 y3 e3 j3 r3 k3 => ?_⟩
  refine hr τ3 H3 d y3 u b _ _ j3 (ru.ext e3) r3 k3 fun c τ4 H4 z4 e4 j4 r4 k4 => ?_
  obtain ⟨kvs', g1, k4⟩ := onSome_ok k4
  have g1 := dtW_iff g1
  obtain ⟨kv', g2, pr'⟩ := j4.obj a _ g1
  have pr' : PrD _ _ _ kvs' kv' := pr'
  have ec : Ext τ4 H4 (tset τ4 a (.dT (putD kvs' key z4))) (upd H4 a (.dT (putK kv' key c))) := .chg g1
  have ee := (((e1.trans e2).trans en).trans (e3.trans e4)).trans ec
  have hp4 : H4 p = some (.tup (key.map kV)) := (e3.trans e4).keep p _ upd_same (.inl (j2.free hp)) (fun ps z => by cases z)
  exact ⟨_, .t g2 hp4 (by rw [pr'.len]; exact k4.1), eo.nx _ _ ds σ ee (j4.chg (u0 := .dT kvs') g1 ⟨_, upd_same, (pr'.ext ec).put key (r4.ext ec)⟩) (s.ext ee) k4.2⟩
/-! ### d.get(k, x), d.pop(k), dict(d), len(d) -/
theorem isD_k {K : PySem.W.Frag} {τ : TD} {H : Hp} (j : J K T τ H) {a : Addr} {kvs} (h : dkAt τ a = some kvs) : IsD H a := (dk_read j h).elim fun kv z => .inl ⟨kv, z.1⟩
theorem isD_t {K : PySem.W.Frag} {τ : TD} {H : Hp} (j : J K T τ H) {a : Addr} {kvs} (h : dtAt τ a = some kvs) : IsD H a := (dt_read j h).elim fun kv z => .inr ⟨kv, z.1⟩
def dGet2K (δd δk δx : DE) : DE := fun τ ds k => δd τ ds fun τ1 x => onRef x fun a => (dkAt τ1 a).isSome = true ∧ δk τ1 ds fun τ2 y => δx τ2 ds fun τ3 z => onSome (dkAt τ3 a) fun kvs => onSome (keyOf y) fun key => k τ3 ((lookD kvs key).getD z)
theorem pd_get2K {apos cpos : Pos} (hu : X.A.units + 64 < cLine) (ho : PD T X E KE o δd) (he : PD T X E KE e δk) (hf : PD T X E KE f δx) (m : M2 X o "get" apos e f cpos := by exact ⟨rfl, rfl, rfl, rfl⟩) : PD T X E KE (.Call (.Attribute o "get" apos) [e, f] [] cpos) (dGet2K δd δk δx) := by
  obtain ⟨td, p1, s1⟩ := ho.ex
  obtain ⟨tk, p2, s2⟩ := he.ex
  obtain ⟨tx, p3, s3⟩ := hf.ex
  refine ⟨_, pe_dget2 (by omega) p1 p2 p3 m, fun σ H τ ds k Q j s h xo q => s1 σ H τ ds _ _ j s h xo fun v τ1 H1 x e1 j1 r1 k1 => ?_⟩
  obtain ⟨a, rfl, k0, k1⟩ := onRef_ok k1
  obtain ⟨kvs0, h0⟩ := Option.isSome_iff_exists.mp k0
  refine ⟨a, r1, isD_k j1 h0, s2 σ H1 τ1 ds _ _ j1 (s.ext e1) k1 (xo.ext e1) fun w τ2 H2 y e2 j2 r2 k2 => s3 σ H2 τ2 ds _ _ j2 (s.ext (e1.trans e2)) k2 (xo.ext (e1.trans e2)) fun u τ3 H3 z e3 j3 r3 k3 => ?_⟩
  obtain ⟨kvs, h1, k3⟩ := onSome_ok k3
  obtain ⟨key, h2, k3⟩ := onSome_ok k3
  obtain ⟨kv, rd, pr⟩ := dk_read j3 h1
  refine ⟨_, .inl ⟨kv, key, rd, keyOf_ok (r2.ext e3) h2, rfl⟩, ?_⟩
  cases el : lookD kvs key with
  | none =>
    rw [(pr.look key).2 el]
    rw [el] at k3
    exact q _ τ3 H3 z ((e1.trans e2).trans e3) j3 r3 k3
  | some d =>
    obtain ⟨u', h4, ru⟩ := (pr.look key).1 d el
    rw [h4]
    rw [el] at k3
    exact q _ τ3 H3 d ((e1.trans e2).trans e3) j3 ru k3
def dGet2T (δd : DE) (δs : DA) (δx : DE) : DE := fun τ ds k => δd τ ds fun τ1 x => onRef x fun a => (dtAt τ1 a).isSome = true ∧ δs τ1 ds fun τ2 ys => ys.length ≤ sizeLine ∧ δx τ2 ds fun τ3 z => onSome (dtAt τ3 a) fun kvs => onSome (keysOf ys) fun key => k τ3 ((lookD kvs key).getD z)
theorem pd_get2T {x1 : Nat} {tp apos cpos : Pos} (hu : X.A.units + 64 < cLine) (ho : PD T X E KE o δd) (he : PDA T X E KE es δs) (hf : PD T X E KE f δx) (m : M2 X o "get" apos (.Tuple es x1 tp) f cpos := by exact ⟨rfl, rfl, rfl, rfl⟩) : PD T X E KE (.Call (.Attribute o "get" apos) [.Tuple es x1 tp, f] [] cpos) (dGet2T δd δs δx) := by
  obtain ⟨td, p1, s1⟩ := ho.ex
  obtain ⟨tk, p2, s2⟩ := he.ex
  obtain ⟨tx, p3, s3⟩ := hf.ex
  refine ⟨_, pe_dget2 (by omega) p1 (pe_tup p2) p3 m, fun σ H τ ds k Q j s h xo q => s1 σ H τ ds _ _ j s h xo fun v τ1 H1 x e1 j1 r1 k1 => ?_⟩
  obtain ⟨a, rfl, k0, k1⟩ := onRef_ok k1
  obtain ⟨kvs0, h0⟩ := Option.isSome_iff_exists.mp k0
  refine ⟨a, r1, isD_t j1 h0, s2 σ H1 τ1 ds _ _ j1 (s.ext e1) k1 (xo.ext e1) fun w τ2 H2 ys e2 j2 r2 k2 => ⟨by rw [r2.length]; exact k2.1, fun p hp => ?_⟩⟩
  have en : Ext τ2 H2 τ2 (upd H2 p (.tup w)) := .new hp
  have ee := (e1.trans e2).trans en
  refine s3 σ _ τ2 ds _ _ (j2.new hp) (s.ext ee) k2.2 (xo.ext ee) fun u τ3 H3 z e3 j3 r3 k3 => ?_
  obtain ⟨kvs, h1, k3⟩ := onSome_ok k3
  obtain ⟨key, h2, k3⟩ := onSome_ok k3
  obtain ⟨kv, rd, pr⟩ := dt_read j3 h1
  have hT : H3 p = some (.tup (key.map kV)) := by rw [← keysOf_ok r2 h2]; exact e3.keep p _ upd_same (.inl (j2.free hp)) (fun ps z => by cases z)
  refine ⟨_, .inr ⟨kv, key, p, rd, rfl, hT, rfl⟩, ?_⟩
  cases el : lookD kvs key with
  | none =>
    rw [(pr.look key).2 el]
    rw [el] at k3
    exact q _ τ3 H3 z (ee.trans e3) j3 r3 k3
  | some d =>
    obtain ⟨u', h4, ru⟩ := (pr.look key).1 d el
    rw [h4]
    rw [el] at k3
    exact q _ τ3 H3 d (ee.trans e3) j3 ru k3
def dPop1K (δd δk : DE) : DE := fun τ ds k => δd τ ds fun τ1 x => onRef x fun a => (dkAt τ1 a).isSome = true ∧ δk τ1 ds fun τ2 y => onSome (dkW τ2 a) fun kvs => onSome (keyOf y) fun key => onSome (lookD kvs key) fun d => k (tset τ2 a (.dK (delD kvs key))) d
theorem pd_pop1K {apos cpos : Pos} (ho : PD T X E KE o δd) (he : PD T X E KE e δk) (m : M1 X o "pop" apos e cpos := by exact ⟨rfl, rfl, rfl, rfl⟩) : PD T X E KE (.Call (.Attribute o "pop" apos) [e] [] cpos) (dPop1K δd δk) := by
  obtain ⟨td, p1, s1⟩ := ho.ex
  obtain ⟨tk, p2, s2⟩ := he.ex
  refine ⟨_, pe_dpop1 p1 p2 m, fun σ H τ ds k Q j s h xo q => s1 σ H τ ds _ _ j s h xo fun v τ1 H1 x e1 j1 r1 k1 => ?_⟩
  obtain ⟨a, rfl, k0, k1⟩ := onRef_ok k1
  obtain ⟨kvs0, h0⟩ := Option.isSome_iff_exists.mp k0
  refine ⟨a, r1, isD_k j1 h0, s2 σ H1 τ1 ds _ _ j1 (s.ext e1) k1 (xo.ext e1) fun w τ2 H2 y e2 j2 r2 k2 => ?_⟩
  obtain ⟨kvs, h1, k2⟩ := onSome_ok k2
  obtain ⟨key, h2, k2⟩ := onSome_ok k2
  obtain ⟨d, h3, k2⟩ := onSome_ok k2
  have h1 := dkW_iff h1
  obtain ⟨kv, g1, pr⟩ := j2.obj a _ h1
  have pr : PrD _ _ _ kvs kv := pr
  obtain ⟨u', h4, ru⟩ := (pr.look key).1 d h3
  have ec : Ext τ2 H2 (tset τ2 a (.dK (delD kvs key))) (upd H2 a (.dK (dropK kv key))) := .chg h1
  exact ⟨kv, key, u', g1, keyOf_ok r2 h2, h4, q _ _ _ d ((e1.trans e2).trans ec) (j2.chg (u0 := .dK kvs) h1 ⟨_, upd_same, (pr.ext ec).del key⟩) (ru.ext ec) k2⟩
/-- dict(d) -/
def ρCopy : DC := fun τ xs k => match xs with
  | [.ref a] => onSome (dkAt τ a) fun kvs => ∀ p, τ p = none → k (tset τ p (.dK kvs)) (.ref p)
  | _ => False
def rCopyK : List V → Hp → VK → Prop := fun xs H Q => ∃ a kv, xs = [.ref a] ∧ Rd H a (.dK kv) ∧ ∀ p, H p = none → Q (.ref p) (upd H p (.dK kv))
theorem cr_copyK : CallR X (.type "dict") rCopyK := by
  intro pins s σ H xs us Q I rr h
  obtain ⟨a, kv, rfl, hr, q⟩ := h
  cases rr with
  | cons r0 rt =>
    cases rt
    cases r0
    exact d_copyOf I hr fun p s' hp I' => ⟨.ref p, _, I', rfl, q p hp⟩
theorem ok_copyK {K : PySem.W.Frag} : RCok K T rCopyK ρCopy := by
  intro τ H xs vs k Q j rr h q
  match xs, h, rr with
  | [.ref a], h, rr =>
    obtain ⟨v, w, rfl, r1, r2⟩ := rr
    have r2 : w = [] := r2
    subst r2
    obtain ⟨kvs, h1, h⟩ := onSome_ok h
    obtain ⟨kv, rd, pr⟩ := dk_read j h1
    refine ⟨a, kv, by rw [show v = .ref a from r1], rd, fun p hp => ?_⟩
    have en : Ext τ H (tset τ p (.dK kvs)) (upd H p (.dK kv)) := .newM hp
    exact q _ _ _ (.ref p) en (j.newM (u := .dK kvs) hp ⟨kv, upd_same, pr.ext en⟩) rfl (h p (j.free hp))
end
end DL

set_option Elab.async false
set_option linter.all false
set_option maxRecDepth 100000
set_option maxHeartbeats 1000000
/-! The data layer, 16: tuples in order, pop, index, three names in a comprehension, a promise that asks for nothing. -/
namespace DL
open PySem PySem.Spec PyProof.Rows L2 DX
theorem fnD_void {P : Program} {w : World} {K : PySem.W.Frag} {mg : Str → Option Value} {base : Heap} {T : List (Addr × Str)} {k : Nat} {f : Addr} {fd : FuncData} {ps : List Str} : FnD P w K mg base T k f fd ps (fun _ _ _ _ => False) :=
  ⟨fun _ _ _ _ ⟨_, _, _, _, _, _, _, z, _⟩ => z.elim, fun _ _ _ _ _ _ _ _ _ _ _ _ _ ⟨_, _, _, _, _, _, _, z, _⟩ => z.elim⟩
section
variable {T : List (Addr × Str)} {X : Cx} {K : PySem.W.Frag}
/-! ### t < u -/
def rLtV (K : PySem.W.Frag) : R2 := fun x y H Q => rLtU x y H Q ∨ rLtT K x y H Q
theorem op_ltV (hu : X.A.units + 64 < cLine) : OpR X (compareOp .Lt) (rLtV X.K) := op_ltU.or (op_ltT (by omega))
def ρLtV : D2 := fun τ x y k => match x, y with
  | .int i, .int j => k τ (.bl (decide (i < j)))
  | .str i, .str j => k τ (.bl (decide (i.cps.toList < j.cps.toList)))
  | .tup xs, .tup ys => onSome (intsOf xs) fun ns => onSome (intsOf ys) fun ms => k τ (.bl (HT.lexLt ns ms))
  | _, _ => False
theorem ok_ltV : R2ok K T (rLtV K) ρLtV := by
  intro τ H x y vx vy k Q j hx hy h q
  cases x with
  | int i => cases y with
    | int i' => exact .inl (ok_cmp τ H (.int i) (.int i') vx vy k Q j hx hy h q)
    | _ => exact h.elim
  | str i => cases y with
    | str i' => exact .inl (ok_cmp τ H (.str i) (.str i') vx vy k Q j hx hy h q)
    | _ => exact h.elim
  | tup xs => cases y with
    | tup ys =>
      obtain ⟨ns, h1, h⟩ := onSome_ok h
      obtain ⟨ms, h2, h⟩ := onSome_ok h
      obtain ⟨a, vs, rfl, ta, ra⟩ := hx
      obtain ⟨b, ws, rfl, tb, rb⟩ := hy
      have e1 := intsOf_ok ra h1
      have e2 := intsOf_ok rb h2
      subst e1 e2
      exact .inr ⟨a, b, ns, ms, rfl, rfl, ta.sq, tb.sq, q _ τ H (.bl _) (.refl _ _) j rfl h⟩
    | _ => exact h.elim
  | _ => exact h.elim
theorem ρLtV_int {τ : TD} {i j : Int} {k : DK} : ρLtV τ (.int i) (.int j) k = k τ (.bl (decide (i < j))) := rfl
theorem ρLtV_str {τ : TD} {i j : Str} {k : DK} : ρLtV τ (.str i) (.str j) k = k τ (.bl (decide (i.cps.toList < j.cps.toList))) := rfl
theorem ρLtV_tup {τ : TD} {xs ys : List D} {k : DK} : ρLtV τ (.tup xs) (.tup ys) k = onSome (intsOf xs) fun ns => onSome (intsOf ys) fun ms => k τ (.bl (HT.lexLt ns ms)) := rfl
/-! ### xs.pop() -/
def ρPop : DM := fun τ x xs k => match x, xs with
  | .ref p, [] => onSome (lstAt τ p) fun ys => onSome (ys[ys.length - 1]?) fun y => k (tset τ p (.lst ys.dropLast)) y
  | _, _ => False
theorem drs_dropLast {τ : TD} {H : Hp} {xs : List D} {vs : List V} (r : DRs K τ H xs vs) : DRs K τ H xs.dropLast vs.dropLast := by
  rw [List.dropLast_eq_take, List.dropLast_eq_take, r.length]
  exact r.take _
theorem ok_pop : RMok K T rPop ρPop := by
  intro τ H x vx xs vs k Q j rx r h q
  match x, xs, h, rx, r with
  | .ref p, [], h, rx, r =>
    have r : vs = [] := r
    subst r
    obtain ⟨ys, h1, h⟩ := onSome_ok h
    obtain ⟨y, h2, h⟩ := onSome_ok h
    have e1 := lstAt_iff h1
    obtain ⟨ws, hw, rw_⟩ := j.obj p _ e1
    obtain ⟨v, h3, rv⟩ := rw_.get h2
    have ec : Ext τ H (tset τ p (.lst ys.dropLast)) (upd H p (.lst ws.dropLast)) := .chg e1
    exact ⟨p, ws, v, rx, rfl, hw, by rw [rw_.length]; exact h3, q v _ _ y ec (j.chg (u0 := .lst ys) e1 ⟨_, upd_same, (drs_dropLast rw_).ext ec⟩) (rv.ext ec) h⟩
theorem ρPop_ref {τ : TD} {p : Addr} {k : DK} : ρPop τ (.ref p) [] k = onSome (lstAt τ p) fun ys => onSome (ys[ys.length - 1]?) fun y => k (tset τ p (.lst ys.dropLast)) y := rfl
/-! ### xs.index(y) -/
def ρIdx : DM := fun τ x xs k => match x, xs with
  | .lst ys, [y] => onSome (ys.findIdx? fun z => eqD z y) fun n => (shB 64 (.lst ys) = true ∧ shB 64 y = true) ∧ k τ (.int (n : Nat))
  | _, _ => False
theorem pyAll_get : ∀ {xs : List D} {ps : List PyData} {i : Nat}, pyAll xs = some ps → (∀ x, xs[i]? = some x → ∃ p, ps[i]? = some p ∧ pyOf x = some p) ∧ (∀ p, ps[i]? = some p → ∃ x, xs[i]? = some x ∧ pyOf x = some p)
  | [], ps, i, h => by cases h; exact ⟨fun x z => by simp at z, fun p z => by simp at z⟩
  | x :: xs, ps, i, h => by
    rw [pyAll_cons] at h
    split at h
    · rename_i p ps' h1 h2
      cases h
      cases i with
      | zero => exact ⟨fun y z => by simp only [List.getElem?_cons_zero, Option.some.injEq] at z; subst z; exact ⟨p, rfl, h1⟩, fun y z => by simp only [List.getElem?_cons_zero, Option.some.injEq] at z; subst z; exact ⟨x, rfl, h1⟩⟩
      | succ i => exact ⟨fun y z => by simp only [List.getElem?_cons_succ] at z ⊢; exact (pyAll_get h2).1 y z, fun y z => by simp only [List.getElem?_cons_succ] at z ⊢; exact (pyAll_get h2).2 y z⟩
    · cases h
theorem ok_idx : RMok K T (rIndexD K) ρIdx := by
  intro τ H x vx xs vs k Q j rx r h q
  match x, xs, h, rx, r with
  | .lst ys, [y], h, rx, r =>
    obtain ⟨n, h1, ⟨s1, s2⟩, h⟩ := onSome_ok h
    obtain ⟨v, w, rfl, rv, er⟩ := r
    have er : w = [] := er
    subst er
    obtain ⟨p1, e1, g1⟩ := sh_iff.mp s1
    obtain ⟨p2, e2, g2⟩ := sh_iff.mp s2
    have dx := pyOf_ok _ _ _ rx e1
    have dy := pyOf_ok _ _ _ rv e2
    rw [pyOf_lst] at e1
    cases ep : pyAll ys with
    | none => rw [ep] at e1; cases e1
    | some ps =>
      rw [ep] at e1
      cases e1
      obtain ⟨a, us, rfl, _, _⟩ := rx
      obtain ⟨hn, hz, hf⟩ := List.findIdx?_eq_some_iff_getElem.mp h1
      obtain ⟨z, hz1, hz2⟩ := (pyAll_get (i := n) ep).1 ys[n] (by simp [hn])
      refine ⟨a, v, p2, ps, n, z, rfl, rfl, dx, dy, g1, g2, hz1, ?_, fun m z' hm hz' => ?_, q _ τ H (.int (n : Nat)) (.refl _ _) j rfl h⟩
      · rw [eqv_eq _ _ _ _ hz2 e2]; exact hz
      · obtain ⟨x', hx', hp'⟩ := (pyAll_get (i := m) ep).2 z' hz'
        rw [eqv_eq _ _ _ _ hp' e2]
        have := hf m hm
        obtain ⟨hl, e⟩ := List.getElem?_eq_some_iff.mp hx'
        rw [e] at this
        simpa using this
theorem ρIdx_lst {τ : TD} {ys : List D} {y : D} {k : DK} : ρIdx τ (.lst ys) [y] k = onSome (ys.findIdx? fun z => eqD z y) fun n => (shB 64 (.lst ys) = true ∧ shB 64 y = true) ∧ k τ (.int (n : Nat)) := rfl
/-! ### three names -/
theorem pdn_three {i j l k : Nat} {x y z : Str} {ws : List Nat} {p1 p2 p3 pos : Pos} (hc : X.calm = true) (hN : X.N.Nodup) (hi : X.N[i]? = some x) (hj : X.N[j]? = some y) (hl : X.N[l]? = some z) (hx : Loc X.env.scope x) (hy : Loc X.env.scope y) (hz : Loc X.env.scope z) (hw : i ∈ ws) (hw2 : j ∈ ws) (hw3 : l ∈ ws)
    (hf : X.fn x = true ∨ X.env.scope.names.lookup x = some .local := by first | exact .inl rfl | exact .inr rfl | assumption) (hf2 : X.fn y = true ∨ X.env.scope.names.lookup y = some .local := by first | exact .inl rfl | exact .inr rfl | assumption) (hf3 : X.fn z = true ∨ X.env.scope.names.lookup z = some .local := by first | exact .inl rfl | exact .inr rfl | assumption)
    (hs1 : (assignEach [.Name x p1, .Name y p2, .Name z p3] X.env).map (·.2) = assign (.Name x p1) X.env :: (assignEach [.Name y p2, .Name z p3] X.env).map (·.2) := by rfl) (hs2 : (assignEach [.Name y p2, .Name z p3] X.env).map (·.2) = assign (.Name y p2) X.env :: (assignEach [.Name z p3] X.env).map (·.2) := by rfl) (hs3 : (assignEach [.Name z p3] X.env).map (·.2) = assign (.Name z p3) X.env :: (assignEach [] X.env).map (·.2) := by rfl)
    (hn : (assignEach [.Name x p1, .Name y p2, .Name z p3] X.env).length = 3 := by rfl) (hst : (assignEach [.Name x p1, .Name y p2, .Name z p3] X.env).findIdx? (·.1) = none := by rfl) : PDN T X ws (.Tuple [.Name x p1, .Name y p2, .Name z p3] k pos) (γTup 3 (γCons (γName i) (γCons (γName j) (γCons (γName l) γNil)))) :=
  ⟨_, pg_tup hc (pgs_cons (pg_name hN hi hx hf) (pgs_cons (pg_name hN hj hy hf2) (pgs_cons (pg_name hN hl hz hf3) pgs_nil hs3) hs2) hs1) hn hst, fun _ _ => sndGTup (sndGCons sndName (sndGCons sndName (sndGCons sndName sndGNil))), wipGTup (wipGCons (wipName hw) (wipGCons (wipName hw2) (wipGCons (wipName hw3) wipGNil fun _ _ _ _ _ h q => h _ _ q) fun _ _ _ _ _ h q => h _ _ q) fun _ _ _ _ _ h q => h _ _ q)⟩
end
theorem keyOf_int {i : Int} : keyOf (.int i) = some (.inl i) := rfl
theorem keyOf_str {i : Str} : keyOf (.str i) = some (.inr i) := rfl
theorem keysOf_ii {i j : Int} : keysOf [.int i, .int j] = some [.inl i, .inl j] := rfl
theorem keysOf_iii {i j l : Int} : keysOf [.int i, .int j, .int l] = some [.inl i, .inl j, .inl l] := rfl
theorem room65 {k : Nat} {A : Around} (h : Room k A) : A.units + 65 < cLine := by
  have := h.un
  omega
theorem ok_rAdd {K : PySem.W.Frag} {T : List (Addr × Str)} : R2ok K T rAdd (ρI0 fun i j => .int (i + j)) := ok_I0 (g := fun i j => .int (i + j)) fun _ _ _ _ => rfl
theorem ok_rSub {K : PySem.W.Frag} {T : List (Addr × Str)} : R2ok K T rSub (ρI0 fun i j => .int (i - j)) := ok_I0 (g := fun i j => .int (i - j)) fun _ _ _ _ => rfl
theorem look_cons {κ : Type} [DecidableEq κ] (p : κ × D) (l : List (κ × D)) (j : κ) : lookD (p :: l) j = if p.1 = j then some p.2 else lookD l j := by
  by_cases c : p.1 = j <;> simp [lookD, List.find?_cons, c]
theorem look_nil {κ : Type} [DecidableEq κ] (j : κ) : lookD ([] : List (κ × D)) j = none := rfl
theorem look_put {κ : Type} [DecidableEq κ] (kvs : List (κ × D)) (k j : κ) (d : D) : lookD (putD kvs k d) j = if j = k then some d else lookD kvs j := by
  have key : ∀ l : List (κ × D), j ≠ k → lookD (l.map fun p => if p.1 = k then (p.1, d) else p) j = lookD l j := fun l hj => by
    induction l with
    | nil => rfl
    | cons q l ih =>
      rw [List.map_cons, look_cons, look_cons, ih]
      by_cases c : q.1 = k
      · simp [c, Ne.symm hj]
      · simp [c]
  have key2 : ∀ l : List (κ × D), (l.any fun p => decide (p.1 = k)) = true → lookD (l.map fun p => if p.1 = k then (p.1, d) else p) k = some d := fun l h => by
    induction l with
    | nil => simp at h
    | cons q l ih =>
      rw [List.map_cons, look_cons]
      by_cases c : q.1 = k
      · simp [c]
      · simp only [c, if_false]
        exact ih (by simpa [c] using h)
  have key3 : ∀ l : List (κ × D), ¬ (l.any fun p => decide (p.1 = k)) = true → lookD (l ++ [(k, d)]) j = if j = k then some d else lookD l j := fun l h => by
    induction l with
    | nil =>
      rw [List.nil_append, look_cons]
      by_cases c : j = k
      · simp [c]
      · simp [c, Ne.symm c]
    | cons q l ih =>
      have hq : ¬ q.1 = k := fun e => h (by simp [e])
      rw [List.cons_append, look_cons, look_cons, ih (fun e => h (by rw [List.any_cons, e, Bool.or_true]))]
      by_cases c : q.1 = j
      · have : ¬ j = k := fun e => hq (by rw [c, e])
        simp [c, this]
      · simp [c]
  unfold putD
  split
  · rename_i h
    by_cases c : j = k
    · subst c; rw [key2 kvs h, if_pos rfl]
    · rw [key kvs c, if_neg c]
  · rename_i h
    exact key3 kvs h
theorem put_len {κ : Type} [DecidableEq κ] (kvs : List (κ × D)) (k : κ) (d : D) : (putD kvs k d).length ≤ kvs.length + 1 := by
  unfold putD; split <;> simp
/-- items read by themselves, beside what is mutable -/
theorem lc_fmT {γ : DG} {η : DT} {δ : DE} {ws : List Nat} {ds : Sl} {τ0 : TD} {k : TD → List D → Prop} {L : Addr} {α : Type} {l : List α} {g : α → D} (h : α → Option D) (hz : l.length ≤ sizeLine)
    (step : ∀ c ∈ l, ∀ (acc : List D) (k : TD → Option D → Prop), k (tset τ0 L (.lst acc)) (h c) → γ (g c) (tset τ0 L (.lst acc)) (wipeD ds ws) fun τ1 ds1 => η τ1 ds1 fun τ2 b => if b = true then δ τ2 ds1 fun τ3 d => k τ3 (some d) else k τ2 none)
    (hk : k (tset τ0 L (.lst (l.filterMap h))) (l.filterMap h)) : dLcL γ η δ ws ds L k (l.map g) [] (tset τ0 L (.lst [])) := by
  refine lc_ind (fun r acc τ => (∃ pre post, l = pre ++ post ∧ r = post.map g ∧ acc = pre.filterMap h) ∧ τ = tset τ0 L (.lst acc)) (fun x r acc τ hI G hG => ?_) (fun acc τ hI => ?_) (l.map g) [] _ ⟨⟨[], l, rfl, rfl, rfl⟩, rfl⟩
  · obtain ⟨⟨pre, post, e1, e2, e3⟩, e4⟩ := hI
    cases post with
    | nil => cases e2
    | cons c post =>
      have e5 : x = g c ∧ r = post.map g := by simpa using e2
      obtain ⟨e5, e6⟩ := e5
      subst e5 e6
      have hc : c ∈ l := by rw [e1]; simp
      have hl : acc.length < sizeLine := by
        have h1 : acc.length ≤ pre.length := by rw [e3]; exact List.length_filterMap_le _ _
        have h2 : l.length = pre.length + (post.length + 1) := by rw [e1]; simp
        omega
      have tl : τ L = some (.lst acc) := by rw [e4]; exact tset_same
      have key : (match h c with | some d => τ L = some (.lst acc) ∧ acc.length < sizeLine ∧ G (acc ++ [d]) (tset τ L (.lst (acc ++ [d]))) | none => G acc τ) := by
        cases hf : h c with
        | some d => exact ⟨tl, hl, hG _ _ ⟨⟨pre ++ [c], post, by rw [e1]; simp, rfl, by rw [e3]; simp [hf]⟩, by rw [e4, tset_tset]⟩⟩
        | none => exact hG _ _ ⟨⟨pre ++ [c], post, by rw [e1]; simp, rfl, by rw [e3]; simp [hf]⟩, e4⟩
      subst e4
      refine step c hc acc (fun τ3 o => match o with | some d => τ3 L = some (.lst acc) ∧ acc.length < sizeLine ∧ G (acc ++ [d]) (tset τ3 L (.lst (acc ++ [d]))) | none => G acc τ3) key
  · obtain ⟨⟨pre, post, e1, e2, e3⟩, e4⟩ := hI
    have : post = [] := by simpa using e2.symm
    subst this
    rw [List.append_nil] at e1
    subst e1
    refine ⟨by rw [e4]; exact tset_same, ?_⟩
    rw [e4, e3]
    exact hk
theorem lc_mapT {γ : DG} {δ : DE} {ws : List Nat} {ds : Sl} {τ0 : TD} {k : TD → List D → Prop} {L : Addr} {α : Type} {l : List α} {g : α → D} (h : α → D) (hz : l.length ≤ sizeLine)
    (step : ∀ c ∈ l, ∀ (acc : List D) (k : TD → D → Prop), k (tset τ0 L (.lst acc)) (h c) → γ (g c) (tset τ0 L (.lst acc)) (wipeD ds ws) fun τ1 ds1 => δ τ1 ds1 fun τ3 d => k τ3 d)
    (hk : k (tset τ0 L (.lst (l.map h))) (l.map h)) : dLcL γ dYes δ ws ds L k (l.map g) [] (tset τ0 L (.lst [])) := by
  have e : (l.filterMap fun c => some (h c)) = l.map h := by simp
  refine lc_fmT (fun c => some (h c)) hz (fun c hc acc k' hk' => ?_) (by rw [e]; exact hk)
  exact step c hc acc (fun τ3 d => k' τ3 (some d)) hk'
end DL

set_option Elab.async false
set_option linter.all false
set_option maxRecDepth 100000
set_option maxHeartbeats 1000000
/-! The data layer, 17: sorted of any data that can be compared. -/
namespace DL
open PySem PySem.Spec PyProof.Rows L2 DX
section
variable {T : List (Addr × Str)} {X : Cx} {E : XK} {KE : XD} {K : PySem.W.Frag} {τ : TD} {H : Hp}
/-! ### the order -/
def pyD (x : D) : PyData := (pyOf x).getD .none
def ltD (x y : D) : Bool := PySem.W.dataLt (pyD x) (pyD y)
def leD (x y : D) : Bool := !ltD y x
/-- the list can be sorted -/
def sortOk (l : List D) : Prop := ∃ ps, pyAll l = some ps ∧ PySem.W.AllAlike ps ∧ PySem.W.Sortable ps ∧ ∀ p ∈ ps, PyData.depth p ≤ 60
theorem pyAll_pyD : ∀ {l : List D} {ps : List PyData}, pyAll l = some ps → ps = l.map pyD
  | [], _, h => by cases h; rfl
  | x :: l, _, h => by
    unfold pyAll at h
    split at h
    · rename_i p qs h1 h2
      cases h
      rw [pyAll_pyD h2, List.map_cons, pyD, h1]
      rfl
    · cases h
/-! ### the call -/
def rSortD (K : PySem.W.Frag) : List V → Hp → VK → Prop := fun vs H Q => ∃ (a : Addr) (xs : List V) (ps : List PyData), vs = [V.ref a] ∧ SqL K H a xs ∧ DpAll K H xs ps ∧ PySem.W.AllAlike ps ∧ PySem.W.Sortable ps ∧ (∀ p ∈ ps, PyData.depth p ≤ 60) ∧
  ∀ p, H p = none → Q (.ref p) (upd H p (.lst (((xs.zip ps).mergeSort (PySem.W.dataLe false Prod.snd)).map Prod.fst)))
theorem dp_len : ∀ {xs : List V} {ps : List PyData}, DpAll K H xs ps → xs.length = ps.length
  | _, _, .nil => rfl
  | _, _, .cons _ h => by rw [List.length_cons, List.length_cons, dp_len h]
theorem each_zip {pins : List (Addr × Obj)} {σ : L2.St} {s : Shared} {X : Cx} {H : Hp} (I : Inv X pins σ H s) : ∀ {xs : List V} {ps : List PyData} {us : List Value}, Vals xs us → DpAll X.K H xs ps → PySem.W.EachIs (fun (u : Value) (b : V × PyData) => RelV b.1 u ∧ ∃ as, Reads s.heap u b.2 as) us (xs.zip ps)
  | _, _, _, .nil, .nil => .nil
  | _, _, _, .cons r rs, .cons d ds => .cons ⟨r, d.reads I _ _ _ r⟩ (each_zip I rs ds)
theorem each_fst : ∀ {us : List Value} {bs : List (V × PyData)}, PySem.W.EachIs (fun u b => RelV b.1 u) us bs → Vals (bs.map Prod.fst) us
  | _, _, .nil => .nil
  | _, _, .cons h t => .cons h (each_fst t)
theorem cr_sortD (hu : X.A.units + 64 < cLine) : CallR X (.builtin "sorted") (rSortD X.K) := by
  intro pins s σ H vs us Q I r h
  obtain ⟨a, xs, ps, rfl, hs, hd, hal, hk, hdep, q⟩ := h
  obtain ⟨its, rv, hl, hz⟩ := I.list hs
  obtain ⟨u, rfl, ru⟩ := vals1 r
  obtain rfl : u = Value.ref a := ru
  have e := each_zip I rv hd
  have el := dp_len hd
  have esnd : (xs.zip ps).map Prod.snd = ps := List.map_snd_zip (by omega)
  refine PySem.W.sorted_data (enc := Prod.snd) (R := fun u (b : V × PyData) => RelV b.1 u) hl.isList (e.mono fun _ _ h => h.1) (e.mono fun _ _ h => h.2) (by rw [esnd]; exact hal) (by rw [esnd]; exact hk) (by rw [List.length_zip, ← el, Nat.min_self]; exact hz) (fun b hb => ?_) fun out ol eo => ?_
  · have := hdep b.2 (by rw [← esnd]; exact List.mem_map.mpr ⟨b, hb, rfl⟩)
    omega
  · obtain ⟨n, hn⟩ := sortedAll_at s.heap its out.toArray
    have h3 := each_fst eo
    refine ⟨.ref _, upd H _ (.lst (((xs.zip ps).mergeSort (PySem.W.dataLe false Prod.snd)).map Prod.fst)), I.laid (t' := s.toks) (fun b o e => sortedAll_old e) (Nat.le_succ _) ⟨?_, out, n, h3, hn⟩, rfl, q _ (I.hok.fresh (Nat.le_succ _))⟩
    rw [h3.length, ol, List.length_zip, ← el, Nat.min_self]
    exact hz
/-! ### over data -/
def zip3 : List D → List V → List PyData → List (D × V × PyData)
  | x :: xs, v :: vs, p :: ps => (x, v, p) :: zip3 xs vs ps
  | _, _, _ => []
theorem zip3_ok : ∀ {xs : List D} {vs : List V} {ps : List PyData}, DRs K τ H xs vs → pyAll xs = some ps →
    (zip3 xs vs ps).map (fun t => t.1) = xs ∧ (zip3 xs vs ps).map (fun t => t.2) = vs.zip ps ∧ ∀ t ∈ zip3 xs vs ps, DR K τ H t.1 t.2.1 ∧ t.2.2 = pyD t.1
  | [], vs, ps, r, h => by
    have r : vs = [] := r
    cases h
    subst r
    exact ⟨rfl, rfl, fun t ht => by cases ht⟩
  | x :: xs, vs, ps, r, h => by
    obtain ⟨v, w, e, r1, r2⟩ := r
    subst e
    unfold pyAll at h
    split at h
    · rename_i p qs h1 h2
      cases h
      obtain ⟨a, b, c⟩ := zip3_ok r2 h2
      refine ⟨by rw [zip3, List.map_cons, a], by rw [zip3, List.map_cons, b]; rfl, fun t ht => ?_⟩
      rw [zip3] at ht
      rcases List.mem_cons.mp ht with rfl | ht
      · exact ⟨r1, by simp only [pyD, h1, Option.getD_some]⟩
      · exact c t ht
    · cases h
theorem DRs.of_map : ∀ {l : List (D × V × PyData)}, (∀ t ∈ l, DR K τ H t.1 t.2.1) → DRs K τ H (l.map fun t => t.1) (l.map fun t => t.2.1)
  | [], _ => rfl
  | t :: l, h => ⟨_, _, rfl, h t List.mem_cons_self, DRs.of_map fun u hu => h u (List.mem_cons_of_mem _ hu)⟩
/-- the sorted values are those of the sorted data -/
theorem sort_ok {xs : List D} {vs : List V} {ps : List PyData} (r : DRs K τ H xs vs) (h : pyAll xs = some ps) : DRs K τ H (xs.mergeSort leD) (((vs.zip ps).mergeSort (PySem.W.dataLe false Prod.snd)).map Prod.fst) := by
  obtain ⟨a, b, c⟩ := zip3_ok r h
  have e1 : ((zip3 xs vs ps).mergeSort (fun s t => leD s.1 t.1)).map (fun t => t.1) = xs.mergeSort leD := by
    rw [List.map_mergeSort (s := leD) (fun a _ b _ => rfl), a]
  have e2 : ((zip3 xs vs ps).mergeSort (fun s t => leD s.1 t.1)).map (fun t => t.2) = (vs.zip ps).mergeSort (PySem.W.dataLe false Prod.snd) := by
    rw [List.map_mergeSort (s := PySem.W.dataLe false Prod.snd) (fun s hs t ht => ?_), b]
    show (!PySem.W.dataLt (pyD t.1) (pyD s.1)) = !PySem.W.dataLt t.2.2 s.2.2
    rw [(c s hs).2, (c t ht).2]
  rw [← e1, ← e2, List.map_map]
  exact DRs.of_map fun t ht => (c t (List.mem_mergeSort.mp ht)).1
def ρSortD : DC := fun τ xs k => match xs with
  | [x] => ∃ l, lstOf τ x = some l ∧ sortOk l ∧ k τ (.lst (l.mergeSort leD))
  | _ => False
theorem ok_sortD {K : PySem.W.Frag} : RCok K T (rSortD K) ρSortD := by
  intro τ H xs vs k Q j r h q
  match xs, h, r with
  | [x], h, r =>
    obtain ⟨v, e, r1⟩ := one_of r
    obtain ⟨l, hl, ⟨ps, h1, h2, h3, h4⟩, hk⟩ := h
    obtain ⟨a, ws, ev, sq, rr⟩ := lstOf_ok j r1 hl
    subst e ev
    refine ⟨a, ws, ps, rfl, sq, pyAll_ok _ _ _ rr h1, h2, h3, h4, fun p hp => q (.ref p) τ _ (.lst (l.mergeSort leD)) (.new hp) (j.new hp) ⟨p, _, rfl, .inl ⟨.of upd_same, j.free hp⟩, (sort_ok rr h1).ext (.new hp)⟩ hk⟩
end
end DL

set_option Elab.async false
set_option linter.all false
set_option maxRecDepth 100000
set_option maxHeartbeats 1000000
/-! The data layer, 18: own classes: fields, methods, new instances. -/
namespace DL
open PySem PySem.Spec PyProof.Rows L2 DX
section
variable {T : List (Addr × Str)} {X : Cx} {E : XK} {KE : XD} {K : PySem.W.Frag} {τ : TD} {H : Hp} {e o : Expr} {es : List Expr} {pos : Pos} {δ δo δv : DE} {δs δk : DA}
/-! ### what the instance at a holds -/
def insAt (τ : TD) (a : Addr) : Option (Addr × List (Str × D)) := match τ a with
  | some (.ins C fs) => some (C, fs)
  | _ => none
theorem insAt_iff {a : Addr} {p : Addr × List (Str × D)} : insAt τ a = some p ↔ τ a = some (.ins p.1 p.2) := by
  unfold insAt
  obtain ⟨C, fs⟩ := p
  cases τ a with
  | none => simp
  | some o => cases o <;> simp
theorem insAt_same {a : Addr} {C : Addr} {fs : List (Str × D)} : insAt (tset τ a (.ins C fs)) a = some (C, fs) := by rw [insAt_iff]; exact tset_same
theorem insAt_ne {a b : Addr} {u : DO} (h : b ≠ a) : insAt (tset τ a u) b = insAt τ b := by unfold insAt; rw [tset_ne h]
theorem insAt_of {a : Addr} {C : Addr} {fs : List (Str × D)} (h : τ a = some (.ins C fs)) : insAt τ a = some (C, fs) := insAt_iff.mpr h
/-- the fields by name -/
def lkF : List (Str × D) → Str → Option D
  | [], _ => none
  | (g, d) :: fs, f => if f = g then some d else lkF fs f
def putFD (f : Str) (d : D) : List (Str × D) → List (Str × D)
  | [] => [(f, d)]
  | (g, x) :: r => if g = f then (g, d) :: r else (g, x) :: putFD f d r
theorem lkF_nil {f : Str} : lkF [] f = none := rfl
theorem lkF_cons {g f : Str} {d : D} {fs : List (Str × D)} : lkF ((g, d) :: fs) f = if f = g then some d else lkF fs f := rfl
theorem putFD_nil {f : Str} {d : D} : putFD f d [] = [(f, d)] := rfl
theorem putFD_cons {f g : Str} {d x : D} {r : List (Str × D)} : putFD f d ((g, x) :: r) = if g = f then (g, d) :: r else (g, x) :: putFD f d r := rfl
abbrev PrF (K : PySem.W.Frag) (τ : TD) (H : Hp) (fs : List (Str × D)) (fv : List (Str × V)) : Prop := Paired (fun (p : Str × D) (q : Str × V) => p.1 = q.1 ∧ DR K τ H p.2 q.2) fs fv
theorem PrF.look {f : Str} : ∀ {fs : List (Str × D)} {fv : List (Str × V)}, PrF K τ H fs fv → (∀ d, lkF fs f = some d → ∃ v, fv.lookup f = some v ∧ DR K τ H d v) ∧ (lkF fs f = none → fv.lookup f = none)
  | _, _, .nil => ⟨(fun d h => by cases h), fun _ => rfl⟩
  | (g, d) :: fs, (g', v) :: fv, .cons ⟨e, r⟩ t => by
    have e : g = g' := e
    subst e
    obtain ⟨i1, i2⟩ := PrF.look (f := f) t
    rw [lkF_cons]
    by_cases h : f = g
    · subst h
      rw [if_pos rfl]
      refine ⟨fun d' h => ?_, (fun h => by cases h)⟩
      cases h
      exact ⟨v, by rw [List.lookup_cons, beq_self_eq_true], r⟩
    · rw [if_neg h]
      have hb : (f == g) = false := beq_eq_false_iff_ne.mpr h
      exact ⟨fun d' h' => by rw [List.lookup_cons, hb]; exact i1 d' h', fun h' => by rw [List.lookup_cons, hb]; exact i2 h'⟩
theorem PrF.len : ∀ {fs : List (Str × D)} {fv : List (Str × V)}, PrF K τ H fs fv → fv.length = fs.length
  | _, _, .nil => rfl
  | _, _, .cons _ t => congrArg Nat.succ (PrF.len t)
theorem PrF.put {f : Str} {d : D} {v : V} (r : DR K τ H d v) : ∀ {fs : List (Str × D)} {fv : List (Str × V)}, PrF K τ H fs fv → PrF K τ H (putFD f d fs) (putF f v fv)
  | _, _, .nil => .cons ⟨rfl, r⟩ .nil
  | (g, x) :: fs, (g', y) :: fv, .cons ⟨e, r'⟩ t => by
    have e : g = g' := e
    subst e
    show PrF K τ H (if g = f then (g, d) :: fs else (g, x) :: putFD f d fs) (if g = f then (g, v) :: fv else (g, y) :: putF f v fv)
    split
    · exact .cons ⟨rfl, r⟩ t
    · exact .cons ⟨rfl, r'⟩ (PrF.put r t)
theorem PrF.ext {τ' : TD} {H' : Hp} {fs : List (Str × D)} {fv : List (Str × V)} (p : PrF K τ H fs fv) (e : Ext τ H τ' H') : PrF K τ' H' fs fv := paired_map p fun _ _ z => ⟨z.1, z.2.ext e⟩
/-! ### e.f -/
def dFld (Cs : List Addr) (f : Str) (δ : DE) : DE := fun τ ds k => δ τ ds fun τ1 x => onRef x fun a => onSome (insAt τ1 a) fun p => p.1 ∈ Cs ∧ onSome (lkF p.2 f) fun d => k τ1 d
theorem pd_fld {Cs : List Addr} {f : Str} (hC : ∀ C ∈ Cs, Cls X.K C ∧ NoAttr X.K C f) (he : PD T X E KE e δ) (hb : attributeBase e f X.env (eval e X.env) = eval e X.env := by rfl) : PD T X E KE (.Attribute e f pos) (dFld Cs f δ) := by
  obtain ⟨t, h1, s1⟩ := he.ex
  refine ⟨_, pe_fld h1 hb, fun σ H τ ds k Q j s h xo q => s1 σ H τ ds _ _ j s h xo fun v τ1 H1 x e1 j1 r1 k1 => ?_⟩
  obtain ⟨a, rfl, k1⟩ := onRef_ok k1
  obtain ⟨⟨C, fs⟩, hi, hc, k1⟩ := onSome_ok k1
  obtain ⟨d, hl, k1⟩ := onSome_ok k1
  have r1 : v = .ref a := r1
  obtain ⟨dx, fv, hv, pr⟩ := j1.obj a _ (insAt_iff.mp hi)
  obtain ⟨u, hu, ru⟩ := (PrF.look pr).1 d hl
  exact ⟨a, C, dx, fv, u, r1, hv, (hC C hc).1, (hC C hc).2, hu, q u τ1 H1 d e1 j1 ru k1⟩
/-! ### e.f = v, e.f op= v -/
def dSFld (Cs : List Addr) (f : Str) (δo δv : DE) : DS := fun F τ ds => δv τ ds fun τ1 d => δo τ1 ds fun τ2 x => onRef x fun a => onSome (insAt τ2 a) fun p => p.1 ∈ Cs ∧ p.2.length < 1000 ∧ F.nx (tset τ2 a (.ins p.1 (putFD f d p.2))) ds
theorem pds_fld {Cs : List Addr} {f : Str} {pos' : Pos} (hC : ∀ C ∈ Cs, Cls X.K C ∧ NoAttr X.K C f) (ho : PD T X E KE o δo) (hv : PD T X E KE e δv) (hs : swapsWith e (some (.Attribute o f pos')) pos.line X.env = pure false := by rfl) : PDS T X E KE (.Assign [.Attribute o f pos'] e pos) (dSFld Cs f δo δv) := by
  obtain ⟨to, p1, s1⟩ := ho.ex
  obtain ⟨tv, p2, s2⟩ := hv.ex
  refine ⟨_, ps_fld p1 p2 hs, fun σ H τ ds F D' j s h xo eo => s2 σ H τ ds _ _ j s h xo fun v τ1 H1 d e1 j1 r1 k1 => s1 σ H1 τ1 ds _ _ j1 (s.ext e1) k1 (xo.ext e1) fun w τ2 H2 x e2 j2 r2 k2 => ?_⟩
  obtain ⟨a, rfl, k2⟩ := onRef_ok k2
  obtain ⟨⟨C, fs⟩, hi, hc, hl, k2⟩ := onSome_ok k2
  have r2 : w = .ref a := r2
  have hi := insAt_iff.mp hi
  obtain ⟨dx, fv, hv, pr⟩ := j2.obj a _ hi
  have pr : PrF _ _ _ fs fv := pr
  have ec : Ext τ2 H2 (tset τ2 a (.ins C (putFD f d fs))) (upd H2 a (.ins C dx (putF f v fv))) := .chg hi
  have ee := (e1.trans e2).trans ec
  exact ⟨a, C, dx, fv, r2, hv, (hC C hc).1, (hC C hc).2, by rw [pr.len]; exact hl, eo.nx _ _ ds σ ee (j2.chg (u0 := .ins C fs) hi ⟨dx, _, upd_same, (pr.ext ec).put ((r1.ext e2).ext ec)⟩) (s.ext ee) k2⟩
def dSFldAug (Cs : List Addr) (f : Str) (δo δv : DE) (ρ : D2) : DS := fun F τ ds => δo τ ds fun τ1 x => onRef x fun a => onSome (insAt τ1 a) fun p => p.1 ∈ Cs ∧ onSome (lkF p.2 f) fun d => δv τ1 ds fun τ2 y => ρ τ2 d y fun τ3 z => onSome (insAt τ3 a) fun p' => p'.1 = p.1 ∧ p'.2.length < 1000 ∧ F.nx (tset τ3 a (.ins p.1 (putFD f z p'.2))) ds
theorem pds_fldaug {Cs : List Addr} {f : Str} {tpos : Pos} {op : Operator} {rd : V → V → Hp → VK → Prop} {ρ : D2} (hC : ∀ C ∈ Cs, Cls X.K C ∧ NoAttr X.K C f) (ho : PD T X E KE o δo) (hv : PD T X E KE e δv) (hop : InOp X op rd) (hr : R2ok X.K T rd ρ) : PDS T X E KE (.AugAssign (.Attribute o f tpos) op e pos) (dSFldAug Cs f δo δv ρ) := by
  obtain ⟨to, p1, s1⟩ := ho.ex
  obtain ⟨tv, p2, s2⟩ := hv.ex
  refine ⟨_, ps_fldaug p1 p2 hop, fun σ H τ ds F D' j s h xo eo => s1 σ H τ ds _ _ j s h xo fun w τ1 H1 x e1 j1 r1 k1 => ?_⟩
  obtain ⟨a, rfl, k1⟩ := onRef_ok k1
  obtain ⟨⟨C, fs⟩, hi, hc, k1⟩ := onSome_ok k1
  obtain ⟨d, hl, k1⟩ := onSome_ok k1
  have r1 : w = .ref a := r1
  obtain ⟨dx, fv, hv, pr⟩ := j1.obj a _ (insAt_iff.mp hi)
  obtain ⟨u, hu, ru⟩ := (PrF.look pr).1 d hl
  refine ⟨a, C, dx, fv, u, r1, hv, (hC C hc).1, (hC C hc).2, hu, s2 σ H1 τ1 ds _ _ j1 (s.ext e1) k1 (xo.ext e1) fun vy τ2 H2 y e2 j2 r2 k2 => hr τ2 H2 d y u vy _ _ j2 (ru.ext e2) r2 k2 fun vz τ3 H3 z e3 j3 r3 k3 => ?_⟩
  obtain ⟨⟨C', fs'⟩, hi', ec', hl', k3⟩ := onSome_ok k3
  have ec' : C' = C := ec'
  subst ec'
  have hi' := insAt_iff.mp hi'
  obtain ⟨dx', fv', hv', pr'⟩ := j3.obj a _ hi'
  have pr' : PrF _ _ _ fs' fv' := pr'
  have ec : Ext τ3 H3 (tset τ3 a (.ins C' (putFD f z fs'))) (upd H3 a (.ins C' dx' (putF f vz fv'))) := .chg hi'
  have ee := ((e1.trans e2).trans e3).trans ec
  exact ⟨dx', fv', hv', by rw [pr'.len]; exact hl', eo.nx _ _ ds σ ee (j3.chg (u0 := .ins C' fs') hi' ⟨dx', _, upd_same, (pr'.ext ec).put (r3.ext ec)⟩) (s.ext ee) k3⟩
/-! ### methods -/
def dMeth (C : Addr) (m : Str) (n : Nat) (sp : SpD) (dd : List D) (KE : XD) (δo : DE) (δs : DA) : DE := fun τ ds k => δo τ ds fun τ1 x => onRef x fun a => onSome (insAt τ1 a) fun p => p.1 = C ∧ lkF p.2 m = none ∧ δs τ1 ds fun τ2 xs => (.ref a :: (xs ++ dd)).length = n ∧ sp τ2 (.ref a :: (xs ++ dd)) k KE
theorem sndMeth {C : Addr} {m : Str} {n : Nat} {sp : SpD} {dd : List D} {dvs : List V} {to : TE} {t : TA} (hd : Dfl K dd dvs) (ho : SndE K T E KE to δo) (ha : SndA K T E KE t δs) : SndE K T E KE (tMeth C m (spOf K T n sp) dvs E to t) (dMeth C m n sp dd KE δo δs) := by
  intro σ H τ ds k Q j s h xo q
  refine ho σ H τ ds _ _ j s h xo fun v τ1 H1 x e1 j1 r1 k1 => ?_
  obtain ⟨a, rfl, k1⟩ := onRef_ok k1
  obtain ⟨⟨C', fs⟩, hi, hc, hl, k1⟩ := onSome_ok k1
  have hc : C' = C := hc
  have r1 : v = .ref a := r1
  obtain ⟨dx, fv, hv, pr⟩ := j1.obj a _ (insAt_iff.mp hi)
  refine ⟨a, dx, fv, r1, hc ▸ hv, (PrF.look pr).2 hl, ha σ H1 τ1 ds _ _ j1 (s.ext e1) k1 (xo.ext e1) fun vs τ2 H2 xs e2 j2 r2 k2 => ?_⟩
  exact ⟨τ2, .ref a :: (xs ++ dd), k, KE, j2, ⟨v, _, rfl, r1, r2.append (hd _ _)⟩, k2.1, k2.2, xo.ext (e1.trans e2), fun v τ' H' d e3 j3 r3 k3 => q v τ' H' d ((e1.trans e2).trans e3) j3 r3 k3⟩
theorem pd_meth {C f : Addr} {m : Str} {k : Nat} {fd : FuncData} {ps : List Str} {sp : SpD} {dd : List D} {dvs : List V} {dfs : List Value} {apos : Pos} {pl : Sem Bool} (c : Cls X.K C) (hm : Meth X.K C m f) (F : FnD X.prog X.w X.K X.mg X.base T k f fd ps sp) (hr : Room k X.A) (hb : Binds X.K fd ps dfs) (hd : Vals dvs dfs) (hdd : Dfl X.K dd dvs)
    (hx : Passes (L2.CX X.prog X.w) X E) (ho : PD T X E KE o δo) (ha : PDA T X E KE (e :: es) δs) (hst : starEach (e :: es) X.env = (false, eval e X.env) :: starEach es X.env := by rfl) (hpl : (backTo pos (starEach es X.env)).any (·.1) = false := by rfl)
    (ht : eval (.Call (.Attribute o m apos) (e :: es) [] pos) X.env = (do
      let ov ← eval o X.env
      standAt apos.atName
      let (f, first) ← holding [ov] (getMethod ov m pl)
      callWith pos f first (backTo pos (starEach (e :: es) X.env)) (backToKw pos (keywordEach [] X.env))) := by rfl) : PD T X E KE (.Call (.Attribute o m apos) (e :: es) [] pos) (dMeth C m ps.length sp dd KE δo δs) := by
  obtain ⟨to, p1, s1⟩ := ho.ex
  obtain ⟨t, p2, s2⟩ := ha.ex
  exact ⟨_, pe_meth p1 c hm F hr hb hd hx p2 hst hpl ht, sndMeth hdd s1 s2⟩
theorem snd_nil : SndA K T E KE tNil dNil := fun σ H τ ds k Q j s h xo q => q [] τ H [] (Ext.refl _ _) j rfl h
theorem pd_meth0 {C f : Addr} {m : Str} {k : Nat} {fd : FuncData} {ps : List Str} {sp : SpD} {dd : List D} {dvs : List V} {dfs : List Value} {apos : Pos} {pl : Sem Bool} (c : Cls X.K C) (hm : Meth X.K C m f) (F : FnD X.prog X.w X.K X.mg X.base T k f fd ps sp) (hr : Room k X.A) (hb : Binds X.K fd ps dfs) (hd : Vals dvs dfs) (hdd : Dfl X.K dd dvs)
    (hx : Passes (L2.CX X.prog X.w) X E) (ho : PD T X E KE o δo)
    (ht : eval (.Call (.Attribute o m apos) [] [] pos) X.env = (do
      let ov ← eval o X.env
      standAt apos.atName
      let (f, first) ← holding [ov] (getMethod ov m pl)
      callWith pos f first (backTo pos (starEach [] X.env)) (backToKw pos (keywordEach [] X.env))) := by rfl) : PD T X E KE (.Call (.Attribute o m apos) [] [] pos) (dMeth C m ps.length sp dd KE δo dNil) := by
  obtain ⟨to, p1, s1⟩ := ho.ex
  exact ⟨_, pe_meth0 p1 c hm F hr hb hd hx ht, sndMeth hdd s1 snd_nil⟩
/-! ### new instances -/
def dMake (C : Addr) (n : Nat) (sp : SpD) (dd : List D) (KE : XD) (δs : DA) : DE := fun τ ds k => δs τ ds fun τ1 xs => ∀ a, τ1 a = none → (D.ref a :: (xs ++ dd)).length = n ∧ sp (tset τ1 a (.ins C [])) (.ref a :: (xs ++ dd)) (fun τ2 d => d = .non ∧ k τ2 (.ref a)) KE
theorem sndMake {C : Addr} {n : Nat} {sp : SpD} {dd : List D} {dvs : List V} {t : TA} (hd : Dfl K dd dvs) (ha : SndA K T E KE t δs) : SndE K T E KE (tMake C (spOf K T n sp) dvs E t) (dMake C n sp dd KE δs) := by
  intro σ H τ ds k Q j s h xo q
  refine ha σ H τ ds _ _ j s h xo fun vs τ1 H1 xs e1 j1 r1 k1 a dx ha hdx ne => ?_
  obtain ⟨hl, k2⟩ := k1 a (j1.free ha)
  have en : Ext τ1 H1 τ1 (upd H1 dx (.own a)) := .new hdx
  have jn := j1.new (o := .own a) hdx
  have ha' : upd H1 dx (.own a) a = none := by rw [upd_ne (Ne.symm ne)]; exact ha
  have em : Ext τ1 (upd H1 dx (.own a)) (tset τ1 a (.ins C [])) (upd (upd H1 dx (.own a)) a (.ins C dx [])) := .newM ha'
  have jm : J K T (tset τ1 a (.ins C [])) (upd (upd H1 dx (.own a)) a (.ins C dx [])) := jn.newM ha' ⟨dx, [], upd_same, .nil⟩
  have ee := en.trans em
  exact ⟨_, .ref a :: (xs ++ dd), (fun τ2 d => d = .non ∧ k τ2 (.ref a)), KE, jm, ⟨_, _, rfl, rfl, (r1.ext ee).append (hd _ _)⟩, hl, k2, xo.ext (e1.trans ee), fun v τ' H' d e3 j3 r3 k3 => ⟨by have := k3.1; subst this; exact r3, q _ τ' H' (.ref a) ((e1.trans ee).trans e3) j3 rfl k3.2⟩⟩
theorem pd_make {C f : Addr} {x : Str} {k : Nat} {fd : FuncData} {ps : List Str} {sp : SpD} {dd : List D} {dvs : List V} {dfs : List Value} {p : Pos} (M : Mk X.K C f) (F : FnD X.prog X.w X.K X.mg X.base T k f fd ps sp) (hr : Room (k + 1) X.A) (hg : Gl X x) (hm : X.mg x = some (.ref C)) (hb : Binds X.K fd ps dfs) (hd : Vals dvs dfs) (hdd : Dfl X.K dd dvs)
    (hx : Passes (L2.CX X.prog X.w) X E) (ha : PDA T X E KE (e :: es) δs) (hdb : (x == ("__debug__" : Str)) = false := by decide) (he : starEach (e :: es) X.env = (false, eval e X.env) :: starEach es X.env := by rfl) (hpl : (backTo pos (starEach es X.env)).any (·.1) = false := by rfl) :
    PD T X E KE (.Call (.Name x p) (e :: es) [] pos) (dMake C ps.length sp dd KE δs) := by
  obtain ⟨t, p1, s1⟩ := ha.ex
  exact ⟨_, pe_make M F hr hg hm hb hd hx p1 hdb he hpl, sndMake hdd s1⟩
theorem pd_make0 {C f : Addr} {x : Str} {k : Nat} {fd : FuncData} {ps : List Str} {sp : SpD} {dd : List D} {dvs : List V} {dfs : List Value} {p : Pos} (M : Mk X.K C f) (F : FnD X.prog X.w X.K X.mg X.base T k f fd ps sp) (hr : Room (k + 1) X.A) (hg : Gl X x) (hm : X.mg x = some (.ref C)) (hb : Binds X.K fd ps dfs) (hd : Vals dvs dfs) (hdd : Dfl X.K dd dvs)
    (hx : Passes (L2.CX X.prog X.w) X E) (hdb : (x == ("__debug__" : Str)) = false := by decide) : PD T X E KE (.Call (.Name x p) [] [] pos) (dMake C ps.length sp dd KE dNil) :=
  ⟨_, pe_make0 M F hr hg hm hb hd hx hdb, sndMake hdd snd_nil⟩
/-! ### with keywords only -/
def dMethK (C : Addr) (m : Str) (n : Nat) (sp : SpD) (gD : List D → List D → List D) (KE : XD) (δo : DE) (δk : DA) : DE := fun τ ds k => δo τ ds fun τ1 x => onRef x fun a => onSome (insAt τ1 a) fun p => p.1 = C ∧ lkF p.2 m = none ∧ δk τ1 ds fun τ2 zs => (gD [.ref a] zs).length = n ∧ sp τ2 (gD [.ref a] zs) k KE
theorem pd_methK {C f : Addr} {m : Str} {k n : Nat} {ix : List Nat} {fd : FuncData} {ps ks : List Str} {sp : SpD} {kws : List Keyword} {apos : Pos} {pl : Sem Bool} (c : Cls X.K C) (hm : Meth X.K C m f) (F : FnD X.prog X.w X.K X.mg X.base T k f fd ps sp) (hr : Room k X.A) (hb : KBinds X.K fd ps ks (gK 1 n ix) (gK 1 n ix))
    (hx : Passes (L2.CX X.prog X.w) X E) (ho : PD T X E KE o δo) (hkw : PDK T X E KE kws δk) (hall : (backToKw pos (keywordEach kws X.env)).all (·.1.isSome) = true := by rfl) (hks : (backToKw pos (keywordEach kws X.env)).filterMap (·.1) = ks := by rfl)
    (hpl : ((backTo pos (starEach [] X.env)).any (·.1) || (backToKw pos (keywordEach kws X.env)).any (·.1.isNone)) = false := by rfl)
    (ht : eval (.Call (.Attribute o m apos) [] kws pos) X.env = (do
      let ov ← eval o X.env
      standAt apos.atName
      let (f, first) ← holding [ov] (getMethod ov m pl)
      callWith pos f first (backTo pos (starEach [] X.env)) (backToKw pos (keywordEach kws X.env))) := by rfl) : PD T X E KE (.Call (.Attribute o m apos) [] kws pos) (dMethK C m ps.length sp (gK 1 n ix) KE δo δk) := by
  obtain ⟨to, p1, s1⟩ := ho.ex
  obtain ⟨tk, h2, s2⟩ := hkw.ex
  refine ⟨fun σ H Q => to σ H fun x H1 => ∃ a dx fs, x = .ref a ∧ H1 a = some (.ins C dx fs) ∧ fs.lookup m = none ∧ tk σ H1 fun zs H2 => spOf X.K T ps.length sp (gK 1 n ix [x] zs) H2 Q E, ⟨fun pins s σ H Q I h => ?_⟩, fun σ H τ ds k Q j s h xo q => ?_⟩
  · refine PySem.W.methodCall_KW (pl := pl) (thn (p1.run pins s σ H _ I h) fun u s1 ⟨x, H1, I1, rx, a, dx, fs, ex, ea, l, q⟩ => ?_) ht
    subst ex
    obtain rfl : u = Value.ref a := rx
    refine getmeth_ok I1 ea c hm l ?_
    refine PySem.W.callWith_KW0 (first := [.ref a]) (h₀ := X.base) I.ok.mod.kin hm.kp hall (thn (h2.run pos pins s1 σ H1 _ I1 q) fun ws s2 ⟨zs, H2, I2, rz, q2⟩ => ⟨I2.kIn, ?_⟩) hpl
    rw [hks]
    exact run_fnk (us := [Value.ref a]) (vs := [V.ref a]) F hr hb hx I2 (.cons (show RelV (V.ref a) (Value.ref a) from rfl) .nil) rz q2
  · refine s1 σ H τ ds _ _ j s h xo fun v τ1 H1 x e1 j1 r1 k1 => ?_
    obtain ⟨a, rfl, k1⟩ := onRef_ok k1
    obtain ⟨⟨C', fs⟩, hi, hc, hl, k1⟩ := onSome_ok k1
    have hc : C' = C := hc
    have r1 : v = .ref a := r1
    obtain ⟨dx, fv, hv, pr⟩ := j1.obj a _ (insAt_iff.mp hi)
    refine ⟨a, dx, fv, r1, hc ▸ hv, (PrF.look pr).2 hl, s2 σ H1 τ1 ds _ _ j1 (s.ext e1) k1 (xo.ext e1) fun vs τ2 H2 zs e2 j2 r2 k2 => ?_⟩
    subst r1
    exact ⟨τ2, gK 1 n ix [.ref a] zs, k, KE, j2, drs_gK (ds := [.ref a]) (vs := [.ref a]) ⟨_, _, rfl, rfl, rfl⟩ r2 1 n ix, k2.1, k2.2, xo.ext (e1.trans e2), fun v τ' H' d e3 j3 r3 k3 => q v τ' H' d ((e1.trans e2).trans e3) j3 r3 k3⟩
def dMakeK (C : Addr) (n : Nat) (sp : SpD) (gD : List D → List D → List D) (KE : XD) (δk : DA) : DE := fun τ ds k => δk τ ds fun τ1 zs => ∀ a, τ1 a = none → (gD [.ref a] zs).length = n ∧ sp (tset τ1 a (.ins C [])) (gD [.ref a] zs) (fun τ2 d => d = .non ∧ k τ2 (.ref a)) KE
theorem run_makeKB {X : Cx} {CX : CXT} {k : Nat} {f C : Addr} {fd : FuncData} {ps ks : List Str} {sp : Sp} {E : XK} {g : List Value → List Value → List Value} {gV : List V → List V → List V} {pins : List (Addr × Obj)} {σ : L2.St} {H : Hp} {s : Shared} {Q : VK} {ws : List Value} {zs : List V} (M : Mk X.K C f) (F : FnOk X.prog X.w X.K X.mg X.base CX k f fd ps sp) (hr : Room (k + 1) X.A) (hb : KBinds X.K fd ps ks g gV)
    (hx : Passes CX X E) (I : Inv X pins σ H s) (rz : Vals zs ws)
    (h : ∀ x dx, H x = none → H dx = none → dx ≠ x → sp (gV [.ref x] zs) (upd (upd H dx (.own x)) x (.ins C dx [])) (fun v H2 => v = .non ∧ Q (.ref x) H2) E) :
    wpAny (model X.prog X.w) X.A (call (.ref C) [] (ks.zip ws)) (EP X pins σ Q) X.xe s := by
  have hq := h (s.heap.objs.size + 1) s.heap.objs.size (I.hok.fresh (Nat.le_succ _)) (I.hok.fresh (Nat.le_refl _)) (Nat.ne_of_lt (Nat.lt_succ_self _))
  have I2 := Inv.made (C := C) I
  have r1 : Vals [V.ref (s.heap.objs.size + 1)] [Value.ref (s.heap.objs.size + 1)] := .cons rfl .nil
  have r2 := hb.rel r1 rz
  have hl : (g [Value.ref (s.heap.objs.size + 1)] ws).length = ps.length := by rw [← r2.length]; exact F.len _ _ _ _ hq
  refine wpAny_call (make_map (f := f) I.kIn M.makes M.init (beq_iff_eq.mp M.fn) (codeAny_mono (F.run _ X.stack _ _ ⟨[Value.ref (s.heap.objs.size + 1)], ks.zip ws⟩ (g [Value.ref (s.heap.objs.size + 1)] ws) _ _ E (hr.make C [] (ks.zip ws))
    (I2.env0.make C [] (ks.zip ws)) (hb.to _ [Value.ref (s.heap.objs.size + 1)] ws I2.kIn hl) r2 hq) fun r s' hq' => ?_))
  cases r with
  | error e => exact hx pins σ _ _ e s' I2 hq'
  | ok fl =>
    cases fl with
    | ret u =>
      obtain ⟨v, H', I3, rv, ev, q3⟩ := I2.after hq'
      subst ev
      exact ⟨rv, ⟨V.ref (s.heap.objs.size + 1), H', I3, rfl, q3⟩⟩
    | next => exact False.elim hq'
    | brk => exact False.elim hq'
    | cont => exact False.elim hq'
theorem pd_makeK {C f : Addr} {x : Str} {k n : Nat} {ix : List Nat} {fd : FuncData} {ps ks : List Str} {sp : SpD} {kws : List Keyword} {p : Pos} (M : Mk X.K C f) (F : FnD X.prog X.w X.K X.mg X.base T k f fd ps sp) (hr : Room (k + 1) X.A) (hg : Gl X x) (hm : X.mg x = some (.ref C)) (hb : KBinds X.K fd ps ks (gK 1 n ix) (gK 1 n ix))
    (hx : Passes (L2.CX X.prog X.w) X E) (hkw : PDK T X E KE kws δk) (hall : (backToKw pos (keywordEach kws X.env)).all (·.1.isSome) = true := by rfl) (hks : (backToKw pos (keywordEach kws X.env)).filterMap (·.1) = ks := by rfl)
    (hdb : (x == ("__debug__" : Str)) = false := by decide)
    (hpl : ((backTo pos (starEach [] X.env)).any (·.1) || (backToKw pos (keywordEach kws X.env)).any (·.1.isNone)) = false := by rfl) : PD T X E KE (.Call (.Name x p) [] kws pos) (dMakeK C ps.length sp (gK 1 n ix) KE δk) := by
  obtain ⟨tk, h2, s2⟩ := hkw.ex
  refine ⟨fun σ H Q => tk σ H fun zs H2 => ∀ a dx, H2 a = none → H2 dx = none → dx ≠ a → spOf X.K T ps.length sp (gK 1 n ix [.ref a] zs) (upd (upd H2 dx (.own a)) a (.ins C dx [])) (fun v H3 => v = .non ∧ Q (.ref a) H3) E, ⟨fun pins s σ H Q I h => ?_⟩, fun σ H τ ds k Q j s h xo q => ?_⟩
  · refine wpAny_Call_Name_kw (ld_glob I hg hm ?_ hdb)
    refine PySem.W.callWith_KW0 (h₀ := X.base) I.ok.mod.kin M.kp hall (thn (h2.run pos pins s σ H _ I h) fun ws s2 ⟨zs, H2, I2, rz, q2⟩ => ⟨I2.kIn, ?_⟩) hpl
    rw [hks]
    exact run_makeKB M F hr hb hx I2 rz q2
  · refine s2 σ H τ ds _ _ j s h xo fun vs τ1 H1 zs e1 j1 r1 k1 a dx ha hdx ne => ?_
    obtain ⟨hl, k2⟩ := k1 a (j1.free ha)
    have en : Ext τ1 H1 τ1 (upd H1 dx (.own a)) := .new hdx
    have jn := j1.new (o := .own a) hdx
    have ha' : upd H1 dx (.own a) a = none := by rw [upd_ne (Ne.symm ne)]; exact ha
    have em : Ext τ1 (upd H1 dx (.own a)) (tset τ1 a (.ins C [])) (upd (upd H1 dx (.own a)) a (.ins C dx [])) := .newM ha'
    have jm : J X.K T (tset τ1 a (.ins C [])) (upd (upd H1 dx (.own a)) a (.ins C dx [])) := jn.newM ha' ⟨dx, [], upd_same, .nil⟩
    have ee := en.trans em
    exact ⟨_, gK 1 n ix [.ref a] zs, (fun τ2 d => d = .non ∧ k τ2 (.ref a)), KE, jm, drs_gK (ds := [.ref a]) (vs := [.ref a]) ⟨_, _, rfl, rfl, rfl⟩ (r1.ext ee) 1 n ix, hl, k2, xo.ext (e1.trans ee), fun v τ' H' d e3 j3 r3 k3 => ⟨by have := k3.1; subst this; exact r3, q _ τ' H' (.ref a) ((e1.trans ee).trans e3) j3 rfl k3.2⟩⟩
end
end DL

set_option Elab.async false
set_option linter.all false
set_option maxRecDepth 100000
set_option maxHeartbeats 1000000
/-! The data layer, 19: sorted(d.items()). -/
namespace DL
open PySem PySem.Spec PyProof.Rows L2 DX
section
variable {T : List (Addr × Str)} {X : Cx} {E : XK} {KE : XD} {K : PySem.W.Frag} {τ : TD} {H : Hp} {e o : Expr} {es : List Expr} {pos : Pos} {δ δo δv : DE} {δs δk : DA}
def keyPy : Key → PyData
  | .inl i => .int i
  | .inr s => .str s
def itPy (z : (Key × V) × PyData) : PyData := .tuple [keyPy z.1.1, z.2]
/-! ### d.items() of a dict of ints or texts -/
def rItemsK : V → List V → Hp → VK → Prop := fun x xs H Q => ∃ (a : Addr) (kvs : List (Key × V)), x = .ref a ∧ xs = [] ∧ H a = some (.dK kvs) ∧ ∀ p, H p = none → Q (.ref p) (upd H p (itemsO p a))
theorem mt_itemsK : MtR X "dict.items" rItemsK := by
  intro pins s σ H x xs v us Q I rx rxs h
  obtain ⟨a, kvs, rfl, rfl, ha, q⟩ := h
  cases rx
  cases rxs
  obtain ⟨z, hd, vs', rel, o, es, ep, ho, hx, hdat, _⟩ := dk_of I.hok ha
  refine DT.callItems (es := es) (ep := ep) hd ⟨o, ho, hx, hdat⟩ ?_
  have hf : H s.heap.objs.size = none := I.hok.fresh (Nat.le_refl _)
  exact ⟨.ref s.heap.objs.size, upd H s.heap.objs.size (itemsO s.heap.objs.size a), I.laid (t' := s.toks) (fun b u e => Heap.get?_push_of_some _ e) (Nat.le_refl _) (itemsO_ok (Heap.get?_push_size _ rfl)), rfl, q _ hf⟩
def rSortItK (K : PySem.W.Frag) : List V → Hp → VK → Prop := fun vs H Q => ∃ (p a : Addr) (kvs : List (Key × V)) (ps : List PyData), vs = [.ref p] ∧ H p = some (itemsO p a) ∧ H a = some (.dK kvs) ∧ DpAll K H (kvs.map Prod.snd) ps ∧
  PySem.W.AllAlike ((kvs.zip ps).map itPy) ∧ (∀ p ∈ ps, PyData.depth p ≤ 59) ∧
  ∀ (H' : Hp) (l : Addr) (ts : List Addr), (∀ b o, H b = some o → H' b = some o) → H l = none → H' l = some (.lst (ts.map V.ref)) → (∀ t ∈ ts, H t = none) →
    Paired (fun (t : Addr) (z : (Key × V) × PyData) => H' t = some (.tup [kV z.1.1, z.1.2])) ts ((kvs.zip ps).mergeSort (PySem.W.dataLe false itPy)) → Q (.ref l) H'
theorem pairs_at {prog : Program} {w : World} {κ : Type} [DecidableEq κ] {knd : PySem.KeyKind prog w κ} : ∀ {es : List DictEntry} {kvs : List (κ × Value)}, Pairs knd es kvs → ∀ (j : Nat) (e : DictEntry), es[j]? = some e → ∃ kv, kvs[j]? = some kv ∧ knd.is kv.1 e.key = true ∧ e.val = kv.2
  | _, _, .nil, j, e, h => by simp at h
  | _, _, .cons h1 h2 t, 0, e, h => by
    simp at h
    subst h
    exact ⟨_, rfl, h1, h2⟩
  | _, _, .cons h1 h2 t, j + 1, e, h => by
    obtain ⟨kv, a, b⟩ := pairs_at t j e (by simpa using h)
    exact ⟨kv, by simpa using a, b⟩
theorem dpAll_at : ∀ {xs : List V} {ps : List PyData}, DpAll K H xs ps → ∀ (j : Nat) (x : V) (p : PyData), xs[j]? = some x → ps[j]? = some p → Dp K H x p
  | _, _, .nil, j, x, p, h, _ => by simp at h
  | _, _, .cons d ds, 0, x, p, h1, h2 => by
    simp at h1 h2
    subst h1 h2
    exact d
  | _, _, .cons d ds, j + 1, x, p, h1, h2 => dpAll_at ds j x p (by simpa using h1) (by simpa using h2)
theorem each_of {α β : Type} {R : α → β → Prop} : ∀ {l : List α} {m : List β}, l.length = m.length → (∀ (j : Nat) (a : α) (b : β), l[j]? = some a → m[j]? = some b → R a b) → PySem.W.EachIs R l m
  | [], [], _, _ => .nil
  | a :: l, b :: m, hl, h => .cons (h 0 a b rfl rfl) (each_of (by simpa using hl) fun j a b h1 h2 => h (j + 1) a b (by simpa using h1) (by simpa using h2))
  | [], _ :: _, hl, _ => by simp at hl
  | _ :: _, [], hl, _ => by simp at hl
theorem paired_of {α β : Type} {R : α → β → Prop} : ∀ {γ : Type} {l : List γ} (f : γ → α) (g : γ → β), (∀ z ∈ l, R (f z) (g z)) → Paired R (l.map f) (l.map g)
  | _, [], _, _, _ => .nil
  | _, z :: l, f, g, h => .cons (h z List.mem_cons_self) (paired_of f g fun y hy => h y (List.mem_cons_of_mem _ hy))
theorem each_refs {β : Type} : ∀ {us : List Value} {bs : List (Addr × β)}, PySem.W.EachIs (fun u b => u = Value.ref b.1) us bs → us = bs.map fun b => Value.ref b.1
  | _, _, .nil => rfl
  | _, _, .cons h t => by rw [h, each_refs t]; rfl
theorem cr_sortItK (hc : X.calm = true) (hu : X.A.units + 64 < cLine) : CallR X (.builtin "sorted") (rSortItK X.K) := by
  intro pins s σ H xs us Q I r h
  obtain ⟨p, a, kvs, ps, rfl, hp, ha, hdp, hal, hdep, q⟩ := h
  obtain rfl := Vals.ref1 r
  have view : s.heap.IsItemsView p a := (show ObjOk X.prog X.w H s.heap p (itemsO p a) from I.hok p _ hp).1
  obtain ⟨z, hd, vs', rel, o, es, ep, ho, hx, hdat, hkk, hpr, hnd⟩ := dk_of I.hok ha
  have l1 : kvs.length = vs'.length := Paired.length rel
  have l2 : es.size = vs'.length := by have := hpr.length; simpa using this
  have l3 : kvs.length = ps.length := by have := dp_len hdp; simpa using this
  have hh : X.A.handled = none := I.ok.hd hc
  refine DT.sortedI (es := es) (ep := ep) hh view ⟨o, ho, hx, hdat⟩ (by omega) fun h' tk as hk hlt hl hG => ?_
  have nd : as.Nodup := List.Pairwise.imp (fun h => Nat.ne_of_lt h) hG.rise
  have pr : ∀ (j : Nat) (b : Addr), as[j]? = some b → ∃ (k : Key) (v : V) (key u : Value), kvs[j]? = some (k, v) ∧ RelV (kV k) key ∧ RelV v u ∧ h'.get? b = some { cls := .type "tuple", data := .seq #[key, u] } := by
    intro j b hj
    obtain ⟨en, he, hg⟩ := hG.pairs j b hj
    obtain ⟨kv, hkv, h1, h2⟩ := pairs_at hpr j en (by simpa using he)
    have hjl : j < kvs.length := by
      have := (List.getElem?_eq_some_iff.mp hkv).1
      omega
    obtain ⟨⟨k, v⟩, hz⟩ : ∃ z, kvs[j]? = some z := ⟨kvs[j], List.getElem?_eq_getElem hjl⟩
    obtain ⟨u, hu', ru⟩ := kv_get rel hz
    rw [hkv] at hu'
    cases hu'
    have h2 : en.val = u := h2
    exact ⟨k, v, en.key, u, hz, relV_key h1, ru, by rw [hg, h2]⟩
  have hob : (h'.push { cls := .type "list", data := .seq (as.map Value.ref).toArray }).get? h'.objs.size = some (seqObj "list" (as.map Value.ref).toArray 0) := Heap.get?_push_size _ rfl
  have kb : ∀ b o, s.heap.get? b = some o → (h'.push { cls := .type "list", data := .seq (as.map Value.ref).toArray }).get? b = some o := fun b o e => Heap.get?_push_of_some _ (hk b o e)
  have ne0 : ∀ b o, h'.get? b = some o → b ≠ h'.objs.size := fun b o e => Nat.ne_of_lt (Heap.lt_size e)
  generalize hh2 : h'.push { cls := .type "list", data := .seq (as.map Value.ref).toArray } = h2 at hob kb ⊢
  have ka : ∀ b o, h'.get? b = some o → h2.get? b = some o := fun b o e => by rw [← hh2]; exact Heap.get?_push_of_some _ e
  have lz : (kvs.zip ps).length = as.length := by rw [List.length_zip]; omega
  have zat : ∀ (j : Nat) (z : (Key × V) × PyData), (kvs.zip ps)[j]? = some z → kvs[j]? = some z.1 ∧ ps[j]? = some z.2 := fun j z h => List.getElem?_zip_eq_some.mp h
  -- the items in the heap of the sort
  have kG : ∀ b o, s.heap.get? b = some o → (PySem.W.sortingHeap h2 h'.objs.size (as.map Value.ref)).get? b = some o := fun b o e => PySem.W.sortingHeap_old (ne0 _ _ (hk b o e)) (kb b o e)
  have er : PySem.W.EachIs (fun v (b : Addr × ((Key × V) × PyData)) => ∃ as', Reads (PySem.W.sortingHeap h2 h'.objs.size (as.map Value.ref)) v (itPy b.2) as') (as.map Value.ref) (as.zip (kvs.zip ps)) := by
    refine each_of (by rw [List.length_map, List.length_zip, lz, Nat.min_self]) fun j v b h1 h2' => ?_
    obtain ⟨b1, b2⟩ := List.getElem?_zip_eq_some.mp h2'
    obtain ⟨z1, z2⟩ := zat j b.2 b2
    obtain ⟨k, v0, key, u, e1, e2, e3, e4⟩ := pr j b.1 b1
    rw [z1] at e1
    have e1 : b.2.1 = (k, v0) := Option.some.inj e1
    rw [List.getElem?_map, b1] at h1
    have h1 : Value.ref b.1 = v := Option.some.inj h1
    subst h1
    have hd0 : Dp X.K H v0 b.2.2 := dpAll_at hdp j v0 b.2.2 (by rw [List.getElem?_map, z1, e1]; rfl) z2
    obtain ⟨as0, rd0⟩ := hd0.reads I _ _ _ e3
    have rk : ∃ as1, Reads (PySem.W.sortingHeap h2 h'.objs.size (as.map Value.ref)) key (keyPy k) as1 := by
      cases k with
      | inl i => obtain ⟨t, rfl⟩ := e2; exact ⟨_, .int _ _⟩
      | inr x => obtain ⟨t, rfl⟩ := e2; exact ⟨_, .str _ _⟩
    obtain ⟨as1, rk⟩ := rk
    rw [show itPy b.2 = .tuple [keyPy k, b.2.2] by unfold itPy; rw [e1]]
    exact ⟨_, .tuple (PySem.W.sortingHeap_old (ne0 _ _ e4) (ka _ _ e4)) rfl rfl (.cons rk (.cons (PyProof.Rows.Reads.keeps kG rd0) .nil))⟩
  have eR : PySem.W.EachIs (fun v (b : Addr × ((Key × V) × PyData)) => v = Value.ref b.1) (as.map Value.ref) (as.zip (kvs.zip ps)) := by
    refine each_of (by rw [List.length_map, List.length_zip, lz, Nat.min_self]) fun j v b h1 h2' => ?_
    obtain ⟨b1, _⟩ := List.getElem?_zip_eq_some.mp h2'
    rw [List.getElem?_map, b1] at h1
    exact (Option.some.inj h1).symm
  have esnd : (as.zip (kvs.zip ps)).map Prod.snd = kvs.zip ps := List.map_snd_zip (by omega)
  have efst : (as.zip (kvs.zip ps)).map Prod.fst = as := List.map_fst_zip (by omega)
  have emap : (as.zip (kvs.zip ps)).map (fun b => itPy b.2) = (kvs.zip ps).map itPy := by
    rw [← esnd, List.map_map, esnd]; rfl
  have hal' : PySem.W.AllAlike ((as.zip (kvs.zip ps)).map fun b => itPy b.2) := by rw [emap]; exact hal
  refine wpAny_call_entry PyProof.Rows.slot_list_sort ⟨_, hob, rfl⟩ PyProof.Rows.entry_list_sort (PySem.W.list_sort_vals (s := { s with heap := h2, toks := tk }) (κ := PySem.W.dataKind (PySem.W.sortingHeap h2 h'.objs.size (as.map Value.ref)) ((as.zip (kvs.zip ps)).map fun b => itPy b.2)) hob
    (PySem.W.SortsAt.data (s := { s with heap := PySem.W.sortingHeap h2 h'.objs.size (as.map Value.ref), toks := tk }) (PySem.W.each_map (R := fun v d => ∃ as', Reads (PySem.W.sortingHeap h2 h'.objs.size (as.map Value.ref)) v d as') (fun b : Addr × ((Key × V) × PyData) => itPy b.2) er) hal' (PySem.W.Sortable.tuples (enc := fun b : Addr × ((Key × V) × PyData) => itPy b.2) fun b => ⟨_, _, rfl⟩) fun d hd => ?_)
    (by rw [List.length_map]; omega) ⟨.none, rfl, ?_⟩) (PyProof.Rows.args_list_sort _)
  · obtain ⟨b, hb, rfl⟩ := List.mem_map.mp hd
    have hm : b.2.2 ∈ ps := by
      have : b.2 ∈ kvs.zip ps := by rw [← esnd]; exact List.mem_map.mpr ⟨b, hb, rfl⟩
      exact (List.of_mem_zip this).2
    have := hdep _ hm
    have hk0 : (keyPy b.2.1.1).depth = 0 := by cases b.2.1.1 <;> rfl
    show X.A.units + 1 + 1 + (PyData.tuple [keyPy b.2.1.1, b.2.2]).depth < cLine
    simp only [PyData.depth, PyData.depthAll, hk0]
    omega
  · have eo := PySem.W.sortVals_data (enc := fun b : Addr × ((Key × V) × PyData) => itPy b.2) false eR er hal'
    generalize hout : PySem.W.sortVals (PySem.W.dataKind (PySem.W.sortingHeap h2 h'.objs.size (as.map Value.ref)) ((as.zip (kvs.zip ps)).map fun b => itPy b.2)) false (as.map Value.ref) (as.map Value.ref) = out at eo ⊢
    show EP X pins σ Q (.ref h'.objs.size) { s with heap := sortedHeap h2 h'.objs.size (as.map Value.ref) out.toArray, toks := tk }
    generalize hsb : (as.zip (kvs.zip ps)).mergeSort (PySem.W.dataLe false fun b : Addr × ((Key × V) × PyData) => itPy b.2) = sb at eo
    have hperm : sb.Perm (as.zip (kvs.zip ps)) := by rw [← hsb]; exact List.mergeSort_perm _ _
    have hmap : sb.map Prod.snd = (kvs.zip ps).mergeSort (PySem.W.dataLe false itPy) := by
      rw [← hsb, List.map_mergeSort (r := PySem.W.dataLe false fun b : Addr × ((Key × V) × PyData) => itPy b.2) (s := PySem.W.dataLe false itPy) (f := Prod.snd) (fun a _ b _ => rfl), esnd]
    have hout := each_refs eo
    have hlen : sb.length = as.length := by rw [hperm.length_eq, List.length_zip, lz, Nat.min_self]
    have kF : ∀ b o, b ≠ h'.objs.size → h2.get? b = some o → (sortedHeap h2 h'.objs.size (as.map Value.ref) out.toArray).get? b = some o := fun b o hb e => (PyProof.Rows.sortedHeap_old hb (Heap.lt_size e)).trans e
    have kS : ∀ b o, s.heap.get? b = some o → (sortedHeap h2 h'.objs.size (as.map Value.ref) out.toArray).get? b = some o := fun b o e => kF b o (ne0 _ _ (hk b o e)) (kb b o e)
    obtain ⟨eF, heF⟩ := PyProof.Rows.sortedHeap_at (vs := as.map Value.ref) (out := out.toArray) hob
    have I1 : Inv X pins σ H { s with heap := sortedHeap h2 h'.objs.size (as.map Value.ref) out.toArray, toks := tk } := I.kept (t' := tk) kS
    have hn0 : H h'.objs.size = none := I.hok.fresh (Nat.le_of_lt hlt)
    have rv : Vals ((sb.map Prod.fst).map V.ref) out := by
      rw [hout, List.map_map]
      exact vals_maps (fun b : Addr × ((Key × V) × PyData) => V.ref b.1) (fun b => Value.ref b.1) sb fun _ _ => rfl
    have I2 : Inv X pins σ (upd H h'.objs.size (.lst ((sb.map Prod.fst).map V.ref))) { s with heap := sortedHeap h2 h'.objs.size (as.map Value.ref) out.toArray, toks := tk } :=
      I1.take (h' := sortedHeap h2 h'.objs.size (as.map Value.ref) out.toArray) (t' := tk) (fun b ob _ e => e) (I.fpOk (Nat.le_of_lt hlt) hn0) ⟨by rw [List.length_map, List.length_map]; omega, out, eF, rv, heF⟩
    have at_none : ∀ b ∈ as, H b = none := fun b hb => I.hok.fresh (Nat.le_of_lt (hG.above b hb))
    obtain ⟨H2, I3, g, qt⟩ := takeT (P := fun b vs => ∃ (j : Nat) (k : Key) (v : V), as[j]? = some b ∧ kvs[j]? = some (k, v) ∧ vs = [kV k, v]) I as _ I2 nd fun b hb => by
      obtain ⟨j, hj⟩ := List.mem_iff_getElem?.mp hb
      obtain ⟨k, v, key, u, e1, e2, e3, e4⟩ := pr j b hj
      refine ⟨Nat.le_of_lt (hG.above b hb), ?_, [kV k, v], ⟨j, k, v, hj, e1, rfl⟩, fun H3 => ⟨(by rw [sizeLine_eq]; show 2 ≤ 16777216; omega), [key, u], .cons e2 (.cons e3 .nil), ⟨_, kF _ _ (ne0 _ _ e4) (ka _ _ e4), rfl, 0, rfl⟩⟩⟩
      rw [upd_ne (ne0 _ _ e4)]
      exact at_none b hb
    have gr : ∀ b o, H b = some o → H2 b = some o := fun b o e => g b o (by rw [upd_ne (ne_of_none e hn0)]; exact e)
    refine ⟨.ref h'.objs.size, H2, I3, rfl, q H2 h'.objs.size (sb.map Prod.fst) gr hn0 (g _ _ upd_same) (fun t ht => ?_) ?_⟩
    · obtain ⟨b, hb, rfl⟩ := List.mem_map.mp ht
      exact at_none _ (List.of_mem_zip (hperm.mem_iff.mp hb)).1
    · rw [← hmap]
      refine paired_of Prod.fst Prod.snd fun b hb => ?_
      obtain ⟨j, hj⟩ := List.mem_iff_getElem?.mp (hperm.mem_iff.mp hb)
      obtain ⟨b1, b2⟩ := List.getElem?_zip_eq_some.mp hj
      obtain ⟨z1, z2⟩ := zat j b.2 b2
      obtain ⟨vs, ⟨i, k, v, i1, i2, ev⟩, hH⟩ := qt b.1 (List.mem_of_getElem? b1)
      have eij : i = j := (List.getElem?_inj (List.getElem?_eq_some_iff.mp i1).1 nd).mp (i1.trans b1.symm)
      subst eij
      rw [z1] at i2
      have e1 : b.2.1 = (k, v) := Option.some.inj i2
      rw [hH, ev, e1]
/-! ### over data -/
theorem Ext.grow {H' : Hp} (h : ∀ b o, H b = some o → H' b = some o) : Ext τ H τ H' := ⟨fun a o e _ _ => h a o e, fun a o e t _ => t, fun a o e t _ => t⟩
theorem J.grow {H' : Hp} (j : J K T τ H) (h : ∀ b o, H b = some o → H' b = some o) : J K T τ H' :=
  ⟨fun a u e => dok_map (j.obj a u e) (fun w q => h a w q) (fun _ _ z => z.ext (.grow h)) (fun _ _ z => z.ext (.grow h)), j.tabs.ext fun b o q => h b o q⟩
def kD : Key → D
  | .inl i => .int i
  | .inr s => .str s
theorem kD_ok {k : Key} : DR K τ H (kD k) (kV k) := by cases k <;> exact rfl
theorem pyOf_kD {k : Key} : pyOf (kD k) = some (keyPy k) := by cases k <;> rfl
def pairKD (z : Key × D) : D := .tup [kD z.1, z.2]
theorem pyOf_pair {z : Key × D} : pyOf (pairKD z) = (pyOf z.2).map fun p => .tuple [keyPy z.1, p] := by
  unfold pairKD
  rw [pyOf_tup, pyAll_cons, pyOf_kD, pyAll_cons]
  cases pyOf z.2 <;> rfl
theorem pyAll_pairs : ∀ {kvs : List (Key × D)} {qs : List PyData}, pyAll (kvs.map pairKD) = some qs → ∃ ps, pyAll (kvs.map Prod.snd) = some ps ∧ qs = (kvs.zip ps).map fun z => .tuple [keyPy z.1.1, z.2]
  | [], qs, h => by cases h; exact ⟨[], rfl, rfl⟩
  | z :: kvs, qs, h => by
    rw [List.map_cons, pyAll_cons, pyOf_pair] at h
    cases e1 : pyOf z.2 with
    | none => rw [e1] at h; cases h
    | some p =>
      rw [e1] at h
      cases e2 : pyAll (kvs.map pairKD) with
      | none => rw [e2] at h; cases h
      | some qs' =>
        rw [e2] at h
        cases h
        obtain ⟨ps, h1, h2⟩ := pyAll_pairs e2
        refine ⟨p :: ps, by rw [List.map_cons, pyAll_cons, e1, h1], ?_⟩
        rw [List.zip_cons_cons, List.map_cons, h2]
theorem paired_at {α β : Type} {R : α → β → Prop} : ∀ {l : List α} {m : List β}, Paired R l m → ∀ (j : Nat) (a : α) (b : β), l[j]? = some a → m[j]? = some b → R a b
  | _, _, .nil, j, a, b, h, _ => by simp at h
  | _, _, .cons r t, 0, a, b, h1, h2 => by
    simp at h1 h2
    subst h1 h2
    exact r
  | _, _, .cons r t, j + 1, a, b, h1, h2 => paired_at t j a b (by simpa using h1) (by simpa using h2)
theorem drs_snd : ∀ {kvs : List (Key × D)} {kv : List (Key × V)}, Paired (fun (p : Key × D) (q : Key × V) => p.1 = q.1 ∧ DR K τ H p.2 q.2) kvs kv → DRs K τ H (kvs.map Prod.snd) (kv.map Prod.snd)
  | _, _, .nil => rfl
  | _, _, .cons r t => ⟨_, _, rfl, r.2, drs_snd t⟩
def dSortIt (δ : DE) : DE := fun τ ds k => δ τ ds fun τ1 x => onRef x fun a => onSome (dkW τ1 a) fun kvs => sortOk (kvs.map pairKD) ∧ k τ1 (.lst ((kvs.map pairKD).mergeSort leD))
theorem drs_zip {α : Type} {H' : Hp} {τ' : TD} : ∀ {ts : List Addr} {zs : List α} (f : α → D), Paired (fun t z => DR K τ' H' (f z) (.ref t)) ts zs → DRs K τ' H' (zs.map f) (ts.map V.ref)
  | _, _, _, .nil => rfl
  | _, _, f, .cons r t => ⟨_, _, rfl, r, drs_zip f t⟩
theorem pd_sortIt {apos cpos : Pos} {p : Pos} (hc : X.calm = true) (hu : X.A.units + 64 < cLine) (hg : Gl X "sorted") (hm : X.mg "sorted" = none) (ho : PD T X E KE o δ) (hbase : attributeBase o "items" X.env (eval o X.env) = eval o X.env := by rfl) (hline : (apos.endLine == cpos.line) = true := by rfl)
    (he : starEach [Expr.Call (.Attribute o "items" apos) [] [] cpos] X.env = (false, eval (.Call (.Attribute o "items" apos) [] [] cpos) X.env) :: starEach [] X.env := by rfl) (hpl : (backTo pos (starEach [] X.env)).any (·.1) = false := by rfl) :
    PD T X E KE (.Call (.Name "sorted" p) [.Call (.Attribute o "items" apos) [] [] cpos] [] pos) (dSortIt δ) := by
  obtain ⟨to, p1, s1⟩ := ho.ex
  refine ⟨_, pe_callB (cr_sortItK hc hu) hg hm boot_sorted (pa_cons (pe_bm0 PySem.F.plainAttrs_dict PySem.F.slot_dict_items PySem.F.type_dict_items mt_itemsK p1 hbase hline) pa_nil) (by decide) (by decide) he hpl, fun σ H τ ds k Q j s h xo q => s1 σ H τ ds _ _ j s h xo fun v τ1 H1 x e1 j1 r1 k1 => ?_⟩
  obtain ⟨a, rfl, k1⟩ := onRef_ok k1
  obtain ⟨kvs, h1, ⟨qs, hq, hal, _, hdep⟩, k1⟩ := onSome_ok k1
  have r1 : v = .ref a := r1
  subst r1
  have h1 := dkW_iff h1
  obtain ⟨kv, g1, pr⟩ := j1.obj a _ h1
  obtain ⟨ps, hps, rfl⟩ := pyAll_pairs hq
  have lp : ps.length = kvs.length := by rw [pyAll_pyD hps]; simp
  have lk : kv.length = kvs.length := (Paired.length pr).symm
  refine ⟨.inr (.inr (.inl ⟨rfl, .inl ⟨kv, g1⟩⟩)), a, kv, rfl, rfl, g1, fun pv hpv => ?_⟩
  have gro : ∀ b o, H1 b = some o → upd H1 pv (itemsO pv a) b = some o := fun b o e => by rw [upd_ne (ne_of_none e hpv)]; exact e
  have eqz : (kv.zip ps).map itPy = (kvs.zip ps).map fun z => .tuple [keyPy z.1.1, z.2] := by
    refine List.ext_getElem? fun j => ?_
    rw [List.getElem?_map, List.getElem?_map]
    cases e1 : (kv.zip ps)[j]? with
    | none =>
      have : (kvs.zip ps)[j]? = none := by
        rw [List.getElem?_eq_none_iff] at e1 ⊢
        rw [List.length_zip] at e1 ⊢
        omega
      rw [this]; rfl
    | some z =>
      obtain ⟨a1, a2⟩ := List.getElem?_zip_eq_some.mp e1
      obtain ⟨y, hy⟩ : ∃ y, kvs[j]? = some y := by
        have := (List.getElem?_eq_some_iff.mp a1).1
        exact ⟨kvs[j]'(by omega), List.getElem?_eq_getElem (by omega)⟩
      have : (kvs.zip ps)[j]? = some (y, z.2) := List.getElem?_zip_eq_some.mpr ⟨hy, a2⟩
      rw [this]
      have := (paired_at pr j y z.1 hy a1).1
      show some (PyData.tuple [keyPy z.1.1, z.2]) = some (PyData.tuple [keyPy y.1, z.2])
      rw [this]
  refine ⟨pv, a, kv, ps, rfl, upd_same, by rw [upd_ne (ne_of_none g1 hpv)]; exact g1, ?_, by rw [eqz]; exact hal, fun p hp => ?_, fun H' l ts gr hl hl' hts pz => ?_⟩
  · exact pyAll_ok _ _ _ ((drs_snd pr).ext (.grow gro)) hps
  · obtain ⟨i, hi⟩ := List.mem_iff_getElem?.mp hp
    have hik : i < kvs.length := by
      have := (List.getElem?_eq_some_iff.mp hi).1
      omega
    have hm : ((kvs[i], p) : (Key × D) × PyData) ∈ kvs.zip ps := List.mem_of_getElem? (List.getElem?_zip_eq_some.mpr ⟨List.getElem?_eq_getElem hik, hi⟩)
    have := hdep _ (List.mem_map.mpr ⟨_, hm, rfl⟩)
    simp only [PyData.depth, PyData.depthAll] at this
    omega
  · -- the sorted items
    have eg : Ext τ1 H1 τ1 H' := .grow fun b o e => gr b o (gro b o e)
    have hzl : (kv.zip ps).length = kvs.length := by rw [List.length_zip]; omega
    have m1 : (kvs.zip (kv.zip ps)).map Prod.fst = kvs := List.map_fst_zip (by omega)
    have m2 : (kvs.zip (kv.zip ps)).map Prod.snd = kv.zip ps := List.map_snd_zip (by omega)
    have fac : ∀ t ∈ kvs.zip (kv.zip ps), t.1.1 = t.2.1.1 ∧ DR X.K τ1 H1 t.1.2 t.2.1.2 ∧ pyD (pairKD t.1) = itPy t.2 := by
      intro t ht
      obtain ⟨i, hi⟩ := List.mem_iff_getElem?.mp ht
      obtain ⟨b1, b2⟩ := List.getElem?_zip_eq_some.mp hi
      obtain ⟨b3, b4⟩ := List.getElem?_zip_eq_some.mp b2
      obtain ⟨f1, f2⟩ := paired_at pr i _ _ b1 b3
      refine ⟨f1, f2, ?_⟩
      have h5 : (kvs.zip ps)[i]? = some (t.1, t.2.2) := List.getElem?_zip_eq_some.mpr ⟨b1, b4⟩
      have h6 := pyAll_pyD hq
      have h7 : (List.map (fun z : (Key × D) × PyData => PyData.tuple [keyPy z.1.1, z.2]) (kvs.zip ps))[i]? = some (.tuple [keyPy t.1.1, t.2.2]) := by rw [List.getElem?_map, h5]; rfl
      rw [h6, List.getElem?_map, List.getElem?_map, b1] at h7
      have h7 : pyD (pairKD t.1) = .tuple [keyPy t.1.1, t.2.2] := Option.some.inj h7
      rw [h7, f1]; rfl
    have e1' : ((kvs.zip (kv.zip ps)).mergeSort (fun s t => leD (pairKD s.1) (pairKD t.1))).map (fun t => pairKD t.1) = (kvs.map pairKD).mergeSort leD := by
      rw [List.map_mergeSort (r := fun s t : (Key × D) × ((Key × V) × PyData) => leD (pairKD s.1) (pairKD t.1)) (s := leD) (f := fun t => pairKD t.1) (fun a _ b _ => rfl)]
      rw [show (fun t : (Key × D) × ((Key × V) × PyData) => pairKD t.1) = pairKD ∘ Prod.fst from rfl, ← List.map_map, m1]
    have e2' : ((kvs.zip (kv.zip ps)).mergeSort (fun s t => leD (pairKD s.1) (pairKD t.1))).map Prod.snd = (kv.zip ps).mergeSort (PySem.W.dataLe false itPy) := by
      rw [List.map_mergeSort (r := fun s t : (Key × D) × ((Key × V) × PyData) => leD (pairKD s.1) (pairKD t.1)) (s := PySem.W.dataLe false itPy) (f := Prod.snd) (fun s hs t ht => ?_), m2]
      show (!PySem.W.dataLt (pyD (pairKD t.1)) (pyD (pairKD s.1))) = !PySem.W.dataLt (itPy t.2) (itPy s.2)
      rw [(fac s hs).2.2, (fac t ht).2.2]
    generalize hsb : (kvs.zip (kv.zip ps)).mergeSort (fun s t => leD (pairKD s.1) (pairKD t.1)) = sb at e1' e2'
    have hmem : ∀ t ∈ sb, t ∈ kvs.zip (kv.zip ps) := fun t ht => by rw [← hsb] at ht; exact List.mem_mergeSort.mp ht
    have hdr : DRs X.K τ1 H' (sb.map fun t => pairKD t.1) (ts.map V.ref) := by
      rw [← e2'] at pz
      have key : ∀ {ts : List Addr} {sb : List ((Key × D) × ((Key × V) × PyData))}, (∀ t ∈ ts, upd H1 pv (itemsO pv a) t = none) → (∀ t ∈ sb, t ∈ kvs.zip (kv.zip ps)) → Paired (fun (t : Addr) (z : (Key × V) × PyData) => H' t = some (.tup [kV z.1.1, z.1.2])) ts (sb.map Prod.snd) → DRs X.K τ1 H' (sb.map fun t => pairKD t.1) (ts.map V.ref) := by
        intro ts sb
        induction sb generalizing ts with
        | nil => intro _ _ h; cases h; exact rfl
        | cons t sb ih =>
          intro h1 h2 h
          cases h with
          | cons r rest =>
            rename_i t0 ts0
            refine ⟨_, _, rfl, ?_, ih (fun t ht => h1 t (List.mem_cons_of_mem _ ht)) (fun t ht => h2 t (List.mem_cons_of_mem _ ht)) rest⟩
            have ht0 := h1 t0 List.mem_cons_self
            obtain ⟨f1, f2, _⟩ := fac t (h2 t List.mem_cons_self)
            have hn : H1 t0 = none := by
              cases e : H1 t0 with
              | none => rfl
              | some o => rw [gro _ _ e] at ht0; cases ht0
            refine ⟨t0, _, rfl, .inl ⟨.inl r, j1.free hn⟩, _, _, rfl, ?_, _, _, rfl, f2.ext eg, rfl⟩
            rw [f1]; exact kD_ok
      exact key hts hmem pz
    have hln : H1 l = none := by
      cases e : H1 l with
      | none => rfl
      | some o => rw [gro _ _ e] at hl; cases hl
    rw [e1'] at hdr
    exact q (.ref l) τ1 H' (.lst ((kvs.map pairKD).mergeSort leD)) (e1.trans eg) (j1.grow fun b o e => gr b o (gro b o e)) ⟨l, _, rfl, .inl ⟨.inl hl', j1.free hln⟩, hdr⟩ k1
end
end DL

set_option Elab.async false
set_option linter.all false
set_option maxRecDepth 100000
set_option maxHeartbeats 1000000
/-! The data layer, 20: walks over a locked dict. -/
namespace DL
open PySem PySem.Spec PyProof.Rows L2 DX
section
variable {T : List (Addr × Str)} {X : Cx} {E : XK} {KE : XD} {K : PySem.W.Frag} {τ τ' τ1 : TD} {H H' H1 : Hp} {e o tg : Expr} {es : List Expr} {pos : Pos} {δ δo δv : DE} {δs δk : DA} {ds : Sl} {st : Stmt} {ε : DS}
/-- the items of a locked dict -/
def lkW (τ : TD) (a : Addr) : Option (List (Key × D)) := match τ a with
  | some (.lK kvs) => some kvs
  | _ => none
theorem lkW_iff {a : Addr} {kvs : List (Key × D)} (h : lkW τ a = some kvs) : τ a = some (.lK kvs) := by
  unfold lkW at h; split at h
  · cases h; assumption
  · cases h
theorem lkW_same {a : Addr} {kvs : List (Key × D)} : lkW (tset τ a (.lK kvs)) a = some kvs := by unfold lkW; rw [tset_same]
theorem lkW_ne {a b : Addr} {u : DO} (h : b ≠ a) : lkW (tset τ a u) b = lkW τ b := by unfold lkW; rw [tset_ne h]
def ιItems (δ : DE) : DI := fun τ ds k => δ τ ds fun τ1 x => onRef x fun a => onSome (lkW τ1 a) fun kvs => k τ1 (kvs.map pairKD)
def ιVals (δ : DE) : DI := fun τ ds k => δ τ ds fun τ1 x => onRef x fun a => onSome (lkW τ1 a) fun kvs => k τ1 (kvs.map Prod.snd)
def ιKeys (δ : DE) : DI := fun τ ds k => δ τ ds fun τ1 x => onRef x fun a => onSome (lkW τ1 a) fun kvs => k τ1 (kvs.map fun z => kD z.1)
theorem pr_at {kvs : List (Key × D)} {kv : List (Key × V)} (p : PrD K τ H kvs kv) {i : Nat} {k : Key} {v : V} (h : kv[i]? = some (k, v)) : ∃ d, kvs[i]? = some (k, d) ∧ DR K τ H d v := by
  have hl : i < kvs.length := by
    have := (List.getElem?_eq_some_iff.mp h).1
    have := Paired.length p
    omega
  obtain ⟨f1, f2⟩ := paired_at p i kvs[i] (k, v) (List.getElem?_eq_getElem hl) h
  have f1 : kvs[i].1 = k := f1
  exact ⟨kvs[i].2, by rw [List.getElem?_eq_getElem hl, ← f1], f2⟩
theorem pdi_items {elts : List Expr} {kk : Nat} {tpos apos cpos : Pos} (he : PD T X E KE e δ) (hbase : attributeBase e "items" X.env (eval e X.env) = eval e X.env := by rfl) (hline : (apos.endLine == cpos.line) = true := by rfl) :
    PDI T X E KE (.Tuple elts kk tpos) (.Call (.Attribute e "items" apos) [] [] cpos) (ιItems δ) := by
  obtain ⟨t, h1, s1⟩ := he.ex
  refine ⟨_, pi_items h1 hbase hline, fun σ H τ ds k R j s h xo q => s1 σ H τ ds _ _ j s h xo fun v τ1 H1 x e1 j1 r1 k1 => ?_⟩
  obtain ⟨a, rfl, k1⟩ := onRef_ok k1
  obtain ⟨kvs, hk, k1⟩ := onSome_ok k1
  have hk := lkW_iff hk
  obtain ⟨o, kv, hv, pr⟩ := j1.obj a _ hk
  have pr : PrD _ _ _ kvs kv := pr
  have r1 : v = .ref a := r1
  refine ⟨a, o, kv, r1, hv, q _ _ τ1 H1 e1 j1 ⟨_, _, by rw [List.length_map, Paired.length pr]; exact walk_items, fun τ2 H2 e => e.keep a _ hv (.inr (.inl ⟨_, hk⟩)) (fun ps z => by cases z), fun i τ2 H2 x H3 e j y => ?_⟩ k1⟩
  obtain ⟨p, u, w, rfl, hp, rfl, y1, y2⟩ := y
  have y1 : (kv[i]?.map fun z : Key × V => kV z.1) = some u := y1
  have y2 : (kv[i]?.map Prod.snd) = some w := y2
  cases hki : kv[i]? with
  | none => rw [hki] at y1; cases y1
  | some z =>
    obtain ⟨k, v'⟩ := z
    rw [hki] at y1 y2
    cases y1
    cases y2
    obtain ⟨d, h5, h6⟩ := pr_at pr hki
    exact ⟨pairKD (k, d), by rw [List.getElem?_map, h5]; rfl, .new hp, j.new hp, p, _, rfl, .inl ⟨.of upd_same, j.free hp⟩, _, _, rfl, kD_ok, _, _, rfl, (h6.ext e).ext (.new hp), rfl⟩
theorem pdi_vals {apos cpos : Pos} (he : PD T X E KE e δ) (hbase : attributeBase e "values" X.env (eval e X.env) = eval e X.env := by rfl) (hline : (apos.endLine == cpos.line) = true := by rfl) :
    PDI T X E KE tg (.Call (.Attribute e "values" apos) [] [] cpos) (ιVals δ) := by
  obtain ⟨t, h1, s1⟩ := he.ex
  refine ⟨_, pi_values h1 hbase hline, fun σ H τ ds k R j s h xo q => s1 σ H τ ds _ _ j s h xo fun v τ1 H1 x e1 j1 r1 k1 => ?_⟩
  obtain ⟨a, rfl, k1⟩ := onRef_ok k1
  obtain ⟨kvs, hk, k1⟩ := onSome_ok k1
  have hk := lkW_iff hk
  obtain ⟨o, kv, hv, pr⟩ := j1.obj a _ hk
  have pr : PrD _ _ _ kvs kv := pr
  have r1 : v = .ref a := r1
  refine ⟨a, o, kv, r1, hv, q _ _ τ1 H1 e1 j1 ⟨_, _, by rw [List.length_map, Paired.length pr]; exact walk_values, fun τ2 H2 e => e.keep a _ hv (.inr (.inl ⟨_, hk⟩)) (fun ps z => by cases z), fun i τ2 H2 x H3 e j y => ?_⟩ k1⟩
  obtain ⟨rfl, k, hki⟩ := y
  obtain ⟨d, h5, h6⟩ := pr_at pr hki
  exact ⟨d, by rw [List.getElem?_map, h5]; rfl, .refl _ _, j, h6.ext e⟩
theorem pdi_keys (he : PD T X E KE e δ) : PDI T X E KE tg e (ιKeys δ) := by
  obtain ⟨t, h1, s1⟩ := he.ex
  refine ⟨_, pi_keys h1, fun σ H τ ds k R j s h xo q => s1 σ H τ ds _ _ j s h xo fun v τ1 H1 x e1 j1 r1 k1 => ?_⟩
  obtain ⟨a, rfl, k1⟩ := onRef_ok k1
  obtain ⟨kvs, hk, k1⟩ := onSome_ok k1
  have hk := lkW_iff hk
  obtain ⟨o, kv, hv, pr⟩ := j1.obj a _ hk
  have pr : PrD _ _ _ kvs kv := pr
  have r1 : v = .ref a := r1
  refine ⟨a, o, r1, .inl ⟨kv, hv, q _ _ τ1 H1 e1 j1 ⟨_, _, by rw [List.length_map, Paired.length pr]; exact walk_keys, fun τ2 H2 e => e.keep a _ hv (.inr (.inl ⟨_, hk⟩)) (fun ps z => by cases z), fun i τ2 H2 x H3 e j y => ?_⟩ k1⟩⟩
  obtain ⟨rfl, k, v', hki, rfl⟩ := y
  obtain ⟨d, h5, h6⟩ := pr_at pr hki
  exact ⟨kD k, by rw [List.getElem?_map, h5]; rfl, .refl _ _, j, kD_ok⟩
/-! ### the lock -/
theorem DR.unlock {a : Addr} {ob : Obj} {kv kv' : List (Key × V)} {kvs : List (Key × D)} (ha : H1 a = some (.frz ob (.dK kv))) : ∀ {d : D} {v : V}, DR K τ1 H1 d v → DR K (tset τ1 a (.dK kvs)) (upd H1 a (.dK kv')) d v := by
  intro d v h
  refine DR.map (fun b xs t => ?_) (fun b xs t => ?_) d v h
  · refine t.imp (fun z => ?_) id
    have nb : b ≠ a := fun e => by
      subst e
      rcases z.1 with y | ⟨o, y⟩ <;> rw [ha] at y <;> cases y
    refine ⟨?_, by rw [tset_ne nb]; exact z.2⟩
    unfold Rd
    rw [upd_ne nb]; exact z.1
  · refine t.imp (fun z => ?_) id
    have nb : b ≠ a := fun e => by
      subst e
      rcases z.1 with y | ⟨o, y⟩ <;> rw [ha] at y <;> cases y
    refine ⟨?_, by rw [tset_ne nb]; exact z.2⟩
    unfold Rd
    rw [upd_ne nb]; exact z.1
theorem DRs.unlock {a : Addr} {ob : Obj} {kv kv' : List (Key × V)} {kvs : List (Key × D)} (ha : H1 a = some (.frz ob (.dK kv))) : ∀ {ds : List D} {vs : List V}, DRs K τ1 H1 ds vs → DRs K (tset τ1 a (.dK kvs)) (upd H1 a (.dK kv')) ds vs
  | [], vs, h => h
  | d :: ds, vs, h => by
    obtain ⟨v, r, e, h1, h2⟩ := h
    exact ⟨v, r, e, DR.unlock ha h1, DRs.unlock ha h2⟩
theorem J.unlock {a : Addr} {ob : Obj} {kv : List (Key × V)} {kvs : List (Key × D)} (j : J K T τ1 H1) (ha : H1 a = some (.frz ob (.dK kv))) (ht : τ1 a = some (.lK kvs)) : J K T (tset τ1 a (.dK kvs)) (upd H1 a (.dK kv)) := by
  refine ⟨fun b w e => ?_, fun q hq => ?_⟩
  · by_cases hb : b = a
    · subst hb
      rw [tset_same] at e
      cases e
      obtain ⟨o', kv', e', pr⟩ := j.obj b _ ht
      rw [ha] at e'
      cases e'
      exact ⟨kv, upd_same, paired_map pr fun _ _ z => ⟨z.1, z.2.unlock ha⟩⟩
    · rw [tset_ne hb] at e
      exact dok_map (j.obj b w e) (fun w q => by rw [upd_ne hb]; exact q) (fun _ _ z => z.unlock ha) (fun _ _ z => z.unlock ha)
  · obtain ⟨ps, h1, h2, h3⟩ := j.tabs q hq
    have ne : q.1 ≠ a := fun z => by rw [z, ha] at h1; cases h1
    refine ⟨ps, by rw [upd_ne ne]; exact h1, h2, fun pos cv hcv => ?_⟩
    obtain ⟨c, e1, e2⟩ := h3 pos cv hcv
    refine ⟨c, e1, ?_⟩
    have ne2 : c ≠ a := fun z => by rw [z, ha] at e2; cases e2
    rw [upd_ne ne2]; exact e2
theorem Ext.unlock {a : Addr} {u : HO} {kv' : List (Key × V)} {kvs kvs' : List (Key × D)} (ht : τ a = some (.dK kvs)) (e : Ext (tset τ a (.lK kvs)) (upd H a u) τ1 H1) : Ext τ H (tset τ1 a (.dK kvs')) (upd H1 a (.dK kv')) := by
  have nb : ∀ b, Still τ b → b ≠ a := fun b t z => Still.unl ht True.intro (z ▸ t)
  refine ⟨fun b o h t n => ?_, fun b o h t n => ?_, fun b o h t n => ?_⟩
  · have ne := nb b t
    rw [upd_ne ne]
    exact e.keep b o (by rw [upd_ne ne]; exact h) (by unfold Still at t ⊢; rw [tset_ne ne]; exact t) n
  · have ne := nb b (.inl t)
    rw [tset_ne ne]
    exact e.out b o (by rw [upd_ne ne]; exact h) (by rw [tset_ne ne]; exact t) n
  · have ne := nb b t
    have := e.st b o (by rw [upd_ne ne]; exact h) (by unfold Still at t ⊢; rw [tset_ne ne]; exact t) n
    unfold Still at this ⊢
    rw [tset_ne ne]; exact this
theorem SR.unlock {σ : L2.St} {a : Addr} {ob : Obj} {kv kv' : List (Key × V)} {kvs : List (Key × D)} (s : SR K τ1 H1 ds σ) (ha : H1 a = some (.frz ob (.dK kv))) : SR K (tset τ1 a (.dK kvs)) (upd H1 a (.dK kv')) ds σ :=
  ⟨s.len, fun i d h => by
    obtain ⟨v, h1, h2⟩ := s.at_ i d h
    exact ⟨v, h1, h2.unlock ha⟩⟩
def dLockE (δ : DE) : DE := fun τ ds k => ∃ a kvs, τ a = some (.dK kvs) ∧ δ (tset τ a (.lK kvs)) ds fun τ1 d => τ1 a = some (.lK kvs) ∧ k (tset τ1 a (.dK kvs)) d
theorem pd_lock (h : PD T X E KE e δ) : PD T X E KE e (dLockE δ) := by
  obtain ⟨t, h1, s1⟩ := h.ex
  refine ⟨_, pe_lock h1, fun σ H τ ds k Q j s h xo q => ?_⟩
  obtain ⟨a, kvs, ht, hd⟩ := h
  obtain ⟨kv, hv, pr⟩ := j.obj a _ ht
  refine ⟨a, .dK kv, hv, True.intro, fun od => ?_⟩
  have ec : Ext τ H (tset τ a (.lK kvs)) (upd H a (.frz od (.dK kv))) := .chg ht
  have jc : J X.K T (tset τ a (.lK kvs)) (upd H a (.frz od (.dK kv))) := j.chg (u0 := .dK kvs) ht ⟨od, kv, upd_same, paired_map pr fun _ _ z => ⟨z.1, z.2.ext ec⟩⟩
  refine s1 σ _ _ ds _ _ jc (s.ext ec) hd (xo.ext ec) fun v τ1 H1 d e1 j1 r1 k1 => ?_
  have hv1 : H1 a = some (.frz od (.dK kv)) := e1.keep a _ upd_same (.inr (.inl ⟨kvs, tset_same⟩)) (fun ps z => by cases z)
  exact ⟨hv1, q v _ _ d (.unlock ht e1) (j1.unlock hv1 k1.1) (r1.unlock hv1) k1.2⟩
def dLockS (ε : DS) : DS := fun F τ ds => ∃ a kvs, τ a = some (.dK kvs) ∧ ε { nx := fun τ1 ds1 => τ1 a = some (.lK kvs) ∧ F.nx (tset τ1 a (.dK kvs)) ds1, bk := fun τ1 ds1 => τ1 a = some (.lK kvs) ∧ F.bk (tset τ1 a (.dK kvs)) ds1, ct := fun τ1 ds1 => τ1 a = some (.lK kvs) ∧ F.ct (tset τ1 a (.dK kvs)) ds1, rt := fun τ1 d => τ1 a = some (.lK kvs) ∧ F.rt (tset τ1 a (.dK kvs)) d } (tset τ a (.lK kvs)) ds
theorem pds_lock (h : PDS T X E KE st ε) : PDS T X E KE st (dLockS ε) := by
  obtain ⟨t, h1, s1⟩ := h.ex
  refine ⟨_, ps_lock h1, fun σ H τ ds F D' j s h xo eo => ?_⟩
  obtain ⟨a, kvs, ht, hd⟩ := h
  obtain ⟨kv, hv, pr⟩ := j.obj a _ ht
  refine ⟨a, .dK kv, hv, True.intro, fun od => ?_⟩
  have ec : Ext τ H (tset τ a (.lK kvs)) (upd H a (.frz od (.dK kv))) := .chg ht
  have jc : J X.K T (tset τ a (.lK kvs)) (upd H a (.frz od (.dK kv))) := j.chg (u0 := .dK kvs) ht ⟨od, kv, upd_same, paired_map pr fun _ _ z => ⟨z.1, z.2.ext ec⟩⟩
  have hv1 : ∀ {τ1 : TD} {H1 : Hp}, Ext (tset τ a (.lK kvs)) (upd H a (.frz od (.dK kv))) τ1 H1 → H1 a = some (.frz od (.dK kv)) := fun e1 => e1.keep a _ upd_same (.inr (.inl ⟨kvs, tset_same⟩)) (fun ps z => by cases z)
  refine s1 σ _ _ ds _ _ jc (s.ext ec) hd (xo.ext ec) ⟨fun τ1 H1 ds1 σ1 e1 j1 s1 k1 => ⟨hv1 e1, eo.nx _ _ _ _ (.unlock ht e1) (j1.unlock (hv1 e1) k1.1) (s1.unlock (hv1 e1)) k1.2⟩, fun τ1 H1 ds1 σ1 e1 j1 s1 k1 => ⟨hv1 e1, eo.bk _ _ _ _ (.unlock ht e1) (j1.unlock (hv1 e1) k1.1) (s1.unlock (hv1 e1)) k1.2⟩, fun τ1 H1 ds1 σ1 e1 j1 s1 k1 => ⟨hv1 e1, eo.ct _ _ _ _ (.unlock ht e1) (j1.unlock (hv1 e1) k1.1) (s1.unlock (hv1 e1)) k1.2⟩, fun τ1 H1 d v e1 j1 r1 k1 => ⟨hv1 e1, eo.rt _ _ _ _ (.unlock ht e1) (j1.unlock (hv1 e1) k1.1) (r1.unlock (hv1 e1)) k1.2⟩⟩
end
end DL

set_option Elab.async false
set_option linter.all false
set_option maxRecDepth 100000
set_option maxHeartbeats 1000000
/-! The data layer, 21: own ==. -/
namespace DL
open PySem PySem.Spec PyProof.Rows L2 DX
section
variable {T : List (Addr × Str)} {X : Cx} {E : XK} {KE : XD} {K : PySem.W.Frag} {τ : TD} {H : Hp} {e o a b : Expr} {es : List Expr} {pos : Pos} {δ δa δb : DE} {δs δk : DA}
/-- what a class with an own == has -/
structure EqC (K : PySem.W.Frag) (C f : Addr) : Prop where
  eq : PySem.W.findIn K (.ref C) "__eq__" = some (some (.ref f))
  fn : PySem.W.isFn K (.ref f) = true
  ne : PySem.W.findIn K (.ref C) "__ne__" = some (some (.builtin "object.__ne__"))
  made : PySem.W.makesIn K C = true
  non : PySem.W.subIn K (.type "NoneType") (.ref C) = some false
/-- the callee runs, whatever calls stand around it -/
theorem run_at {CX : CXT} {k : Nat} {f : Addr} {fd : FuncData} {ps : List Str} {sp : Sp} {A : Around} {pins : List (Addr × Obj)} {σ : L2.St} {H : Hp} {s : Shared} {Q : VK} {us : List Value} {vs : List V} (F : FnOk X.prog X.w X.K X.mg X.base CX k f fd ps sp) (hr : Room k A) (hfr : A.frames = X.A.frames) (hb : Binds X.K fd ps [])
    (hx : Passes CX X E) (I : Inv X pins σ H s) (r : Vals vs us) (h : sp vs H Q E) : wpAny (model X.prog X.w) A (call (.ref f) us) (EP X pins σ Q) X.xe s := by
  have e0 : Env0 X.prog X.w X.K X.mg X.base A X.stack s H := by
    have e := I.env0
    exact ⟨by rw [hfr]; exact e.frames, e.mod, e.bs, e.bsz, e.funs, e.frf, e.hok, e.bare⟩
  have hl := F.len _ _ _ _ h
  refine wpAny_call (codeAny_mono (F.run A X.stack s H ⟨us, []⟩ us vs Q E hr e0 (by
    have := hb s us I.kIn (by rw [List.append_nil, ← r.length]; exact hl)
    simpa using this) r h) fun r s' hq => ?_)
  cases r with
  | error e => exact hx pins σ H s e s' I hq
  | ok fl =>
    cases fl with
    | ret w => exact I.after hq
    | next => exact False.elim hq
    | brk => exact False.elim hq
    | cont => exact False.elim hq
theorem on_bind (self : Value) : bindSpecial (.builtin "object.__ne__") self = pure (.builtin "object.__ne__", [self]) :=
  (Slot.of (T := "object") (name := "__ne__") (owner := "object") (n := "__ne__") (by rw [typeLookup_type, builtinLookup_eq_fast]; kernel_rfl) (by decide +kernel) (by decide +kernel) (by decide +kernel)
    (.inl (by decide +kernel)) (by rw [isSubtype_type]; kernel_rfl)).bind self
/-- x != y where the class has its own == -/
theorem ne_own {A : Around} {EX : Value → Shared → Prop} {s : Shared} {x C f L : Addr} {h₀ : Heap} {m : Str → Option Value} {ox : Obj} {od : Option Obj} {bv tb : Value} {Q : Value → Shared → Prop} (hu : A.units + 1 < cLine) (Fx : Fr h₀ L s.heap m) (X₀ : K.In h₀) (I : PySem.W.InstAt s.heap x ox C od) (hb : PySem.W.Looks (model X.prog X.w) s.heap (typeOf bv) tb) (hn : PySem.W.notFirst K C tb = true) (q : EqC K C f)
    (h : wpAny (model X.prog X.w) A.in1 (call (.ref f) [.ref x, bv]) (fun v s' => ∃ r, v = .bool r ∧ Q (.bool (!r)) s') EX s) : wpAny (model X.prog X.w) A (richCompare .NotEq (.ref x) bv) Q EX s := by
  have XX := X₀.keeps Fx.keep
  have fin : ∀ Q' : Option Value → Shared → Prop, (∀ r s', (∃ b, r = some (.bool b) ∧ Q (.bool b) s') → Q' r s') → wpAny (model X.prog X.w) A (call (.builtin "object.__ne__") ([.ref x] ++ [bv]) >>= fun v => pure (some v)) Q' EX s := by
    intro Q' hq'
    refine wpAny_bind (wpAny_call (codeAny_call_builtin (by decide +kernel) PySem.F.cmpEntry_ne (PySem.W.check_slot PySem.F.cmpKind_ne PySem.F.cmpSplit_ne (I.type.andThen (PySem.W.makes_of XX q.made).top) (PySem.F.cmpArgs_ne _ _) ?_)))
    unfold Builtin.«object.__ne__»
    have hf2 : wpAny (model X.prog X.w) A.in1 (callSpecialIfBound? (.ref x) "__eq__" [bv]) (fun r s' => ∃ b, r = some (.bool b) ∧ Q (.bool (!b)) s') EX s := by
      refine PySem.W.ifBound_K XX I q.eq q.fn (wpAny_mono h (fun v s' hv => ?_) fun _ _ e => e)
      obtain ⟨r, rfl, hv⟩ := hv
      exact ⟨r, rfl, hv⟩
    refine wpAny_bind (m := slotArgs "__ne__" 1 _) (wpAny_pure ?_)
    refine wpAny_bind (wpAny_cRoomFor (show A.units + 1 < cLine from hu) ?_)
    refine wpAny_bind (wpAny_mono hf2 (fun r s' z => ?_) fun _ _ e => e)
    obtain ⟨b, rfl, z⟩ := z
    refine wpAny_bind (wpAny_truthy_bool ?_)
    refine wpAny_pure ?_
    exact wpAny_pure (hq' _ _ ⟨_, rfl, z⟩)
  have one : wpAny (model X.prog X.w) A (tryCompare (.ref x) (cmpInfo .NotEq).2.1 bv) (fun r s' => ∃ v, r = some v ∧ Q v s') EX s := by
    unfold tryCompare
    refine wpAny_bind ?_
    simp only [callSpecialIfBound?, bindSpecialIfBound?]
    refine wpAny_holding (wpAny_bind (wpAny_bind (wpAny_bind (I.type.here ((PySem.W.looks_findIn XX q.ne).here ?_)))))
    refine wpAny_bind (wpAny_askSetting (wpAny_ite ?_))
    split
    · rw [on_bind]
      refine wpAny_bind (wpAny_pure (wpAny_pure ?_))
      refine fin _ fun r s' z => ?_
      obtain ⟨b, rfl, z⟩ := z
      exact wpAny_pure ⟨_, rfl, z⟩
    · rw [on_bind]
      refine wpAny_tryCatch (wpAny_bind (wpAny_pure (wpAny_pure ?_)))
      refine fin _ fun r s' z => ?_
      obtain ⟨b, rfl, z⟩ := z
      exact wpAny_pure ⟨_, rfl, z⟩
  unfold richCompare
  simp only [oneThing_ref]
  refine wpAny_holding (wpAny_bind (wpAny_cRoomFor (by omega) ?_))
  refine wpAny_bind (I.type.here (wpAny_bind (hb.here ?_)))
  split
  · rename_i q
    have e : PySem.W.subIn K tb (.ref C) = some false := by
      rcases Bool.or_eq_true_iff.mp hn with e | e
      · rw [beq_iff_eq.mp e] at q; simp at q
      · exact beq_iff_eq.mp e
    refine wpAny_bind ((PySem.W.looks_subIn XX e).here ?_)
    simp only [Bool.false_eq_true, if_false]
    refine wpAny_bind (wpAny_mono one (fun r s' z => ?_) fun _ _ e => e)
    obtain ⟨v, rfl, hq⟩ := z
    exact wpAny_pure hq
  · refine wpAny_bind (wpAny_pure ?_)
    simp only [Bool.false_eq_true, if_false]
    refine wpAny_bind (wpAny_mono one (fun r s' z => ?_) fun _ _ e => e)
    obtain ⟨v, rfl, hq⟩ := z
    exact wpAny_pure hq
/-- x == y, x != y by the own == at f: y an instance of the class, or None -/
def rEqI (C : Addr) (sp : Sp) (E : XK) (neg : Bool) : R2 := fun x y H Q => ∃ (a dx : Addr) (fs : List (Str × V)), x = .ref a ∧ H a = some (.ins C dx fs) ∧ (y = .non ∨ ∃ (b dy : Addr) (gs : List (Str × V)), y = .ref b ∧ H b = some (.ins C dy gs)) ∧
  sp [x, y] H (fun v H' => ∃ b, v = .bl b ∧ Q (.bl (if neg = true then !b else b)) H') E
theorem eqI_looks {pins : List (Addr × Obj)} {σ : L2.St} {s : Shared} {C f : Addr} {y : V} {u : Value} (q : EqC X.K C f) (I : Inv X pins σ H s) (ry : RelV y u) (hy : y = .non ∨ ∃ (b dy : Addr) (gs : List (Str × V)), y = .ref b ∧ H b = some (.ins C dy gs)) :
    ∃ tb, PySem.W.Looks (model X.prog X.w) s.heap (typeOf u) tb ∧ PySem.W.notFirst X.K C tb = true := by
  rcases hy with rfl | ⟨b, dy, gs, rfl, hb⟩
  · have ry : u = .none := ry
    subst ry
    exact ⟨.type "NoneType", PySem.W.Looks.of_pure rfl, by simp [PySem.W.notFirst, q.non]⟩
  · have ry : u = .ref b := ry
    subst ry
    obtain ⟨mB, J', _⟩ := ins_get I.hok hb
    obtain ⟨od', J', _⟩ := J'.look
    exact ⟨.ref C, J'.type, by simp [PySem.W.notFirst]⟩
theorem op_eqI {CX : CXT} {k : Nat} {C f : Addr} {fd : FuncData} {ps : List Str} {sp : Sp} (q : EqC X.K C f) (F : FnOk X.prog X.w X.K X.mg X.base CX k f fd ps sp) (hr : Room k X.A) (hb : Binds X.K fd ps []) (hx : Passes CX X E) : OpR X (compareOp .Eq) (rEqI C sp E false) := by
  intro pins s σ H x y v u Q I rx ry h
  obtain ⟨a, dx, fs, rfl, ha, hy, h⟩ := h
  have rx : v = .ref a := rx
  subst rx
  obtain ⟨mA, J, _⟩ := ins_get I.hok ha
  obtain ⟨od, J, _⟩ := J.look
  obtain ⟨tb, l1, l2⟩ := eqI_looks q I ry hy
  obtain ⟨m, hF⟩ := I.fr
  show wpAny (model X.prog X.w) X.A (richCompare .Eq (.ref a) u) (EP X pins σ Q) X.xe s
  refine PySem.W.cmp_K (op := .Eq) (tb := tb) hr.units0 hF I.ok.mod.kin J l1 l2 q.eq q.fn ?_
  refine wpAny_mono (run_at (A := X.A) F hr rfl hb hx I (.cons (show RelV (V.ref a) (Value.ref a) from rfl) (.cons ry .nil)) h) (fun w s' z => ?_) fun _ _ e => e
  obtain ⟨v', H', I', rv, b, rfl, hq⟩ := z
  have rv : w = .bool b := rv
  subst rv
  exact ⟨.bl b, H', I', rfl, hq⟩
theorem op_neI {CX : CXT} {k : Nat} {C f : Addr} {fd : FuncData} {ps : List Str} {sp : Sp} (q : EqC X.K C f) (F : FnOk X.prog X.w X.K X.mg X.base CX k f fd ps sp) (hr : Room (k + 1) X.A) (hb : Binds X.K fd ps []) (hx : Passes CX X E) : OpR X (compareOp .NotEq) (rEqI C sp E true) := by
  intro pins s σ H x y v u Q I rx ry h
  obtain ⟨a, dx, fs, rfl, ha, hy, h⟩ := h
  have rx : v = .ref a := rx
  subst rx
  obtain ⟨mA, J, _⟩ := ins_get I.hok ha
  obtain ⟨od, J, _⟩ := J.look
  obtain ⟨tb, l1, l2⟩ := eqI_looks q I ry hy
  obtain ⟨m, hF⟩ := I.fr
  show wpAny (model X.prog X.w) X.A (richCompare .NotEq (.ref a) u) (EP X pins σ Q) X.xe s
  refine ne_own (by have := hr.un; omega) hF I.ok.mod.kin J l1 l2 q ?_
  refine wpAny_mono (run_at (A := X.A.in1) F hr.in1 rfl hb hx I (.cons (show RelV (V.ref a) (Value.ref a) from rfl) (.cons ry .nil)) h) (fun w s' z => ?_) fun _ _ e => e
  obtain ⟨v', H', I', rv, b, rfl, hq⟩ := z
  have rv : w = .bool b := rv
  subst rv
  exact ⟨b, rfl, .bl (!b), H', I', rfl, by simpa using hq⟩
/-! ### over data -/
def insOrNon (C : Addr) (τ : TD) (y : D) : Prop := match y with
  | .non => True
  | .ref b => onSome (insAt τ b) fun p => p.1 = C
  | _ => False
def onBool (d : D) (f : Bool → Prop) : Prop := match d with
  | .bl b => f b
  | _ => False
def dEqI (C : Addr) (n : Nat) (sp : SpD) (neg : Bool) (KE : XD) (δa δb : DE) : DE := fun τ ds k => δa τ ds fun τ1 x => δb τ1 ds fun τ2 y => onRef x fun a => onSome (insAt τ2 a) fun p => p.1 = C ∧ insOrNon C τ2 y ∧ n = 2 ∧ sp τ2 [.ref a, y] (fun τ3 d => onBool d fun b => k τ3 (.bl (if neg = true then !b else b))) KE
theorem sndEqI {C : Addr} {n : Nat} {sp : SpD} {neg : Bool} {ta tb : TE} (s1 : SndE K T E KE ta δa) (s2 : SndE K T E KE tb δb) : SndE K T E KE (tOp (rEqI C (spOf K T n sp) E neg) ta tb) (dEqI C n sp neg KE δa δb) := by
  intro σ H τ ds k Q j s h xo q
  refine s1 σ H τ ds _ _ j s h xo fun vx τ1 H1 x e1 j1 r1 k1 => ?_
  refine s2 σ H1 τ1 ds _ _ j1 (s.ext e1) k1 (xo.ext e1) fun vy τ2 H2 y e2 j2 r2 k2 => ?_
  obtain ⟨a, rfl, k2⟩ := onRef_ok k2
  obtain ⟨⟨C', fs⟩, hi, hc, hy, hn, k2⟩ := onSome_ok k2
  have hc : C' = C := hc
  have r1 : vx = .ref a := r1.ext e2
  obtain ⟨dx, fv, hv, pr⟩ := j2.obj a _ (insAt_iff.mp hi)
  have hy' : vy = .non ∨ ∃ (b dy : Addr) (gs : List (Str × V)), vy = .ref b ∧ H2 b = some (.ins C dy gs) := by
    cases y with
    | non => exact .inl r2
    | ref b =>
      obtain ⟨⟨C2, gs⟩, hib, hcb⟩ := onSome_ok hy
      have hcb : C2 = C := hcb
      obtain ⟨dy, gv, hgv, _⟩ := j2.obj b _ (insAt_iff.mp hib)
      exact .inr ⟨b, dy, gv, r2, hcb ▸ hgv⟩
    | _ => exact hy.elim
  refine ⟨a, dx, fv, r1, hc ▸ hv, hy', τ2, [.ref a, y], _, KE, j2, ⟨vx, _, rfl, r1, vy, _, rfl, r2, rfl⟩, hn ▸ rfl, k2, xo.ext (e1.trans e2), fun v τ' H' d e3 j3 r3 k3 => ?_⟩
  cases d with
  | bl b => exact ⟨b, r3, q _ τ' H' (.bl (if neg = true then !b else b)) ((e1.trans e2).trans e3) j3 rfl k3⟩
  | _ => exact k3.elim
theorem pd_eqI {k : Nat} {C f : Addr} {fd : FuncData} {ps : List Str} {sp : SpD} (q : EqC X.K C f) (F : FnD X.prog X.w X.K X.mg X.base T k f fd ps sp) (hr : Room k X.A) (hb : Binds X.K fd ps []) (hx : Passes (L2.CX X.prog X.w) X E) (ha : PD T X E KE a δa) (hb' : PD T X E KE b δb) (hm : behindInMarks .Eq b = false) : PD T X E KE (.Compare a [.Eq] [b] pos) (dEqI C ps.length sp false KE δa δb) := by
  obtain ⟨ta, h1, s1⟩ := ha.ex
  obtain ⟨tb, h2, s2⟩ := hb'.ex
  exact ⟨_, pe_cmpR (op_eqI q F hr hb hx) h1 h2 hm, sndEqI s1 s2⟩
theorem pd_neI {k : Nat} {C f : Addr} {fd : FuncData} {ps : List Str} {sp : SpD} (q : EqC X.K C f) (F : FnD X.prog X.w X.K X.mg X.base T k f fd ps sp) (hr : Room (k + 1) X.A) (hb : Binds X.K fd ps []) (hx : Passes (L2.CX X.prog X.w) X E) (ha : PD T X E KE a δa) (hb' : PD T X E KE b δb) (hm : behindInMarks .NotEq b = false) : PD T X E KE (.Compare a [.NotEq] [b] pos) (dEqI C ps.length sp true KE δa δb) := by
  obtain ⟨ta, h1, s1⟩ := ha.ex
  obtain ⟨tb, h2, s2⟩ := hb'.ex
  exact ⟨_, pe_cmpR (op_neI q F hr hb hx) h1 h2 hm, sndEqI s1 s2⟩
end
end DL

set_option Elab.async false
set_option linter.all false
set_option maxRecDepth 100000
set_option maxHeartbeats 1000000
/-! The data layer, 22: isinstance of own classes, len(d), what the head tells of a class with an own ==. -/
namespace DL
open PySem PySem.Spec PyProof.Rows L2 DX
section
variable {T : List (Addr × Str)} {X : Cx} {E : XK} {KE : XD} {K : PySem.W.Frag} {τ : TD} {H : Hp} {e o a b : Expr} {es : List Expr} {pos : Pos} {δ δa δb : DE} {δs δk : DA}
/-- the name of an own class -/
theorem pd_cls {x : Str} {C : Addr} {p : Pos} (hg : Gl X x) (hm : X.mg x = some (.ref C)) (hdb : (x == ("__debug__" : Str)) = false := by decide) : PD T X E KE (.Name x p) (dC (.ref C)) := pd_glob (d := .ref C) (v := .ref C) hg hm rfl (fun _ _ => rfl) hdb
/-- what isinstance asks of the text -/
structure IsC (K : PySem.W.Frag) (C : Addr) : Prop where
  cl : Cls K C
  at_ : PySem.W.findIn K (.ref C) "__class__" = some (some (.builtin "object.__class__"))
  sp : PySem.W.specialIn K (.builtin "object.__class__") "__get__" = some (some (.builtin "getset_descriptor.__get__"))
  tk : PySem.W.takesIn K (.builtin "object.__class__") = some true
  mro : PySem.W.mroIn K C (.type "object") = some true
  self : PySem.W.kitOne K (.ref C) (.ref C) = some true
  non : PySem.W.kitOne K (.type "NoneType") (.ref C) = some false
/-- isinstance(x, C): x an instance of C or None -/
def ρIsC (C : Addr) : DC := fun τ xs k => match xs with
  | [.non, c] => c = .ref C ∧ k τ (.bl false)
  | [.ref a, c] => c = .ref C ∧ onSome (insAt τ a) fun p => p.1 = C ∧ k τ (.bl true)
  | _ => False
theorem ok_isC {C : Addr} (q : IsC K C) : RCok K T (rIsi K) (ρIsC C) := by
  intro τ H xs vs k Q j r h hq
  match xs, h, r with
  | [.non, c], h, r =>
    obtain ⟨rfl, h⟩ := h
    obtain ⟨v, u, e, r1, r2⟩ := two_of r
    have r1 : v = .non := r1
    have r2 : u = .ref C := r2
    subst e r1 r2
    exact ⟨.non, .ref C, .type "NoneType", .ref C, false, rfl, .own C, .base .non, q.non, hq _ τ H (.bl false) (.refl _ _) j rfl h⟩
  | [.ref a, c], h, r =>
    obtain ⟨rfl, h⟩ := h
    obtain ⟨v, u, e, r1, r2⟩ := two_of r
    have r1 : v = .ref a := r1
    have r2 : u = .ref C := r2
    subst e r1 r2
    obtain ⟨⟨C', fs⟩, hi, hc, h⟩ := onSome_ok h
    have hc : C' = C := hc
    obtain ⟨dx, fv, hv, _⟩ := j.obj a _ (insAt_iff.mp hi)
    exact ⟨.ref a, .ref C, .ref C, .ref C, true, rfl, .own C, .base (.ins (hc ▸ hv) q.cl q.at_ q.sp q.tk q.mro), q.self, hq _ τ H (.bl true) (.refl _ _) j rfl h⟩
theorem ρIsC_non {C : Addr} {k : DK} : ρIsC C τ [.non, .ref C] k = k τ (.bl false) := by simp [ρIsC]
theorem ρIsC_ref {C a : Addr} {k : DK} : ρIsC C τ [.ref a, .ref C] k = onSome (insAt τ a) fun p => p.1 = C ∧ k τ (.bl true) := by simp [ρIsC]
/-! ### len(d) -/
def rLenD : List V → Hp → VK → Prop := fun xs H Q => ∃ a kvs, xs = [V.ref a] ∧ H a = some (.dK kvs) ∧ Q (.int kvs.length) H
theorem cr_lenD : CallR X (.builtin "len") rLenD := call_lenD
def ρLenD : DC := fun τ xs k => match xs with
  | [x] => onRef x fun a => onSome (dkW τ a) fun kvs => k τ (.int kvs.length)
  | _ => False
theorem ok_lenD : RCok K T rLenD ρLenD := by
  intro τ H xs vs k Q j r h hq
  match xs, h, r with
  | [x], h, r =>
    obtain ⟨a, rfl, h⟩ := onRef_ok h
    obtain ⟨kvs, hk, h⟩ := onSome_ok h
    obtain ⟨v, e, r1⟩ := one_of r
    have r1 : v = .ref a := r1
    subst e r1
    obtain ⟨kv, hv, pr⟩ := j.obj a _ (dkW_iff hk)
    have hl : kv.length = kvs.length := (Paired.length pr).symm
    exact ⟨a, kv, rfl, hv, by rw [hl]; exact hq _ τ H (.int kvs.length) (.refl _ _) j rfl h⟩
theorem ρLenD_eq {x : D} {k : DK} : ρLenD τ [x] k = onRef x fun a => onSome (dkW τ a) fun kvs => k τ (.int kvs.length) := rfl
/-! ### the head -/
def eqcB (K : PySem.W.Frag) (x : Str) : Bool := He.eqO (PySem.W.findIn K (.ref (He.ga K x)) "__eq__") (some (some (.ref (He.fAd K (x, some "__eq__"))))) && (PySem.W.isFn K (.ref (He.fAd K (x, some "__eq__"))) && (He.eqO (PySem.W.findIn K (.ref (He.ga K x)) "__ne__") (some (some (.builtin "object.__ne__"))) && (PySem.W.makesIn K (He.ga K x) && decide (PySem.W.subIn K (.type "NoneType") (.ref (He.ga K x)) = some false))))
theorem eqcB_ok {x : Str} (h : eqcB K x = true) : EqC K (He.ga K x) (He.fAd K (x, some "__eq__")) := by
  unfold eqcB at h
  simp only [Bool.and_eq_true, decide_eq_true_eq] at h
  exact ⟨He.eqO_ok h.1, h.2.1, He.eqO_ok h.2.2.1, h.2.2.2.1, h.2.2.2.2⟩
def iscB (K : PySem.W.Frag) (x : Str) : Bool := He.eqO (PySem.W.findIn K (.ref (He.ga K x)) "__class__") (some (some (.builtin "object.__class__"))) && (He.eqO (PySem.W.specialIn K (.builtin "object.__class__") "__get__") (some (some (.builtin "getset_descriptor.__get__"))) && (decide (PySem.W.takesIn K (.builtin "object.__class__") = some true) && (decide (PySem.W.mroIn K (He.ga K x) (.type "object") = some true) && (decide (PySem.W.kitOne K (.ref (He.ga K x)) (.ref (He.ga K x)) = some true) && decide (PySem.W.kitOne K (.type "NoneType") (.ref (He.ga K x)) = some false)))))
theorem iscB_ok {x : Str} (c : Cls K (He.ga K x)) (h : iscB K x = true) : IsC K (He.ga K x) := by
  unfold iscB at h
  simp only [Bool.and_eq_true, decide_eq_true_eq] at h
  exact ⟨c, He.eqO_ok h.1, He.eqO_ok h.2.1, h.2.2.1, h.2.2.2.1, h.2.2.2.2.1, h.2.2.2.2.2⟩
end
end DL

set_option Elab.async false
set_option linter.all false
set_option maxRecDepth 100000
set_option maxHeartbeats 1000000
/-! The data layer, 23: min and max of data that can be compared. -/
namespace DL
open PySem PySem.Spec PyProof.Rows L2 DX
section
variable {T : List (Addr × Str)} {X : Cx} {E : XK} {KE : XD} {K : PySem.W.Frag} {τ : TD} {H : Hp}
mutual
theorem pyOf_inj : ∀ (x y : D) (p : PyData), pyOf x = some p → pyOf y = some p → x = y
  | .non, y, p, h1, h2 => by
    cases h1
    cases y with
    | non => rfl
    | tup ys => rw [pyOf_tup] at h2; cases e : pyAll ys <;> rw [e] at h2 <;> cases h2
    | lst ys => rw [pyOf_lst] at h2; cases e : pyAll ys <;> rw [e] at h2 <;> cases h2
    | _ => simp [pyOf] at h2
  | .bl b, y, p, h1, h2 => by
    cases h1
    cases y with
    | tup ys => rw [pyOf_tup] at h2; cases e : pyAll ys <;> rw [e] at h2 <;> cases h2
    | lst ys => rw [pyOf_lst] at h2; cases e : pyAll ys <;> rw [e] at h2 <;> cases h2
    | _ => simp [pyOf] at h2 <;> (subst h2; rfl)
  | .int b, y, p, h1, h2 => by
    cases h1
    cases y with
    | tup ys => rw [pyOf_tup] at h2; cases e : pyAll ys <;> rw [e] at h2 <;> cases h2
    | lst ys => rw [pyOf_lst] at h2; cases e : pyAll ys <;> rw [e] at h2 <;> cases h2
    | _ => simp [pyOf] at h2 <;> (subst h2; rfl)
  | .str b, y, p, h1, h2 => by
    cases h1
    cases y with
    | tup ys => rw [pyOf_tup] at h2; cases e : pyAll ys <;> rw [e] at h2 <;> cases h2
    | lst ys => rw [pyOf_lst] at h2; cases e : pyAll ys <;> rw [e] at h2 <;> cases h2
    | _ => simp [pyOf] at h2 <;> (subst h2; rfl)
  | .ref _, _, _, h, _ => by simp [pyOf] at h
  | .ty _, _, _, h, _ => by simp [pyOf] at h
  | .tup xs, y, p, h1, h2 => by
    rw [pyOf_tup] at h1
    cases e : pyAll xs with
    | none => rw [e] at h1; cases h1
    | some ps =>
      rw [e] at h1
      cases h1
      cases y with
      | tup ys =>
        rw [pyOf_tup] at h2
        cases e2 : pyAll ys with
        | none => rw [e2] at h2; cases h2
        | some qs =>
          rw [e2] at h2
          cases h2
          rw [pyAll_inj xs ys _ e e2]
      | lst ys => rw [pyOf_lst] at h2; cases e : pyAll ys <;> rw [e] at h2 <;> cases h2
      | _ => simp [pyOf] at h2
  | .lst xs, y, p, h1, h2 => by
    rw [pyOf_lst] at h1
    cases e : pyAll xs with
    | none => rw [e] at h1; cases h1
    | some ps =>
      rw [e] at h1
      cases h1
      cases y with
      | lst ys =>
        rw [pyOf_lst] at h2
        cases e2 : pyAll ys with
        | none => rw [e2] at h2; cases h2
        | some qs =>
          rw [e2] at h2
          cases h2
          rw [pyAll_inj xs ys _ e e2]
      | tup ys => rw [pyOf_tup] at h2; cases e : pyAll ys <;> rw [e] at h2 <;> cases h2
      | _ => simp [pyOf] at h2
theorem pyAll_inj : ∀ (xs ys : List D) (ps : List PyData), pyAll xs = some ps → pyAll ys = some ps → xs = ys
  | [], ys, ps, h1, h2 => by
    cases h1
    cases ys with
    | nil => rfl
    | cons y ys => rw [pyAll_cons] at h2; split at h2 <;> cases h2
  | x :: xs, ys, ps, h1, h2 => by
    rw [pyAll_cons] at h1
    split at h1
    · rename_i p qs e1 e2
      cases h1
      cases ys with
      | nil => cases h2
      | cons y ys =>
        rw [pyAll_cons] at h2
        split at h2
        · rename_i p' qs' f1 f2
          cases h2
          rw [pyOf_inj x y _ e1 f1, pyAll_inj xs ys _ e2 f2]
        · cases h2
    · cases h1
end
theorem minD_mem : ∀ (xs : List PyData) (x : PyData), PySem.W.minD x xs = x ∨ PySem.W.minD x xs ∈ xs
  | [], x => .inl rfl
  | y :: ys, x => by
    have e : PySem.W.minD x (y :: ys) = PySem.W.minD (if PySem.W.dataLt y x = true then y else x) ys := rfl
    rw [e]
    rcases minD_mem ys (if PySem.W.dataLt y x = true then y else x) with h | h
    · rw [h]
      split
      · exact .inr List.mem_cons_self
      · exact .inl rfl
    · exact .inr (List.mem_cons_of_mem _ h)
theorem maxD_mem : ∀ (xs : List PyData) (x : PyData), PySem.W.maxD x xs = x ∨ PySem.W.maxD x xs ∈ xs
  | [], x => .inl rfl
  | y :: ys, x => by
    have e : PySem.W.maxD x (y :: ys) = PySem.W.maxD (if PySem.W.dataLt x y = true then y else x) ys := rfl
    rw [e]
    rcases maxD_mem ys (if PySem.W.dataLt x y = true then y else x) with h | h
    · rw [h]
      split
      · exact .inr List.mem_cons_self
      · exact .inl rfl
    · exact .inr (List.mem_cons_of_mem _ h)
def rMinD (K : PySem.W.Frag) : List V → Hp → VK → Prop := fun vs H Q => ∃ (a : Addr) (xs : List V) (p : PyData) (ps : List PyData), vs = [V.ref a] ∧ SqL K H a xs ∧ DpAll K H xs (p :: ps) ∧ PySem.W.AlikeAll (p :: ps) ∧ PyData.depthAll (p :: ps) ≤ 60 ∧ ∀ (i : Nat) (x : V), xs[i]? = some x → (p :: ps)[i]? = some (PySem.W.minD p ps) → Q x H
theorem cr_minD (hc : X.calm = true) (hu : X.A.units + 64 < cLine) : CallR X (.builtin "min") (rMinD X.K) := by
  intro pins s σ H vs us Q I r h
  obtain ⟨a, xs, p, ps, rfl, hs, hd, hal, hdep, q⟩ := h
  obtain ⟨its, rv, hl, hz⟩ := I.list hs
  obtain ⟨u, rfl, ru⟩ := vals1 r
  obtain rfl : u = Value.ref a := ru
  obtain ⟨as, hr⟩ := Dp.readsAll I _ _ _ hd rv
  refine PySem.W.min_list_data (I.ok.hd hc) hl.isList hr hal (by omega) fun i v h' tk bs hv rd k => ?_
  have hv : its[i]? = some v := by simpa using hv
  have hi : i < xs.length := by have := (List.getElem?_eq_some_iff.mp hv).1; rw [rv.length]; exact this
  obtain ⟨w, hw, rw'⟩ := rv.get (List.getElem?_eq_getElem hi)
  rw [hv] at hw
  cases hw
  have hip : i < (p :: ps).length := by rw [← dp_len hd]; exact hi
  obtain ⟨as1, rd1⟩ := (dpAll_at hd i xs[i] (p :: ps)[i] (List.getElem?_eq_getElem hi) (List.getElem?_eq_getElem hip)).reads I _ _ _ rw'
  have hm : PySem.W.minD p ps ∈ p :: ps := by
    rcases minD_mem ps p with e | e
    · rw [e]; exact List.mem_cons_self
    · exact List.mem_cons_of_mem _ e
  have e := PySem.W.alike_unique _ _ _ _ _ (hal.1 _ (List.getElem_mem hip) _ hm) (PyProof.Rows.Reads.keeps k rd1) rd
  exact ⟨xs[i], H, I.kept (t' := tk) k, rw', q i xs[i] (List.getElem?_eq_getElem hi) (by rw [List.getElem?_eq_getElem hip, e])⟩
def rMaxD (K : PySem.W.Frag) : List V → Hp → VK → Prop := fun vs H Q => ∃ (a : Addr) (xs : List V) (p : PyData) (ps : List PyData), vs = [V.ref a] ∧ SqL K H a xs ∧ DpAll K H xs (p :: ps) ∧ PySem.W.AlikeAll (p :: ps) ∧ PyData.depthAll (p :: ps) ≤ 60 ∧ ∀ (i : Nat) (x : V), xs[i]? = some x → (p :: ps)[i]? = some (PySem.W.maxD p ps) → Q x H
theorem cr_maxD (hc : X.calm = true) (hu : X.A.units + 64 < cLine) : CallR X (.builtin "max") (rMaxD X.K) := by
  intro pins s σ H vs us Q I r h
  obtain ⟨a, xs, p, ps, rfl, hs, hd, hal, hdep, q⟩ := h
  obtain ⟨its, rv, hl, hz⟩ := I.list hs
  obtain ⟨u, rfl, ru⟩ := vals1 r
  obtain rfl : u = Value.ref a := ru
  obtain ⟨as, hr⟩ := Dp.readsAll I _ _ _ hd rv
  refine PySem.W.max_list_data (I.ok.hd hc) hl.isList hr hal (by omega) fun i v h' tk bs hv rd k => ?_
  have hv : its[i]? = some v := by simpa using hv
  have hi : i < xs.length := by have := (List.getElem?_eq_some_iff.mp hv).1; rw [rv.length]; exact this
  obtain ⟨w, hw, rw'⟩ := rv.get (List.getElem?_eq_getElem hi)
  rw [hv] at hw
  cases hw
  have hip : i < (p :: ps).length := by rw [← dp_len hd]; exact hi
  obtain ⟨as1, rd1⟩ := (dpAll_at hd i xs[i] (p :: ps)[i] (List.getElem?_eq_getElem hi) (List.getElem?_eq_getElem hip)).reads I _ _ _ rw'
  have hm : PySem.W.maxD p ps ∈ p :: ps := by
    rcases maxD_mem ps p with e | e
    · rw [e]; exact List.mem_cons_self
    · exact List.mem_cons_of_mem _ e
  have e := PySem.W.alike_unique _ _ _ _ _ (hal.1 _ (List.getElem_mem hip) _ hm) (PyProof.Rows.Reads.keeps k rd1) rd
  exact ⟨xs[i], H, I.kept (t' := tk) k, rw', q i xs[i] (List.getElem?_eq_getElem hi) (by rw [List.getElem?_eq_getElem hip, e])⟩
/-! ### over data -/
/-- the list can be searched for its least -/
def bestOk (l : List D) : Prop := ∃ p ps, pyAll l = some (p :: ps) ∧ PySem.W.AlikeAll (p :: ps) ∧ PyData.depthAll (p :: ps) ≤ 60
def minL' (x : D) (xs : List D) : D := xs.foldl (fun a y => if ltD y a = true then y else a) x
def maxL' (x : D) (xs : List D) : D := xs.foldl (fun a y => if ltD a y = true then y else a) x
theorem minL'_py : ∀ (xs : List D) (x : D), pyD (minL' x xs) = PySem.W.minD (pyD x) (xs.map pyD)
  | [], x => rfl
  | y :: ys, x => by
    have e : minL' x (y :: ys) = minL' (if ltD y x = true then y else x) ys := rfl
    have e2 : PySem.W.minD (pyD x) ((y :: ys).map pyD) = PySem.W.minD (if PySem.W.dataLt (pyD y) (pyD x) = true then pyD y else pyD x) (ys.map pyD) := rfl
    rw [e, e2, minL'_py ys]
    congr 1
    show pyD (if PySem.W.dataLt (pyD y) (pyD x) = true then y else x) = _
    split <;> rfl
theorem maxL'_py : ∀ (xs : List D) (x : D), pyD (maxL' x xs) = PySem.W.maxD (pyD x) (xs.map pyD)
  | [], x => rfl
  | y :: ys, x => by
    have e : maxL' x (y :: ys) = maxL' (if ltD x y = true then y else x) ys := rfl
    have e2 : PySem.W.maxD (pyD x) ((y :: ys).map pyD) = PySem.W.maxD (if PySem.W.dataLt (pyD x) (pyD y) = true then pyD y else pyD x) (ys.map pyD) := rfl
    rw [e, e2, maxL'_py ys]
    congr 1
    show pyD (if PySem.W.dataLt (pyD x) (pyD y) = true then y else x) = _
    split <;> rfl
theorem minL'_mem : ∀ (xs : List D) (x : D), minL' x xs ∈ x :: xs
  | [], x => List.mem_cons_self
  | y :: ys, x => by
    have e : minL' x (y :: ys) = minL' (if ltD y x = true then y else x) ys := rfl
    rw [e]
    rcases List.mem_cons.mp (minL'_mem ys (if ltD y x = true then y else x)) with h | h
    · rw [h]
      split
      · exact List.mem_cons_of_mem _ List.mem_cons_self
      · exact List.mem_cons_self
    · exact List.mem_cons_of_mem _ (List.mem_cons_of_mem _ h)
theorem maxL'_mem : ∀ (xs : List D) (x : D), maxL' x xs ∈ x :: xs
  | [], x => List.mem_cons_self
  | y :: ys, x => by
    have e : maxL' x (y :: ys) = maxL' (if ltD x y = true then y else x) ys := rfl
    rw [e]
    rcases List.mem_cons.mp (maxL'_mem ys (if ltD x y = true then y else x)) with h | h
    · rw [h]
      split
      · exact List.mem_cons_of_mem _ List.mem_cons_self
      · exact List.mem_cons_self
    · exact List.mem_cons_of_mem _ (List.mem_cons_of_mem _ h)
theorem pyAll_mem : ∀ {l : List D} {ps : List PyData}, pyAll l = some ps → ∀ x ∈ l, pyOf x = some (pyD x)
  | [], _, _, x, hx => by cases hx
  | y :: l, ps, h, x, hx => by
    rw [pyAll_cons] at h
    split at h
    · rename_i p qs e1 e2
      rcases List.mem_cons.mp hx with rfl | hx
      · simp only [pyD, e1, Option.getD_some]
      · exact pyAll_mem e2 x hx
    · cases h
def ρMinD : DC := fun τ xs k => match xs with
  | [x] => ∃ y l, lstOf τ x = some (y :: l) ∧ bestOk (y :: l) ∧ k τ (minL' y l)
  | _ => False
theorem ok_minD {K : PySem.W.Frag} : RCok K T (rMinD K) ρMinD := by
  intro τ H xs vs k Q j r h q
  match xs, h, r with
  | [x], h, r =>
    obtain ⟨v, e, r1⟩ := one_of r
    obtain ⟨y, l, hl, ⟨p, ps, h1, h2, h3⟩, hk⟩ := h
    obtain ⟨a, ws, ev, sq, rr⟩ := lstOf_ok j r1 hl
    subst e ev
    refine ⟨a, ws, p, ps, rfl, sq, pyAll_ok _ _ _ rr h1, h2, h3, fun i w hw hm => ?_⟩
    obtain ⟨d, hd, rd⟩ := rr.getV hw
    have hps := pyAll_pyD h1
    have e1 : p = pyD y ∧ ps = l.map pyD := by
      rw [List.map_cons] at hps
      exact ⟨(List.cons.inj hps).1, (List.cons.inj hps).2⟩
    have hdp : pyD d = pyD (minL' y l) := by
      rw [minL'_py, ← e1.1, ← e1.2]
      rw [hps, List.getElem?_map, hd] at hm
      exact Option.some.inj hm
    have ed : d = minL' y l := pyOf_inj _ _ _ (pyAll_mem h1 d (List.mem_of_getElem? hd)) (by rw [hdp]; exact pyAll_mem h1 _ (minL'_mem l y))
    rw [← ed] at hk
    exact q w τ H d (.refl _ _) j rd hk
def ρMaxD : DC := fun τ xs k => match xs with
  | [x] => ∃ y l, lstOf τ x = some (y :: l) ∧ bestOk (y :: l) ∧ k τ (maxL' y l)
  | _ => False
theorem ok_maxD {K : PySem.W.Frag} : RCok K T (rMaxD K) ρMaxD := by
  intro τ H xs vs k Q j r h q
  match xs, h, r with
  | [x], h, r =>
    obtain ⟨v, e, r1⟩ := one_of r
    obtain ⟨y, l, hl, ⟨p, ps, h1, h2, h3⟩, hk⟩ := h
    obtain ⟨a, ws, ev, sq, rr⟩ := lstOf_ok j r1 hl
    subst e ev
    refine ⟨a, ws, p, ps, rfl, sq, pyAll_ok _ _ _ rr h1, h2, h3, fun i w hw hm => ?_⟩
    obtain ⟨d, hd, rd⟩ := rr.getV hw
    have hps := pyAll_pyD h1
    have e1 : p = pyD y ∧ ps = l.map pyD := by
      rw [List.map_cons] at hps
      exact ⟨(List.cons.inj hps).1, (List.cons.inj hps).2⟩
    have hdp : pyD d = pyD (maxL' y l) := by
      rw [maxL'_py, ← e1.1, ← e1.2]
      rw [hps, List.getElem?_map, hd] at hm
      exact Option.some.inj hm
    have ed : d = maxL' y l := pyOf_inj _ _ _ (pyAll_mem h1 d (List.mem_of_getElem? hd)) (by rw [hdp]; exact pyAll_mem h1 _ (maxL'_mem l y))
    rw [← ed] at hk
    exact q w τ H d (.refl _ _) j rd hk
end
end DL

set_option Elab.async false
set_option linter.all false
set_option maxRecDepth 100000
set_option maxHeartbeats 1000000
/-! The data layer, 24: def met(call): try: return call() / except X as e: return 'not ' + e.word. -/
namespace DL
open PySem PySem.Spec PyProof.Rows L2 DX
section
variable {T : List (Addr × Str)} {X : Cx} {E : XK} {KE : XD} {e : Expr} {es : List Expr} {pos : Pos}
def TTm (K : PySem.W.Frag) (CS : Addr) (fld pre : Str) : (XK → Hp → VK → Prop) → Hp → VK → Prop := fun tl H Q =>
  tl (fun cls d H' => PySem.W.exmOne K cls (.ref CS) = some true ∧ cls = .ref CS ∧ ∃ (dd : Addr) (fs : List (Str × V)) (z : Str), d = some dd ∧ H' dd = some (.xd fs) ∧ fs.lookup fld = some (.str z) ∧ pre.length + z.length ≤ sizeLine ∧ Q (.str (pre ++ z)) H') H fun v H' => Q v H'
theorem met_givesF {Ng : List Str} {x a e q pre n fld : Str} {sg : Scope} {g CS : Addr} {cdg : Value} {j i : Nat} {p1 p2 p3 p4 p5 p6 p7 p8 p9 p10 p11 : Pos} (hNg : Ng.Nodup) (hin : Ng[i]? = some n) (hnl : sg.names.lookup n = some .local) (T : XfC X.K CS) (hno : PySem.W.findIn X.K (.ref CS) fld = some none)
    (hge : sg.names.lookup e = some .globalImplicit) (hme : X.mg e = some (.ref CS)) (hde : (e == ("__debug__" : Str)) = false) (hdn : (n == ("__debug__" : Str)) = false) (hdc : (n == ("__classdict__" : Str)) = false) (h0 : ∀ f : Addr, (L2.start Ng [V.ref f])[0]? = some (some (V.ref f))) :
    LamX.GivesTo X Ng x sg g cdg [.Try [.Return (some (.Call (.Name a p1) [] [] p2)) p3] [.ExceptHandler (some (.Name e p4)) (some n) [.Return (some (.BinOp (.Constant (.str pre) j p10) .Add (.Attribute (.Name n p5) fld p6) p11)) p7] p8] [] [] p9] a q (TTm X.K CS fld pre) := by
  intro f c' s H Q tl act hc h
  have hgl : Gl (cxOf C8.CX0 X.prog X.w X.K X.mg X.base Ng x sg g cdg X.A X.stack s H C8.E0).nox e := hge
  have hkn : (cxOf C8.CX0 X.prog X.w X.K X.mg X.base Ng x sg g cdg X.A X.stack s H C8.E0).nox.env.kindOf n = some .local := by
    show sg.names.lookup n = some .local
    exact hnl
  have hil : i < Ng.length := (List.getElem?_eq_some_iff.mp hin).1
  refine ⟨_, pss_one (ps_try_as (X := (cxOf C8.CX0 X.prog X.w X.K X.mg X.base Ng x sg g cdg X.A X.stack s H C8.E0).nox) (c := .ref CS) (i := i)
      (tb := fun W D σ H => ∃ Ech : XK, (∀ cls d σ' H', Ech cls d H' → σ'.length = Ng.length → W cls d σ' H') ∧ σ[0]? = some (some (.ref f)) ∧ H c' = some (LamX.CodeO c' q) ∧ tl Ech H fun v H' => D.rt v H')
      rfl rfl hNg hin hkn ⟨hgl, hde, .inl hme⟩ LamX.takes0 (fun W pn xe tk _ => ?_) (fun a oe cls d pn hz hv => pss_one (ps_ret (pe_op (r := rAddU X.K) (show OpR _ (binaryOp Operator.Add) (rAddU X.K) from op_addU) pe_str (pe_xf T hno hz hv (pe_var (i := i) hin (.inl hnl) hdn hdc)))))), ?_⟩
  · refine ⟨fun pins s' σ H' D I h' => ?_⟩
    obtain ⟨Ech, hW, h1, h2, h3⟩ := h'
    have hp := act (fun cls d σ H => σ.length = Ng.length → W cls d σ H) pn xe Ech p1 p2 (takes_len tk) hW
    have hq := pss_one (ps_ret (pos := p3) hp)
    exact hq.run pins s' σ H' D I ⟨h1, h2, h3⟩
  · refine ⟨_, fun cls d σ' H' hE hl => ⟨true, hE.1, fun _ b _ => ?_, fun hb => by cases hb⟩, h0 f, hc, h⟩
    obtain ⟨_, hcl, dd, fs, z, hd, hH, hlk, hz, hq⟩ := hE
    refine ⟨.ref b, List.getElem?_set_self (by rw [hl]; exact hil), rfl, hcl, dd, fs, .str z, hd, hH, hlk, ?_⟩
    exact .inr (.inl ⟨pre, z, rfl, rfl, hz, hq⟩)
def dMet (C : Addr) (fld pre : Str) (δb : XD → DE) : DE := fun τ ds k => δb (fun τ' C' f d => C' = C ∧ f = fld ∧ ∃ z, d = .str z ∧ pre.length + z.length ≤ sizeLine ∧ k τ' (.str (pre ++ z))) τ ds k
theorem pd_met {x a fld ret : Str} {g cl P CS : Addr} {k : Nat} {pg : Arguments} {bg : List Stmt} {sg : Scope} {dV kV doc pm cdv ct oc : Value} {an od : Option Addr} {osl : Array (Option Value)} {Ng : List Str}
    {params : Arguments} {body : Expr} {scope : Scope} {δb : XD → DE} {p lpos : Pos} (hg : Gl X x) (hm : X.mg x = some (.ref g)) (hk : PySem.W.keepIn X.K (.ref g) = true)
    (lk : X.K.lookup g = some ⟨oc, od, .func (PySem.W.fnOf x x pg bg sg dV kV doc pm an cdv ct), osl⟩) (hcg : PySem.W.codeIn X.K cdv x = true) (hb : L2.Binds X.K (PySem.W.fnOf x x pg bg sg dV kV doc pm an cdv ct) [a] []) (Sg : FnScope Ng [a] sg) (hNg : Ng[0]? = some a) (hva : Vis sg a)
    (hG : LamX.GivesTo X Ng x sg g cdv bg a (X.env.qual ++ "<lambda>") (TTm X.K CS fld ret)) (hex : PySem.W.exmOne X.K (.ref CS) (.ref CS) = some true)
    (TB : LamX.TabB X.base X.mg cl P) (hcode : X.env.code = .ref cl) (hmT : (P, X.env.qual ++ "<lambda>") ∈ T) (hu : ∀ p ∈ T, p.1 = P → p.2 = X.env.qual ++ "<lambda>") (hr : Room (k + 2) X.A) (L : LamX.LamS X.env.scope scope) (hdef : defaultsOf params X.env = ([], []))
    (hbind : ∀ (q : Str) (cl : List (Str × Addr)) (pm cv ctv : Value), bindArgs (PySem.W.kla_fn "<lambda>" q params body scope cl pm cv ctv) ⟨[], []⟩ = pure [])
    (hbody : ∀ (A : Around) (outer : List Env) (s : Shared) (H : Hp) (E : XK) (f c' : Addr) (KE : XD), Room k (A.deeper (LamX.lamEnv X scope s.heap.objs.size f c')) → PD T (LamX.lamCx X A outer s H E scope f c') E KE body (δb KE))
    (hdb : (x == ("__debug__" : Str)) = false := by decide) (hd : (a == ("__debug__" : Str)) = false := by decide) (hcd : (a == ("__classdict__" : Str)) = false := by decide) :
    PD T X E KE (.Call (.Name x p) [.Lambda params body scope lpos] [] pos) (dMet CS fld ret δb) := by
  have h' : ∀ (q : Around × List Env × Shared × Hp × XK × Addr × Addr × XD), ∃ t, (Room k (q.1.deeper (LamX.lamEnv X scope q.2.2.1.heap.objs.size q.2.2.2.2.2.1 q.2.2.2.2.2.2.1)) → PE (LamX.lamCx X q.1 q.2.1 q.2.2.1 q.2.2.2.1 q.2.2.2.2.1 scope q.2.2.2.2.2.1 q.2.2.2.2.2.2.1) body t) ∧ SndE X.K T q.2.2.2.2.1 q.2.2.2.2.2.2.2 t (δb q.2.2.2.2.2.2.2) := fun ⟨A, outer, s, H, E, f, c', KE⟩ => by
    by_cases hroom : Room k (A.deeper (LamX.lamEnv X scope s.heap.objs.size f c'))
    · obtain ⟨t, h1, h2⟩ := (hbody A outer s H E f c' KE hroom).ex
      exact ⟨t, fun _ => h1, h2⟩
    · exact ⟨fun _ _ _ => True, fun z => absurd z hroom, fun _ _ _ _ _ _ _ _ _ _ _ => trivial⟩
  refine ⟨_, LamX.pe_lamcall (T := T) (t := fun E σ H Q => ∃ KE, ∀ A outer s H0 f c', (h' (A, outer, s, H0, E, f, c', KE)).choose σ H Q) hg hm hk lk hcg hb Sg hNg hva hG TB hcode hmT hu hr L hdef hbind (fun A outer s H0 E f c' hroom => ⟨fun pins s1 σ H Q I q => ?_⟩) hdb hd hcd, fun σ H τ ds k' Q j s h xo q => ?_⟩
  · obtain ⟨KE, q⟩ := q
    exact ((h' (A, outer, s, H0, E, f, c', KE)).choose_spec.1 hroom).run pins s1 σ H Q I (q A outer s H0 f c')
  · refine ⟨j.tabs, fun H1 eN T1 => ?_⟩
    have j1 := j.extN eN T1
    refine ⟨fun τ' C' f d => C' = CS ∧ f = fld ∧ ∃ z, d = .str z ∧ ret.length + z.length ≤ sizeLine ∧ k' τ' (.str (ret ++ z)), fun A outer s0 H0 f c' => ?_⟩
    refine (h' (A, outer, s0, H0, _, f, c', _)).choose_spec.2 σ H1 τ ds _ _ j1 (s.ext (ext_N eN)) h (fun τ2 H2 C' f2 d b v e2 j2 hb r2 k2 => ?_) fun v τ2 H2 d e2 j2 r2 k2 => ?_
    · obtain ⟨rfl, rfl, z, rfl, hz, k2⟩ := k2
      have r2 : v = .str z := r2
      subst r2
      exact ⟨hex, rfl, b, _, z, rfl, hb, by simp [List.lookup], hz, q (.str (ret ++ z)) τ2 H2 (.str (ret ++ z)) ((ext_N eN).trans e2) j2 rfl k2⟩
    · exact q v τ2 H2 d ((ext_N eN).trans e2) j2 r2 k2
end
end DL

set_option Elab.async false
set_option linter.all false
set_option maxRecDepth 100000
set_option maxHeartbeats 1000000
/-! The data layer, 25: the order of numbers and of pairs of numbers; sorted, min and max of them; equations of the class layer. -/
namespace DL
open PySem PySem.Spec PyProof.Rows L2 DX
section
variable {T : List (Addr × Str)} {X : Cx} {E : XK} {KE : XD} {K : PySem.W.Frag} {τ : TD} {H : Hp} {k : DK}
/-! ### the order -/
def pD (p : Int × Int) : D := .tup [.int p.1, .int p.2]
def leP (p q : Int × Int) : Bool := decide (p.1 < q.1 ∨ (p.1 = q.1 ∧ p.2 ≤ q.2))
def leI (a b : Int) : Bool := decide (a ≤ b)
theorem pyOf_int {i : Int} : pyOf (.int i) = some (.int i) := by rw [pyOf]
theorem pyAll_nil : pyAll [] = some [] := by rw [pyAll]
theorem pyOf_pD {p : Int × Int} : pyOf (pD p) = some (.tuple [.int p.1, .int p.2]) := by
  unfold pD
  rw [pyOf_tup, pyAll_cons, pyAll_cons, pyAll_nil, pyOf_int, pyOf_int]
  rfl
theorem pyAll_map {α : Type} {g : α → D} {f : α → PyData} (h : ∀ a, pyOf (g a) = some (f a)) : ∀ l : List α, pyAll (l.map g) = some (l.map f)
  | [] => pyAll_nil
  | a :: l => by rw [List.map_cons, pyAll_cons, h, pyAll_map h l]; rfl
theorem leD_pD (p q : Int × Int) : leD (pD p) (pD q) = leP p q := by
  have h := congrFun (congrFun (PySem.W.dataLe_ii (β := Int × Int) Prod.fst Prod.snd) p) q
  have e : leD (pD p) (pD q) = PySem.W.dataLe false (fun b : Int × Int => .tuple [.int b.1, .int b.2]) p q := by
    unfold leD ltD pyD
    rw [pyOf_pD, pyOf_pD]
    rfl
  rw [e, h]; rfl
theorem leD_int (p q : Int) : leD (.int p) (.int q) = leI p q := by
  have h := congrFun (congrFun (PySem.W.dataLe_int (β := Int) id) p) q
  have e : leD (.int p) (.int q) = PySem.W.dataLe false (fun b : Int => .int (id b)) p q := by
    unfold leD ltD pyD
    rw [pyOf_int, pyOf_int]
    rfl
  rw [e, h]; rfl
theorem sort_map {α : Type} {g : α → D} {le : α → α → Bool} (h : ∀ a b, leD (g a) (g b) = le a b) (l : List α) : (l.map g).mergeSort leD = (l.mergeSort le).map g :=
  (List.map_mergeSort (fun a _ b _ => (h a b).symm)).symm
theorem sort_pD (l : List (Int × Int)) : (l.map pD).mergeSort leD = (l.mergeSort leP).map pD := sort_map leD_pD l
theorem sort_ints (l : List Int) : (l.map D.int).mergeSort leD = (l.mergeSort leI).map D.int := sort_map leD_int l
theorem sortOk_pD (l : List (Int × Int)) : sortOk (l.map pD) :=
  ⟨_, pyAll_map (fun _ => pyOf_pD) l, PySem.W.AllAlike.of fun _ _ => rfl, PySem.W.Sortable.tuples fun _ => ⟨_, _, rfl⟩, fun p hp => by
    obtain ⟨a, _, rfl⟩ := List.mem_map.mp hp
    show PyData.depth (.tuple [.int a.1, .int a.2]) ≤ 60
    simp [PyData.depth, PyData.depthAll]⟩
theorem sortOk_ints (l : List Int) : sortOk (l.map D.int) :=
  ⟨_, pyAll_map (fun _ => pyOf_int) l, PySem.W.AllAlike.of fun _ _ => rfl, PySem.W.Sortable.others fun _ => ⟨(fun h => by cases h), fun _ h => by cases h⟩, fun p hp => by
    obtain ⟨a, _, rfl⟩ := List.mem_map.mp hp
    simp [PyData.depth]⟩
theorem leP_total (p q : Int × Int) : (leP p q || leP q p) = true := by
  simp only [leP, Bool.or_eq_true, decide_eq_true_eq]; omega
theorem leP_trans (p q r : Int × Int) (h : leP p q = true) (g : leP q r = true) : leP p r = true := by
  simp only [leP, decide_eq_true_eq] at *; omega
theorem leP_anti {p q : Int × Int} (h : leP p q = true) (g : leP q p = true) : p = q := by
  simp only [leP, decide_eq_true_eq] at *
  exact Prod.ext (by omega) (by omega)
theorem leI_total (p q : Int) : (leI p q || leI q p) = true := by
  simp only [leI, Bool.or_eq_true, decide_eq_true_eq]; omega
theorem leI_trans (p q r : Int) (h : leI p q = true) (g : leI q r = true) : leI p r = true := by
  simp only [leI, decide_eq_true_eq] at *; omega
theorem leI_anti {p q : Int} (h : leI p q = true) (g : leI q p = true) : p = q := by
  simp only [leI, decide_eq_true_eq] at *; omega
/-- two orders of one thing -/
theorem sorted_eq {α : Type} {le : α → α → Bool} (anti : ∀ {a b : α}, le a b = true → le b a = true → a = b) : ∀ {l m : List α}, l.Perm m → l.Pairwise (fun a b => le a b = true) → m.Pairwise (fun a b => le a b = true) → l = m :=
  fun p h g => p.eq_of_pairwise (fun a b _ _ x y => anti x y) h g
theorem sorted_perm {α : Type} {le : α → α → Bool} (anti : ∀ {a b : α}, le a b = true → le b a = true → a = b) (tr : ∀ a b c, le a b = true → le b c = true → le a c = true) (to : ∀ a b, (le a b || le b a) = true) {l m : List α} (p : l.Perm m) : l.mergeSort le = m.mergeSort le :=
  sorted_eq anti (((List.mergeSort_perm l le).trans p).trans (List.mergeSort_perm m le).symm) (List.pairwise_mergeSort tr to l) (List.pairwise_mergeSort tr to m)
/-! ### the least -/
theorem bestOk_of {α : Type} {g : α → D} {f : α → PyData} (h : ∀ a, pyOf (g a) = some (f a)) (al : ∀ a b, PySem.W.alike (f a) (f b) = true) (nn : ∀ a, f a ≠ .none) (dp : ∀ a, (f a).depth ≤ 50) (a : α) (l : List α) : bestOk ((a :: l).map g) := by
  refine ⟨f a, l.map f, by rw [pyAll_map h]; rfl, ⟨fun x hx y hy => ?_, fun x hx => ?_⟩, ?_⟩
  · rw [← List.map_cons] at hx hy
    obtain ⟨u, _, rfl⟩ := List.mem_map.mp hx
    obtain ⟨v, _, rfl⟩ := List.mem_map.mp hy
    exact al u v
  · rw [← List.map_cons] at hx
    obtain ⟨u, _, rfl⟩ := List.mem_map.mp hx
    exact nn u
  · rw [← List.map_cons]
    have key : ∀ m : List α, PyData.depthAll (m.map f) ≤ 60 := by
      intro m
      induction m with
      | nil => simp [PyData.depthAll]
      | cons b m ih =>
        have := dp b
        simp only [List.map_cons, PyData.depthAll]
        omega
    exact key _
theorem bestOk_pD (a : Int × Int) (l : List (Int × Int)) : bestOk (pD a :: l.map pD) := by
  rw [← List.map_cons]
  exact bestOk_of (fun _ => pyOf_pD) (fun _ _ => rfl) (fun _ h => by cases h) (fun _ => by simp [PyData.depth, PyData.depthAll]) a l
theorem bestOk_ints (a : Int) (l : List Int) : bestOk (D.int a :: l.map D.int) := by
  rw [← List.map_cons]
  exact bestOk_of (fun _ => pyOf_int) (fun _ _ => rfl) (fun _ h => by cases h) (fun _ => by simp [PyData.depth]) a l
theorem ltD_leD (x y : D) : ltD x y = !leD y x := by unfold leD; rw [Bool.not_not]
/-- the least by an order that the data keep -/
theorem minL'_map {α : Type} {g : α → D} {le : α → α → Bool} (h : ∀ a b, leD (g a) (g b) = le a b) (tr : ∀ a b c, le a b = true → le b c = true → le a c = true) (to : ∀ a b, (le a b || le b a) = true) : ∀ (l : List α) (a : α), ∃ m, minL' (g a) (l.map g) = g m ∧ m ∈ a :: l ∧ ∀ x ∈ a :: l, le m x = true
  | [], a => ⟨a, rfl, List.mem_cons_self, fun x hx => by
    rw [List.mem_singleton] at hx
    subst hx
    have := to x x
    simpa using this⟩
  | b :: l, a => by
    have e : minL' (g a) ((b :: l).map g) = minL' (if ltD (g b) (g a) = true then g b else g a) (l.map g) := rfl
    rw [e, ltD_leD, h]
    by_cases c : le a b = true
    · rw [c]
      simp only [Bool.not_true, Bool.false_eq_true, if_false]
      obtain ⟨m, h1, h2, h3⟩ := minL'_map h tr to l a
      refine ⟨m, h1, ?_, fun x hx => ?_⟩
      · rcases List.mem_cons.mp h2 with h2 | h2
        · rw [h2]; exact List.mem_cons_self
        · exact List.mem_cons_of_mem _ (List.mem_cons_of_mem _ h2)
      · rcases List.mem_cons.mp hx with rfl | hx
        · exact h3 _ List.mem_cons_self
        · rcases List.mem_cons.mp hx with rfl | hx
          · exact tr _ _ _ (h3 _ List.mem_cons_self) c
          · exact h3 _ (List.mem_cons_of_mem _ hx)
    · have c' : le b a = true := by
        have := to a b
        simp only [Bool.or_eq_true] at this
        exact this.resolve_left c
      rw [show le a b = false by simpa using c]
      simp only [Bool.not_false, if_true]
      obtain ⟨m, h1, h2, h3⟩ := minL'_map h tr to l b
      refine ⟨m, h1, List.mem_cons_of_mem _ h2, fun x hx => ?_⟩
      rcases List.mem_cons.mp hx with rfl | hx
      · exact tr _ _ _ (h3 _ List.mem_cons_self) c'
      · exact h3 _ hx
theorem head_sorted {α : Type} {le : α → α → Bool} (anti : ∀ {a b : α}, le a b = true → le b a = true → a = b) (tr : ∀ a b c, le a b = true → le b c = true → le a c = true) (to : ∀ a b, (le a b || le b a) = true) {l : List α} {q : α} (hq : q ∈ l) (hm : ∀ x ∈ l, le q x = true) : ∃ r, l.mergeSort le = q :: r := by
  have p := List.mergeSort_perm l le
  have s := List.pairwise_mergeSort tr to l
  cases e : l.mergeSort le with
  | nil => rw [e] at p; rw [← p.mem_iff] at hq; cases hq
  | cons h r =>
    rw [e] at p s
    have h1 : le q h = true := hm h (p.mem_iff.mp List.mem_cons_self)
    rcases List.mem_cons.mp (p.mem_iff.mpr hq) with rfl | h2
    · exact ⟨r, rfl⟩
    · exact ⟨r, by rw [anti h1 ((List.pairwise_cons.mp s).1 q h2)]⟩
/-! ### what stands outside of F is kept -/
def SubX (F : List Addr) (τ τ' : TD) : Prop := ∀ x o, x ∉ F → τ x = some o → τ' x = some o
theorem SubX.refl {F : List Addr} : SubX F τ τ := fun _ _ _ h => h
theorem SubX.trans {F : List Addr} {τ1 τ2 : TD} (h : SubX F τ τ1) (g : SubX F τ1 τ2) : SubX F τ τ2 := fun x o n e => g x o n (h x o n e)
theorem SubX.mono {F G : List Addr} {τ' : TD} (h : SubX F τ τ') (s : ∀ x ∈ F, x ∈ G) : SubX G τ τ' := fun x o n e => h x o (fun z => n (s x z)) e
theorem SubX.of {F : List Addr} {τ' : TD} (h : Sub τ τ') : SubX F τ τ' := fun x o _ e => h x o e
theorem SubX.sub {τ' : TD} (h : SubX [] τ τ') : Sub τ τ' := fun x o e => h x o (by simp) e
theorem SubX.set {F : List Addr} {τ' : TD} {a : Addr} {u : DO} (h : SubX F τ τ') (ha : a ∈ F) : SubX F τ (tset τ' a u) := fun x o n e => by
  rw [tset_ne (fun z => by subst z; exact n ha)]
  exact h x o n e
theorem SubX.new {F : List Addr} {τ' : TD} {a : Addr} {u : DO} (h : SubX F τ τ') (ha : τ' a = none) : SubX F τ (tset τ' a u) := fun x o n e => by
  have := h x o n e
  rw [tset_ne (fun z => by rw [z, ha] at this; cases this)]
  exact this
theorem SubX.lst {F : List Addr} {τ' : TD} {a : Addr} {xs : List D} (h : SubX F τ τ') (ha : a ∉ F) (e : lstAt τ a = some xs) : lstAt τ' a = some xs := lstAt_of (h a _ ha (lstAt_iff e))
theorem SubX.ins {F : List Addr} {τ' : TD} {a : Addr} {p : Addr × List (Str × D)} (h : SubX F τ τ') (ha : a ∉ F) (e : insAt τ a = some p) : insAt τ' a = some p := insAt_iff.mpr (h a _ ha (insAt_iff.mp e))
theorem SubX.dk {F : List Addr} {τ' : TD} {a : Addr} {kvs : List (Key × D)} (h : SubX F τ τ') (ha : a ∉ F) (e : τ a = some (.dK kvs)) : τ' a = some (.dK kvs) := h a _ ha e
/-- what is new -/
theorem SubX.fresh {F : List Addr} {τ' : TD} {a x : Addr} {o : DO} (h : SubX F τ τ') (ha : τ' a = none) (e : τ x = some o) (hx : x ∉ F) : x ≠ a := fun z => by
  have := h x o hx e
  rw [z, ha] at this
  cases this
theorem SubX.none {b : Addr} {τ' : TD} {a : Addr} (h : SubX [b] τ τ') (ha : τ' a = none) (hn : a ≠ b) : τ a = none := by
  cases e : τ a with
  | none => rfl
  | some o =>
    have := h a o (by simpa using hn) e
    rw [ha] at this
    cases this
theorem tset_self {a : Addr} {u : DO} (h : τ a = some u) : tset τ a u = τ := by
  funext b
  unfold tset
  split
  · rename_i e; rw [e, h]
  · rfl
theorem dIf_step {η : DT} {ε ζ : DS} {F : EndsD} {ds : Sl} (h : ∀ k : TD → Bool → Prop, (∀ τ1, ε F τ1 ds → k τ1 true) → (∀ τ1, ζ F τ1 ds → k τ1 false) → η τ ds k) : dIfS η ε ζ F τ ds :=
  h _ (fun _ h => by simpa only [if_true] using h) fun _ h => by simpa only [Bool.false_eq_true, if_false] using h
theorem sub_ne' {p q : Addr} {o : DO} (h : τ p = some o) (g : τ q = none) : p ≠ q := Ne.symm (sub_ne h g)
theorem not1 {a b : Addr} (h : a ≠ b) : a ∉ [b] := by simpa using h
theorem mem_h {a : Addr} {l : List Addr} : (a ∈ a :: l) = True := eq_true List.mem_cons_self
theorem mem_h2 {a b : Addr} {l : List Addr} : (a ∈ b :: a :: l) = True := eq_true (List.mem_cons_of_mem _ List.mem_cons_self)
theorem onBool_eq {b : Bool} {f : Bool → Prop} : onBool (.bl b) f = f b := rfl
/-! ### equations -/
theorem ρCopy_ref {a : Addr} : ρCopy τ [.ref a] k = onSome (dkAt τ a) fun kvs => ∀ p, τ p = none → k (tset τ p (.dK kvs)) (.ref p) := rfl
theorem ρSortD_eq {x : D} : ρSortD τ [x] k = ∃ l, lstOf τ x = some l ∧ sortOk l ∧ k τ (.lst (l.mergeSort leD)) := rfl
theorem ρMinD_eq {x : D} : ρMinD τ [x] k = ∃ y l, lstOf τ x = some (y :: l) ∧ bestOk (y :: l) ∧ k τ (minL' y l) := rfl
theorem ρMaxD_eq {x : D} : ρMaxD τ [x] k = ∃ y l, lstOf τ x = some (y :: l) ∧ bestOk (y :: l) ∧ k τ (maxL' y l) := rfl
end
end DL

set_option Elab.async false
set_option linter.all false
set_option maxRecDepth 100000
set_option maxHeartbeats 1000000
/-! The data layer, 26: in and own == as tests. -/
namespace DL
open PySem PySem.Spec PyProof.Rows L2 DX
section
variable {T : List (Addr × Str)} {X : Cx} {E : XK} {KE : XD} {e a b c o i : Expr} {es : List Expr} {pos : Pos} {δ δd δk δa δb : DE} {δs : DA}
theorem pdt_inK (hu : X.A.units + 64 < cLine) (hi : PD T X E KE i δk) (ho : PD T X E KE o δd) (hm : behindInMarks .In o = false := by rfl) : PDT T X E KE (.Compare i [.In] [o] pos) (dTest (dInK false δk δd)) := by
  obtain ⟨tk, p2, s2⟩ := hi.ex
  obtain ⟨td, p1, s1⟩ := ho.ex
  refine ⟨_, pt_cmp (pc_din (by omega) p2 p1) hm, sndTest fun σ H τ ds k Q j s h xo q => s2 σ H τ ds _ _ j s h xo fun w τ1 H1 y e1 j1 r2 k1 => s1 σ H1 τ1 ds _ _ j1 (s.ext e1) k1 (xo.ext e1) fun v τ2 H2 x e2 j2 r1 k2 => ?_⟩
  obtain ⟨a, rfl, k2⟩ := onRef_ok k2
  obtain ⟨kvs, h1, k2⟩ := onSome_ok k2
  obtain ⟨key, h2, k2⟩ := onSome_ok k2
  obtain ⟨kv, rd, pr⟩ := dk_read j2 h1
  refine ⟨a, _, r1, .inl ⟨kv, key, rd, keyOf_ok (r2.ext e2) h2, rfl⟩, q _ τ2 H2 (.bl _) (e1.trans e2) j2 (by rw [some_same pr]; rfl) (by simpa using k2)⟩
theorem pdt_ninK (hu : X.A.units + 64 < cLine) (hi : PD T X E KE i δk) (ho : PD T X E KE o δd) (hm : behindInMarks .NotIn o = false := by rfl) : PDT T X E KE (.Compare i [.NotIn] [o] pos) (dTest (dInK true δk δd)) := by
  obtain ⟨tk, p2, s2⟩ := hi.ex
  obtain ⟨td, p1, s1⟩ := ho.ex
  refine ⟨_, pt_cmp (pc_dnotin (by omega) p2 p1) hm, sndTest fun σ H τ ds k Q j s h xo q => s2 σ H τ ds _ _ j s h xo fun w τ1 H1 y e1 j1 r2 k1 => s1 σ H1 τ1 ds _ _ j1 (s.ext e1) k1 (xo.ext e1) fun v τ2 H2 x e2 j2 r1 k2 => ?_⟩
  obtain ⟨a, rfl, k2⟩ := onRef_ok k2
  obtain ⟨kvs, h1, k2⟩ := onSome_ok k2
  obtain ⟨key, h2, k2⟩ := onSome_ok k2
  obtain ⟨kv, rd, pr⟩ := dk_read j2 h1
  refine ⟨a, _, r1, .inl ⟨kv, key, rd, keyOf_ok (r2.ext e2) h2, rfl⟩, q _ τ2 H2 (.bl _) (e1.trans e2) j2 (by rw [some_same pr]; rfl) (by simpa using k2)⟩
theorem pdt_inT {x1 : Nat} {tp : Pos} (hu : X.A.units + 64 < cLine) (hi : PDA T X E KE es δs) (ho : PD T X E KE o δd) (hm : behindInMarks .In o = false := by rfl) : PDT T X E KE (.Compare (.Tuple es x1 tp) [.In] [o] pos) (dTest (dInT false δs δd)) := by
  obtain ⟨tk, p2, s2⟩ := hi.ex
  obtain ⟨td, p1, s1⟩ := ho.ex
  refine ⟨_, pt_cmp (pc_din (by omega) (pe_tup p2) p1) hm, sndTest fun σ H τ ds k Q j s h xo q => s2 σ H τ ds _ _ j s h xo fun w τ1 H1 ys e1 j1 r2 k1 => ⟨by rw [r2.length]; exact k1.1, fun p hp => ?_⟩⟩
  have e3 : Ext τ1 H1 τ1 (upd H1 p (.tup w)) := .new hp
  refine s1 σ _ τ1 ds _ _ (j1.new hp) (s.ext (e1.trans e3)) k1.2 (xo.ext (e1.trans e3)) fun v τ2 H2 x e2 j2 r1 k2 => ?_
  obtain ⟨a, rfl, k2⟩ := onRef_ok k2
  obtain ⟨kvs, h1, k2⟩ := onSome_ok k2
  obtain ⟨key, h2, k2⟩ := onSome_ok k2
  obtain ⟨kv, rd, pr⟩ := dt_read j2 h1
  have hT : H2 p = some (.tup (key.map kV)) := by rw [← keysOf_ok r2 h2]; exact e2.keep p _ upd_same (.inl (j1.free hp)) (fun ps z => by cases z)
  exact ⟨a, _, r1, .inr ⟨kv, key, p, rd, rfl, hT, rfl⟩, q _ τ2 H2 (.bl _) ((e1.trans e3).trans e2) j2 (by rw [some_same pr]; rfl) (by simpa using k2)⟩
theorem pdt_ninT {x1 : Nat} {tp : Pos} (hu : X.A.units + 64 < cLine) (hi : PDA T X E KE es δs) (ho : PD T X E KE o δd) (hm : behindInMarks .NotIn o = false := by rfl) : PDT T X E KE (.Compare (.Tuple es x1 tp) [.NotIn] [o] pos) (dTest (dInT true δs δd)) := by
  obtain ⟨tk, p2, s2⟩ := hi.ex
  obtain ⟨td, p1, s1⟩ := ho.ex
  refine ⟨_, pt_cmp (pc_dnotin (by omega) (pe_tup p2) p1) hm, sndTest fun σ H τ ds k Q j s h xo q => s2 σ H τ ds _ _ j s h xo fun w τ1 H1 ys e1 j1 r2 k1 => ⟨by rw [r2.length]; exact k1.1, fun p hp => ?_⟩⟩
  have e3 : Ext τ1 H1 τ1 (upd H1 p (.tup w)) := .new hp
  refine s1 σ _ τ1 ds _ _ (j1.new hp) (s.ext (e1.trans e3)) k1.2 (xo.ext (e1.trans e3)) fun v τ2 H2 x e2 j2 r1 k2 => ?_
  obtain ⟨a, rfl, k2⟩ := onRef_ok k2
  obtain ⟨kvs, h1, k2⟩ := onSome_ok k2
  obtain ⟨key, h2, k2⟩ := onSome_ok k2
  obtain ⟨kv, rd, pr⟩ := dt_read j2 h1
  have hT : H2 p = some (.tup (key.map kV)) := by rw [← keysOf_ok r2 h2]; exact e2.keep p _ upd_same (.inl (j1.free hp)) (fun ps z => by cases z)
  exact ⟨a, _, r1, .inr ⟨kv, key, p, rd, rfl, hT, rfl⟩, q _ τ2 H2 (.bl _) ((e1.trans e3).trans e2) j2 (by rw [some_same pr]; rfl) (by simpa using k2)⟩
theorem pdt_eqI {k : Nat} {C f : Addr} {fd : FuncData} {ps : List Str} {sp : SpD} (q : EqC X.K C f) (F : FnD X.prog X.w X.K X.mg X.base T k f fd ps sp) (hr : Room k X.A) (hb : Binds X.K fd ps []) (hx : Passes (L2.CX X.prog X.w) X E) (ha : PD T X E KE a δa) (hb' : PD T X E KE b δb) (hm : behindInMarks .Eq b = false) : PDT T X E KE (.Compare a [.Eq] [b] pos) (dTest (dEqI C ps.length sp false KE δa δb)) := by
  obtain ⟨ta, h1, s1⟩ := ha.ex
  obtain ⟨tb, h2, s2⟩ := hb'.ex
  exact ⟨_, pt_cmpR (op_eqI q F hr hb hx) h1 h2 hm, sndTest (sndEqI s1 s2)⟩
theorem pdt_neI {k : Nat} {C f : Addr} {fd : FuncData} {ps : List Str} {sp : SpD} (q : EqC X.K C f) (F : FnD X.prog X.w X.K X.mg X.base T k f fd ps sp) (hr : Room (k + 1) X.A) (hb : Binds X.K fd ps []) (hx : Passes (L2.CX X.prog X.w) X E) (ha : PD T X E KE a δa) (hb' : PD T X E KE b δb) (hm : behindInMarks .NotEq b = false) : PDT T X E KE (.Compare a [.NotEq] [b] pos) (dTest (dEqI C ps.length sp true KE δa δb)) := by
  obtain ⟨ta, h1, s1⟩ := ha.ex
  obtain ⟨tb, h2, s2⟩ := hb'.ex
  exact ⟨_, pt_cmpR (op_neI q F hr hb hx) h1 h2 hm, sndTest (sndEqI s1 s2)⟩
end
end DL

set_option Elab.async false
set_option linter.all false
set_option maxRecDepth 100000
set_option maxHeartbeats 1000000
/-! The data layer, 27: dict(d) of a dict with tuple keys. -/
namespace DL
open PySem PySem.Spec PyProof.Rows L2 DX
section
variable {prog : Program} {w : World} {K : Type} [DecidableEq K] {knd : HeapKind prog w K} {A : Around} {E : Value → Shared → Prop} {s : Shared}
theorem call_dictH {o : Addr} {more : List (K × Addr × Value)} {Q : Value → Shared → Prop} (hu : ∀ B : Around, B.units ≤ A.units + 2 → knd.room B) (hoS : (o == sysModules) = false) (ho : s.heap.DictOfH knd o more) (hsz : more.length ≤ sizeLine)
    (hty : ∀ x ∈ more, s.TypeIs (.ref x.2.1) "tuple") (hap : (more.map fun x => knd.hash x.1).Nodup)
    (hst : ∀ h', (∀ b o, s.heap.get? b = some o → h'.get? b = some o) → ∀ x ∈ more, knd.is h' x.1 x.2.1)
    (h : ∀ h', h'.DictOfH knd s.heap.objs.size more → Heap.SameBut s.heap.objs.size (s.heap.push { cls := .type "dict", data := .dict #[] }) h' → Q (.ref s.heap.objs.size) { s with heap := h' }) :
    wpAny (model prog w) A (call (.type "dict") [.ref o]) Q E s := by
  refine callType_codes (Q₁ := fun obj s₁ => obj = .ref s.heap.objs.size ∧ s₁ = { s with heap := s.heap.push { cls := .type "dict", data := .dict #[] } }) F.kt_called_dict (F.kt_typeCall_dict_1 _) F.entry_dict_init (kt_code_dict_new _ ⟨rfl, rfl⟩) ?_
  rintro obj s₁ ⟨rfl, rfl⟩
  have hnew : (s.heap.push { cls := .type "dict", data := .dict #[] }).DictOfH knd s.heap.objs.size [] := Heap.DictOfH.new s.heap
  have ho' : (s.heap.push { cls := .type "dict", data := .dict #[] }).DictOfH knd o more := by
    obtain ⟨oo, es, ep, h1, h2, h3, h4, h5, h6⟩ := ho
    exact ⟨oo, es, ep, Heap.get?_push_of_some _ h1, h2, h3, h4, hst _ (fun b o e => Heap.get?_push_of_some _ e), h6⟩
  have hn : (more.map (·.1)).Nodup := ho.nodup
  have hdo : s.heap.objs.size ≠ o := by
    obtain ⟨_, _, _, hg, _⟩ := ho
    exact fun e => absurd (Heap.lt_size hg) (by rw [e]; exact Nat.lt_irrefl _)
  refine ⟨hnew.typeIs, F.args_dict_init_2 _ _, ?_⟩
  unfold Builtin.«dict.__init__»
  refine wpAny_bind ?_
  unfold Builtin.Dict.selfAndRest
  refine wpAny_bind (wpAny_notOrdered_dict hnew.typeIs ?_)
  show wpAny _ _ (pure (s.heap.objs.size, [Value.ref o])) _ _ _
  refine wpAny_pure ?_
  show wpAny _ _ (Builtin.Dict.updateFrom "dict.__init__" s.heap.objs.size (.ref o) [] .none) _ _ _
  unfold Builtin.Dict.updateFrom
  refine wpAny_bind (wpAny_typeOf ho'.typeIs ?_)
  rw [if_neg (by decide)]
  refine wpAny_bind ?_
  unfold Builtin.Dict.merge
  refine wpAny_bind ?_
  unfold Builtin.Dict.readDirectly
  refine wpAny_bind (wpAny_isInstance ho'.typeIs isSubtype_dict_dict ?_)
  simp only [Bool.not_true, Bool.false_eq_true, if_false]
  refine wpAny_bind (wpAny_specialOf ho'.typeIs F.slot_dict_iter.lookup (wpAny_pure ?_))
  simp only [beq_self_eq_true, if_true]
  refine wpAny_bind (wpAny_pure ?_)
  refine wpAny_mergeDict_heap (hsz := by simpa using hsz) (hu _ ?_) hdo hoS hnew ho' (.inr ⟨?_, hap⟩) fun h' hd' _ hs' => ?_
  · exact Nat.le_refl _
  · intro x hx
    obtain ⟨q, hq, e⟩ := hty x hx
    exact ⟨q, Heap.get?_push_of_some _ hq, e⟩
  · show wpAny _ _ (Builtin.Dict.addKeywords s.heap.objs.size [] >>= _) _ _ _
    rw [storedAllH_nil_of_nodup more hn] at hd'
    exact wpAny_bind (wpAny_pure (wpAny_pure ⟨rfl, h h' hd' hs'⟩))
end
/-- no two keys hash alike -/
def keyI : Key → Int
  | .inl k => hashInt k
  | .inr _ => 0
def intKeys (ks : List Key) : Bool := ks.all fun k => match k with
  | .inl _ => true
  | .inr _ => false
def hashT (ks : List Key) : Int := reduceHash (Builtin.Tuple.tupleHashOf (ks.map keyI))
def Apart (kvs : List (List Key × D)) : Prop := (∀ p ∈ kvs, intKeys p.1 = true) ∧ (kvs.map fun p => hashT p.1).Nodup
theorem hashT_eq {P : Program} {w : World} {ks : List Key} (h : intKeys ks = true) : (tupleKind (mixKind P w)).hash ks = hashT ks := by
  show reduceHash (Builtin.Tuple.tupleHashOf (ks.map (mixKind P w).hash)) = _
  unfold hashT
  congr 2
  apply List.map_congr_left
  intro k hk
  have := List.all_eq_true.mp h k hk
  cases k with
  | inl i => rfl
  | inr z => cases this
section
variable {T : List (Addr × Str)} {X : Cx} {K : PySem.W.Frag} {τ : TD} {H : Hp} {pins : List (Addr × Obj)} {σ : L2.St} {s : Shared} {a : Addr} {A : Around} {E : Value → Shared → Prop}
theorem KT.keys {H : Hp} : ∀ {kvs : List (List Key × V)} {xs : List (List Key × Addr × Value)}, KT H kvs xs → xs.map (·.1) = kvs.map (·.1) ∧ ∀ x ∈ xs, H x.2.1 = some (.tup (x.1.map kV))
  | _, _, .nil => ⟨rfl, fun x hx => by cases hx⟩
  | _, _, .cons h t => by
    obtain ⟨i1, i2⟩ := KT.keys t
    refine ⟨by rw [List.map_cons, List.map_cons, i1, h.1], fun x hx => ?_⟩
    rcases List.mem_cons.mp hx with rfl | hx
    · rw [← h.1]; exact h.2.1
    · exact i2 x hx
theorem d_copyOfT {kvs : List (List Key × V)} {Q : Value → Shared → Prop} (I : Inv X pins σ H s) (hu : A.units + 2 < cLine) (e : Rd H a (.dT kvs)) (hk : ∀ p ∈ kvs, intKeys p.1 = true) (hn : (kvs.map fun p => hashT p.1).Nodup)
    (h : ∀ p s', H p = none → Inv X pins σ (upd H p (.dT kvs)) s' → Q (.ref p) s') : wpAny (model X.prog X.w) A (call (.type "dict") [.ref a]) Q E s := by
  obtain ⟨z, hd, xs, rel, dd⟩ := dt_rd I.hok e
  obtain ⟨k1, k2⟩ := KT.keys rel
  have is_ : ∀ h' : Heap, (∀ b o, s.heap.get? b = some o → h'.get? b = some o) → ∀ x ∈ xs, (tupleKind (mixKind X.prog X.w)).is h' x.1 x.2.1 := fun h' keep x hx => by
    obtain ⟨o, its, n, g1, g2, g3, g4⟩ := (show IsTupleKey (mixKind X.prog X.w) s.heap x.1 x.2.1 from key_of I.hok (k2 x hx))
    exact ⟨o, its, n, keep _ _ g1, g2, g3, g4⟩
  refine call_dictH (knd := tupleKind (mixKind X.prog X.w)) (fun B hB => Nat.lt_of_le_of_lt hB hu) hd dd (by rw [← rel.length]; exact z) (fun x hx => ?_) ?_ is_ fun h' dd' hs => ?_
  · obtain ⟨o, its, n, g1, g2, g3, g4⟩ := (show IsTupleKey (mixKind X.prog X.w) s.heap x.1 x.2.1 from key_of I.hok (k2 x hx))
    exact ⟨o, g1, g2⟩
  · have : (xs.map fun x => (tupleKind (mixKind X.prog X.w)).hash x.1) = kvs.map fun p => hashT p.1 := by
      have e1 : (xs.map fun x => (tupleKind (mixKind X.prog X.w)).hash x.1) = (xs.map (·.1)).map (tupleKind (mixKind X.prog X.w)).hash := by rw [List.map_map]; rfl
      rw [e1, k1, List.map_map]
      apply List.map_congr_left
      intro p hp
      exact hashT_eq (hk p hp)
    rw [this]; exact hn
  · have fr := I.hok.fresh (Nat.le_refl s.heap.objs.size)
    refine h _ _ fr (I.laid (a := s.heap.objs.size) (o := .dT kvs) (t' := s.toks) (fun b q hq => ?_) (Nat.le_refl _) ?_)
    · exact (hs.2 b (Nat.ne_of_lt (Heap.lt_size hq))).trans (Heap.get?_push_of_some _ hq)
    · obtain ⟨oo, es, ep, h1, h2, h3, h4, h5, h6⟩ := dd'
      have rel' : KT (upd H s.heap.objs.size (.dT kvs)) kvs xs := paired_map rel fun p q z => ⟨z.1, by rw [upd_ne (fun e => by have := z.2.1; rw [e, fr] at this; cases this)]; exact z.2.1, z.2.2⟩
      exact ⟨z, beq_eq_false_iff_ne.mpr (Ne.symm (Nat.ne_of_lt I.big)), xs, rel', oo, es, ep, h1, h2, h3, h4, h6⟩
def ρCopyT : DC := fun τ xs k => match xs with
  | [.ref a] => onSome (dtAt τ a) fun kvs => Apart kvs ∧ ∀ p, τ p = none → k (tset τ p (.dT kvs)) (.ref p)
  | _ => False
theorem ρCopyT_ref {a : Addr} {k : DK} : ρCopyT τ [.ref a] k = onSome (dtAt τ a) fun kvs => Apart kvs ∧ ∀ p, τ p = none → k (tset τ p (.dT kvs)) (.ref p) := rfl
def rCopyT : List V → Hp → VK → Prop := fun xs H Q => ∃ a kv, xs = [.ref a] ∧ Rd H a (.dT kv) ∧ ((∀ p ∈ kv, intKeys p.1 = true) ∧ (kv.map fun p => hashT p.1).Nodup) ∧ ∀ p, H p = none → Q (.ref p) (upd H p (.dT kv))
theorem cr_copyT (hu : X.A.units + 64 < cLine) : CallR X (.type "dict") rCopyT := by
  intro pins s σ H xs us Q I rr h
  obtain ⟨a, kv, rfl, hr, ⟨h1, h2⟩, q⟩ := h
  cases rr with
  | cons r0 rt =>
    cases rt
    cases r0
    exact d_copyOfT I (by omega) hr h1 h2 fun p s' hp I' => ⟨.ref p, _, I', rfl, q p hp⟩
theorem PrD.fst {κ : Type} {kvs : List (κ × D)} {kv : List (κ × V)} (h : PrD K τ H kvs kv) : kv.map (·.1) = kvs.map (·.1) := by
  induction h with
  | nil => rfl
  | cons h t ih => rw [List.map_cons, List.map_cons, ih, h.1]
theorem ok_copyT {K : PySem.W.Frag} : RCok K T rCopyT ρCopyT := by
  intro τ H xs vs k Q j rr h q
  match xs, h, rr with
  | [.ref a], h, rr =>
    obtain ⟨v, w, rfl, r1, r2⟩ := rr
    have r2 : w = [] := r2
    subst r2
    obtain ⟨kvs, h1, ⟨ap1, ap2⟩, h⟩ := onSome_ok h
    obtain ⟨kv, rd, pr⟩ := dt_read j h1
    have ef := PrD.fst pr
    refine ⟨a, kv, by rw [show v = .ref a from r1], rd, ⟨fun p hp => ?_, ?_⟩, fun p hp => ?_⟩
    · have : p.1 ∈ kvs.map (·.1) := by rw [← ef]; exact List.mem_map_of_mem hp
      obtain ⟨q, hq, e⟩ := List.mem_map.mp this
      rw [← e]; exact ap1 q hq
    · have e1 : (kv.map fun p => hashT p.1) = (kv.map (·.1)).map hashT := by rw [List.map_map]; rfl
      have e2 : (kvs.map fun p => hashT p.1) = (kvs.map (·.1)).map hashT := by rw [List.map_map]; rfl
      rw [e1, ef, ← e2]; exact ap2
    · have en : Ext τ H (tset τ p (.dT kvs)) (upd H p (.dT kv)) := .newM hp
      exact q _ _ _ (.ref p) en (j.newM (u := .dT kvs) hp ⟨kv, upd_same, pr.ext en⟩) rfl (h p (j.free hp))
end
end DL

set_option Elab.async false
set_option linter.all false
set_option maxRecDepth 100000
set_option maxHeartbeats 1000000
/-! The data layer, 28: x in y for any data in a list or a tuple. -/
namespace DL
open PySem PySem.Spec PyProof.Rows L2 DX
section
variable {T : List (Addr × Str)} {X : Cx} {K : PySem.W.Frag} {τ : TD} {H : Hp} {k : DK}
def rInX (K : PySem.W.Frag) (neg : Bool) : R2 := fun x y H Q => ∃ d ds, Dp K H x d ∧ (Dp K H y (.list ds) ∨ Dp K H y (.tuple ds)) ∧ SeqAt.shaped d = true ∧ SeqAt.shaped (.list ds) = true ∧ Q (.bl (neg ^^ ds.any fun z => PyData.eqv z d)) H
theorem op_inX (hu : X.A.units + 65 < cLine) : OpR X (compareOp .In) (rInX X.K false) := by
  intro pins s σ H x y v u Q I rx ry h
  obtain ⟨d, ds, hd, he, sd, se, q⟩ := h
  obtain ⟨as, r1⟩ := Dp.reads I d x v hd rx
  rcases he with he | he
  · obtain ⟨bs, r2⟩ := Dp.reads I (.list ds) y u he ry
    exact SeqAt.in_list_reads r2 r1 (SeqAt.canLay_of_shaped se) (SeqAt.canLay_of_shaped sd) (room_in_shaped sd hu) ⟨.bl _, H, I, rfl, by simpa using q⟩
  · obtain ⟨bs, r2⟩ := Dp.reads I (.tuple ds) y u he ry
    exact SeqAt.in_tuple_reads r2 r1 (SeqAt.canLay_of_shaped se) (SeqAt.canLay_of_shaped sd) (room_in_shaped sd hu) ⟨.bl _, H, I, rfl, by simpa using q⟩
theorem op_ninX (hu : X.A.units + 65 < cLine) : OpR X (compareOp .NotIn) (rInX X.K true) := by
  intro pins s σ H x y v u Q I rx ry h
  obtain ⟨d, ds, hd, he, sd, se, q⟩ := h
  obtain ⟨as, r1⟩ := Dp.reads I d x v hd rx
  rcases he with he | he
  · obtain ⟨bs, r2⟩ := Dp.reads I (.list ds) y u he ry
    exact SeqAt.notIn_list_reads r2 r1 (SeqAt.canLay_of_shaped se) (SeqAt.canLay_of_shaped sd) (room_in_shaped sd hu) ⟨.bl _, H, I, rfl, by simpa using q⟩
  · obtain ⟨bs, r2⟩ := Dp.reads I (.tuple ds) y u he ry
    exact SeqAt.notIn_tuple_reads r2 r1 (SeqAt.canLay_of_shaped se) (SeqAt.canLay_of_shaped sd) (room_in_shaped sd hu) ⟨.bl _, H, I, rfl, by simpa using q⟩
/-- the items of a list, a tuple, a mutable list -/
def itsD (τ : TD) (y : D) : Option (List D) := match resD τ y with
  | .lst ys => some ys
  | .tup ys => some ys
  | _ => none
def ρInX (neg : Bool) : D2 := fun τ x y k => onSome (itsD τ y) fun ys => shB 64 (resD τ x) = true ∧ shBs 63 ys = true ∧ k τ (.bl (neg ^^ ys.any fun z => eqD z (resD τ x)))
theorem any_eqv : ∀ (ys : List D) (ps : List PyData) (x : D) (p : PyData), pyAll ys = some ps → pyOf x = some p → (ps.any fun z => PyData.eqv z p) = ys.any fun z => eqD z x
  | [], _, x, p, h, _ => by
    rw [pyAll_nil] at h
    cases h
    rfl
  | y :: ys, ps, x, p, h, hx => by
    rw [pyAll_cons] at h
    split at h
    · rename_i q qs e1 e2
      cases h
      rw [List.any_cons, List.any_cons, any_eqv ys qs x p e2 hx, eqv_eq y x q p e1 hx]
    · cases h
theorem ok_inX {K : PySem.W.Frag} {neg : Bool} : R2ok K T (rInX K neg) (ρInX neg) := by
  intro τ H x y vx vy k Q j hx hy h q
  obtain ⟨ys, h1, h2, h3, hk⟩ := onSome_ok h
  obtain ⟨p, e1, e2⟩ := sh_iff.mp h2
  have hl : shB 64 (.lst ys) = true := by rw [shB_l]; exact h3
  obtain ⟨pl, e3, e4⟩ := sh_iff.mp hl
  rw [pyOf_lst] at e3
  cases z : pyAll ys with
  | none => rw [z] at e3; cases e3
  | some ps =>
    rw [z] at e3
    cases e3
    refine ⟨p, ps, resD_ok j hx e1, ?_, e2, e4, ?_⟩
    · unfold itsD at h1
      split at h1
      · rename_i ys' e
        cases h1
        exact .inl (resD_ok j hy (by rw [e, pyOf_lst, z]; rfl))
      · rename_i ys' e
        cases h1
        exact .inr (resD_ok j hy (by rw [e, pyOf_tup, z]; rfl))
      · cases h1
    · rw [any_eqv ys ps (resD τ x) p z e1]
      exact q _ τ H (.bl _) (.refl _ _) j rfl hk
theorem ρInX_eq {neg : Bool} {x y : D} : ρInX neg τ x y k = onSome (itsD τ y) fun ys => shB 64 (resD τ x) = true ∧ shBs 63 ys = true ∧ k τ (.bl (neg ^^ ys.any fun z => eqD z (resD τ x))) := rfl
theorem itsD_tup {ys : List D} : itsD τ (.tup ys) = some ys := rfl
theorem itsD_lst {ys : List D} : itsD τ (.lst ys) = some ys := rfl
theorem itsD_ref {a : Addr} : itsD τ (.ref a) = lstAt τ a := by
  cases h : τ a with
  | none => simp [itsD, resD, lstAt, h]
  | some o => cases o <;> simp [itsD, resD, lstAt, h]
/-- some item is equal: by an injective form -/
theorem any_mem {α : Type} [DecidableEq α] {g : α → D} (h : ∀ a b, eqD (g a) (g b) = decide (a = b)) (l : List α) (x : α) : ((l.map g).any fun z => eqD z (g x)) = decide (x ∈ l) := by
  induction l with
  | nil => simp
  | cons a l ih =>
    rw [List.map_cons, List.any_cons, ih, h]
    by_cases c1 : x ∈ l <;> by_cases c2 : a = x <;> simp [c1, c2]
    exact fun z => c2 z.symm
end
end DL

set_option Elab.async false
set_option linter.all false
set_option maxRecDepth 100000
set_option maxHeartbeats 1000000
/-! The data layer, 29: stars in displays; sorted(d) of int keys; l.remove(x) of any data; isinstance of a caught own error. -/
namespace DL
open PySem PySem.Spec PyProof.Rows L2 DX
section
variable {T : List (Addr × Str)} {X : Cx} {E : XK} {KE : XD} {K : PySem.W.Frag} {τ : TD} {H : Hp} {e : Expr} {es : List Expr} {p : Pos} {δ : DE} {δs : DA} {k : DK}
/-! ### stars -/
def dStar (δ : DE) (δs : DA) : DA := fun τ ds k => δ τ ds fun τ1 x => onSome (seqAt τ1 x) fun ys => δs τ1 ds fun τ2 zs => k τ2 (ys ++ zs)
theorem seqAt_sq (j : J K T τ H) {x : D} {v : V} {ys : List D} (r : DR K τ H x v) (h : seqAt τ x = some ys) : ∃ a vs, v = .ref a ∧ (SqT K H a vs ∨ SqL K H a vs) ∧ DRs K τ H ys vs := by
  cases x with
  | tup xs =>
    obtain ⟨a, vs, e, t, rr⟩ := r
    have : xs = ys := by simpa [seqAt] using h
    subst this
    exact ⟨a, vs, e, .inl t.sq, rr⟩
  | lst xs =>
    obtain ⟨a, vs, e, t, rr⟩ := r
    have : xs = ys := by simpa [seqAt] using h
    subst this
    exact ⟨a, vs, e, .inr t.sq, rr⟩
  | ref a =>
    rw [seqAt_ref] at h
    obtain ⟨b, vs, e, sq, rr⟩ := lstOf_ok (x := .ref a) (xs := ys) j r (by rw [← h]; unfold lstOf lstAt; rfl)
    exact ⟨b, vs, e, .inr sq, rr⟩
  | _ => cases h
theorem pda_star (he : PD T X E KE e δ) (hr : PDA T X E KE es δs) (hs : starEach (.Starred e p :: es) X.env = (true, eval e X.env) :: starEach es X.env := by rfl) : PDA T X E KE (.Starred e p :: es) (dStar δ δs) := by
  obtain ⟨te, h1, s1⟩ := he.ex
  obtain ⟨ts, h2, s2⟩ := hr.ex
  refine ⟨_, StX.pa_star h1 h2 hs, fun σ H τ ds k Q j s h xo q => s1 σ H τ ds _ _ j s h xo fun v τ1 H1 x e1 j1 r1 k1 => ?_⟩
  obtain ⟨ys, h3, k1⟩ := onSome_ok k1
  obtain ⟨a, vs, ev, sq, rr⟩ := seqAt_sq j1 r1 h3
  exact ⟨a, vs, ev, sq, s2 σ H1 τ1 ds _ _ j1 (s.ext e1) k1 (xo.ext e1) fun ws τ2 H2 zs e2 j2 r2 k2 => q _ τ2 H2 _ (e1.trans e2) j2 ((rr.ext e2).append r2) k2⟩
/-! ### sorted(d) -/
def intKs (kvs : List (Key × D)) : Option (List Int) := kvs.mapM fun p => match p.1 with
  | .inl i => some i
  | .inr _ => none
def rSortKI : List V → Hp → VK → Prop := fun xs H Q => ∃ (a : Addr) (kvs : List (Key × V)) (ks : List Int), xs = [.ref a] ∧ Rd H a (.dK kvs) ∧ kvs.map (·.1) = ks.map Sum.inl ∧ ks.length < 64 ∧
    ∀ (ys : List Int) (p : Addr), ys.Perm ks → ys.Pairwise (· ≤ ·) → H p = none → Q (.ref p) (upd H p (.lst (ys.map V.int)))
def ρSortKI : DC := fun τ xs k => match xs with
  | [.ref a] => onSome (dkAt τ a) fun kvs => ∃ ks : List Int, kvs.map (·.1) = ks.map Sum.inl ∧ ks.length < 64 ∧ k τ (.lst ((ks.mergeSort leI).map D.int))
  | _ => False
theorem ρSortKI_ref {a : Addr} : ρSortKI τ [.ref a] k = onSome (dkAt τ a) fun kvs => ∃ ks : List Int, kvs.map (·.1) = ks.map Sum.inl ∧ ks.length < 64 ∧ k τ (.lst ((ks.mergeSort leI).map D.int)) := rfl
theorem cr_sortKI (hc : X.calm = true) : CallR X (.builtin "sorted") rSortKI := call_sortedDI hc
theorem drs_ints' (l : List Int) : DRs K τ H (l.map D.int) (l.map V.int) := drs_ints (fun i => i) l
theorem ok_sortKI {K : PySem.W.Frag} : RCok K T rSortKI ρSortKI := by
  intro τ H xs vs k Q j rr h q
  match xs, h, rr with
  | [.ref a], h, rr =>
    obtain ⟨v, w, rfl, r1, r2⟩ := rr
    have r2 : w = [] := r2
    subst r2
    obtain ⟨kvs, h1, ks, hk, hl, h⟩ := onSome_ok h
    obtain ⟨kv, rd, pr⟩ := dk_read j h1
    refine ⟨a, kv, ks, by rw [show v = .ref a from r1], rd, by rw [PrD.fst pr]; exact hk, hl, fun ys p hp hs hf => ?_⟩
    have : ys = ks.mergeSort leI := sorted_eq leI_anti (hp.trans (List.mergeSort_perm ks leI).symm) (hs.imp fun h => decide_eq_true h) (List.pairwise_mergeSort leI_trans leI_total ks)
    subst this
    exact q (.ref p) τ _ (.lst _) (.new hf) (j.new hf) ⟨p, _, rfl, .inl ⟨.of upd_same, j.free hf⟩, drs_ints' _⟩ h
/-! ### l.remove(x) -/
def rRemX (K : PySem.W.Frag) : V → List V → Hp → VK → Prop := fun x xs H Q => ∃ (l : Addr) (vs : List V) (y : V) (ds : List PyData) (d : PyData) (j : Nat), x = .ref l ∧ xs = [y] ∧ H l = some (.lst vs) ∧ DpAll K H vs ds ∧ Dp K H y d ∧ PyData.canLayAll0 ds = true ∧ SeqAt.shaped d = true ∧ SeqAt.dataPlace ds d = some j ∧ Q .non (upd H l (.lst (vs.eraseIdx j)))
theorem plainAll_of : ∀ ds : List PyData, PyData.canLayAll0 ds = true → PyData.plainAll ds = true
  | [], _ => rfl
  | d :: ds, h => by
    simp only [PyData.canLayAll0, Bool.and_eq_true] at h
    simp only [PyData.plainAll, PyData.plain_of_canLay0 d h.1, plainAll_of ds h.2, Bool.and_self]
theorem mt_removeX (hu : X.A.units + 65 < cLine) : MtM X "list.remove" (rRemX X.K) := by
  intro pins s σ H x xs v us Q I rx rxs h
  obtain ⟨l, vs, y, ds, d, j, rfl, rfl, hH, hds, hd, c1, c2, hp, q⟩ := h
  cases rx
  obtain ⟨u, rfl, ru⟩ := rxs.one
  obtain ⟨z, its, n, r, hl, e⟩ := I.lstM hH
  obtain ⟨as, rs⟩ := Dp.readsAll I _ _ _ hds r
  obtain ⟨bs, rd⟩ := Dp.reads I _ _ _ hd ru
  refine SeqAt.remove_list_data (vs := its.toArray) ⟨_, e, rfl, n, rfl⟩ (by simpa using rs) rd (plainAll_of _ c1) (PyData.plain_of_canLay0 _ (SeqAt.canLay_of_shaped c2)) (room_in_shaped c2 hu) hp (by rw [List.size_toArray]; omega) ?_
  refine ⟨.non, _, I.lset (its' := its.eraseIdx j) (t' := s.toks) hH e ?_ (r.eraseIdx j) ?_, rfl, q⟩
  · show its.toArray.eraseIdxIfInBounds j = (its.eraseIdx j).toArray
    rw [List.eraseIdxIfInBounds_toArray]
  · have := List.length_eraseIdx_le vs j
    omega
def ρRemX : DM := fun τ x xs k => match x, xs with
  | .ref p, [y] => onSome (lstAt τ p) fun ys => shBs 63 ys = true ∧ shB 64 y = true ∧ onSome (ys.findIdx? fun z => eqD z y) fun j => k (tset τ p (.lst (ys.eraseIdx j))) .non
  | _, _ => False
theorem ρRemX_ref {a : Addr} {y : D} : ρRemX τ (.ref a) [y] k = onSome (lstAt τ a) fun ys => shBs 63 ys = true ∧ shB 64 y = true ∧ onSome (ys.findIdx? fun z => eqD z y) fun j => k (tset τ a (.lst (ys.eraseIdx j))) .non := rfl
theorem find_eqv : ∀ (ys : List D) (ps : List PyData) (x : D) (p : PyData), pyAll ys = some ps → pyOf x = some p → ps.findIdx? (fun z => PyData.eqv z p) = ys.findIdx? fun z => eqD z x
  | [], ps, x, p, h, _ => by
    rw [pyAll_nil] at h
    cases h
    rfl
  | y :: ys, ps, x, p, h, hx => by
    rw [pyAll_cons] at h
    split at h
    · rename_i q qs e1 e2
      cases h
      rw [List.findIdx?_cons, List.findIdx?_cons, find_eqv ys qs x p e2 hx, eqv_eq y x q p e1 hx]
    · cases h
theorem drs_eraseN {ds : List D} {vs : List V} (r : DRs K τ H ds vs) (n : Nat) : DRs K τ H (ds.eraseIdx n) (vs.eraseIdx n) := drs_erase n r
theorem ok_removeX {K : PySem.W.Frag} : RMok K T (rRemX K) ρRemX := by
  intro τ H x vx xs vs k Q j rx r h q
  match x, xs, h, rx, r with
  | .ref p, [y], h, rx, r =>
    obtain ⟨v, e, r1⟩ := one_of r
    have rx : vx = .ref p := rx
    subst e rx
    obtain ⟨ys, hl, s1, s2, h⟩ := onSome_ok h
    obtain ⟨n, hn, hk⟩ := onSome_ok h
    have ht := lstAt_iff hl
    obtain ⟨vs, hv, rv⟩ := j.obj p _ ht
    obtain ⟨d, e1, e2⟩ := sh_iff.mp s2
    obtain ⟨ps, e3, e4, e5⟩ := (shBs_iff ys 63).mp s1
    have ec : Ext τ H (tset τ p (.lst (ys.eraseIdx n))) (upd H p (.lst (vs.eraseIdx n))) := .chg ht
    refine ⟨p, vs, v, ps, d, n, rfl, rfl, hv, pyAll_ok _ _ _ rv e3, pyOf_ok _ _ _ r1 e1, e4, e2, ?_, ?_⟩
    · unfold SeqAt.dataPlace
      rw [find_eqv ys ps y d e3 e1]
      exact hn
    · exact q _ _ _ .non ec (j.chg (u0 := .lst ys) ht ⟨_, upd_same, (drs_eraseN rv n).ext ec⟩) rfl hk
end
end DL

set_option Elab.async false
set_option linter.all false
set_option maxRecDepth 100000
set_option maxHeartbeats 1000000
/-! The data layer, 30: isinstance of a caught own error that has fields. -/
namespace DL
open PySem PySem.Spec PyProof.Rows L2 DX
section
variable {X : Cx} {K : PySem.W.Frag}
structure ExcI (K : PySem.W.Frag) (D : Addr) : Prop where
  cl : (PySem.W.clsIn K D).isSome = true
  ga : PySem.W.findIn K (.ref D) "__getattribute__" = some (some (.builtin "BaseException.__getattribute__"))
  gt : PySem.W.findIn K (.ref D) "__getattr__" = some none
  su : PySem.W.subIn K (.ref D) (.type "BaseException") = some true
  ca : PySem.W.findIn K (.ref D) "__class__" = some (some (.builtin "object.__class__"))
  sp : PySem.W.specialIn K (.builtin "object.__class__") "__get__" = some (some (.builtin "getset_descriptor.__get__"))
  tk : PySem.W.takesIn K (.builtin "object.__class__") = some true
  mr : PySem.W.mroIn K D (.type "object") = some true
def excIB (K : PySem.W.Frag) (x : Str) : Bool :=
  (PySem.W.clsIn K (He.ga K x)).isSome && (He.eqO (PySem.W.findIn K (.ref (He.ga K x)) "__getattribute__") (some (some (.builtin "BaseException.__getattribute__"))) && (He.eqO (PySem.W.findIn K (.ref (He.ga K x)) "__getattr__") (some none) && (decide (PySem.W.subIn K (.ref (He.ga K x)) (.type "BaseException") = some true) &&
    (He.eqO (PySem.W.findIn K (.ref (He.ga K x)) "__class__") (some (some (.builtin "object.__class__"))) && (He.eqO (PySem.W.specialIn K (.builtin "object.__class__") "__get__") (some (some (.builtin "getset_descriptor.__get__"))) && (decide (PySem.W.takesIn K (.builtin "object.__class__") = some true) && decide (PySem.W.mroIn K (He.ga K x) (.type "object") = some true)))))))
theorem excIB_ok {x : Str} (h : excIB K x = true) : ExcI K (He.ga K x) := by
  unfold excIB at h
  simp only [Bool.and_eq_true, decide_eq_true_eq] at h
  exact ⟨h.1, He.eqO_ok h.2.1, He.eqO_ok h.2.2.1, h.2.2.2.1, He.eqO_ok h.2.2.2.2.1, He.eqO_ok h.2.2.2.2.2.1, h.2.2.2.2.2.2.1, h.2.2.2.2.2.2.2⟩
/-- isinstance(e, c), e the caught one -/
def rIsEC (K : PySem.W.Frag) (D a : Addr) (cls : Value) (d : Option Addr) : List V → Hp → VK → Prop := fun xs H Q => cls = .ref D ∧ ∃ (dd : Addr) (c : V) (cv : Value) (b : Bool) (fs : List (Str × V)), d = some dd ∧ xs = [.ref a, c] ∧ H dd = some (.xd fs) ∧ (∀ u, RelV c u → u = cv) ∧ PySem.W.kitOne K (.ref D) cv = some b ∧ Q (.bl b) H
theorem call_isEC {a D : Addr} {oe : Obj} {cls : Value} {d : Option Addr} {pn : List (Addr × Obj)} (C : ExcI X.K D) (hz : Zc cls d oe) (hf : ∃ vs, oe.data = .fields vs) : CallR (X.suite a ((a, oe) :: pn)) (.builtin "isinstance") (rIsEC X.K D a cls d) := by
  intro pins s σ H xs us Q I r h
  obtain ⟨rfl, dd, c, cv, b, fs, rfl, rfl, hH, hcv, e, q⟩ := h
  cases r with
  | cons rx rr =>
    cases rr with
    | cons rt rr =>
      cases rr
      cases rx
      have ec := hcv _ rt
      subst ec
      have hp := (I.pin (a, oe) (List.mem_append_left _ List.mem_cons_self)).1
      have hx : ObjOk X.prog X.w H s.heap dd (.xd fs) := I.hok dd _ hH
      obtain ⟨mA, hns, _⟩ := hx
      obtain ⟨od, ho, _⟩ := lookIn_ns hns
      obtain ⟨vs, hv⟩ := hf
      have J : PySem.W.InstAt s.heap a oe D (some od) := by
        obtain ⟨oc, oi, oda, osl⟩ := oe
        obtain ⟨h1, h2⟩ := hz
        dsimp only at h1 h2 hv
        subst h1 h2 hv
        exact ⟨hp, rfl, rfl, ho⟩
      exact PySem.W.kia_one (PySem.W.kitx_exc C.cl C.ga C.gt C.su C.ca C.sp C.tk C.mr) I.kIn J e (fun z => nomatch z) fun tk => ⟨.bl b, H, I.kept (t' := tk) fun _ _ z => z, rfl, q⟩
theorem met_givesI {Ng : List Str} {x a e q pre n fld alt e1 e2 e3 : Str} {sg : Scope} {g CS R1 R3 : Addr} {cdg : Value} {j j2 i : Nat} {p1 p2 p3 p4 p5 p6 p7 p8 p9 p10 p11 q1 q2 q3 q4 q5 q6 q7 r1 r2 r3 s1 s2 s3 t1 t2 t3 : Pos} (hNg : Ng.Nodup) (hin : Ng[i]? = some n) (hnl : sg.names.lookup n = some .local) (T : XfC X.K CS) (hno : PySem.W.findIn X.K (.ref CS) fld = some none)
    (hge : sg.names.lookup e = some .globalImplicit) (hme : X.mg e = some (.ref CS)) (hde : (e == ("__debug__" : Str)) = false) (hdn : (n == ("__debug__" : Str)) = false) (hdc : (n == ("__classdict__" : Str)) = false) (h0 : ∀ f : Addr, (L2.start Ng [V.ref f])[0]? = some (some (V.ref f)))
    (CI : ExcI X.K CS) (hgi : sg.names.lookup ("isinstance" : Str) = some .globalImplicit) (hmi : X.mg "isinstance" = none)
    (hg1 : sg.names.lookup e1 = some .globalImplicit) (hm1 : X.mg e1 = some (.ref R1)) (k1 : PySem.W.kitOne X.K (.ref CS) (.ref R1) = some true) (d1 : (e1 == ("__debug__" : Str)) = false)
    (hg2 : sg.names.lookup e2 = some .globalImplicit) (hm2 : X.mg e2 = none) (hb2 : bootBuiltins e2 = some (.type "ValueError")) (hn2 : e2 ≠ "__name__") (k2 : PySem.W.kitOne X.K (.ref CS) (.type "ValueError") = some true) (d2 : (e2 == ("__debug__" : Str)) = false)
    (hg3 : sg.names.lookup e3 = some .globalImplicit) (hm3 : X.mg e3 = some (.ref R3)) (k3 : PySem.W.kitOne X.K (.ref CS) (.ref R3) = some false) (d3 : (e3 == ("__debug__" : Str)) = false) :
    LamX.GivesTo X Ng x sg g cdg [.Try [.Return (some (.Call (.Name a p1) [] [] p2)) p3] [.ExceptHandler (some (.Name e p4)) (some n) [.Return (some (.IfExp (.BoolOp .And [.Call (.Name "isinstance" r1) [.Name n s1, .Name e1 t1] [] q1, .Call (.Name "isinstance" r2) [.Name n s2, .Name e2 t2] [] q2, .UnaryOp .Not (.Call (.Name "isinstance" r3) [.Name n s3, .Name e3 t3] [] q3) q4] q5) (.BinOp (.Constant (.str pre) j p10) .Add (.Attribute (.Name n p5) fld p6) p11) (.Constant (.str alt) j2 q6) q7)) p7] p8] [] [] p9] a q (TTm X.K CS fld pre) := by
  intro f c' s H Q tl act hc h
  have gl : ∀ y : Str, sg.names.lookup y = some .globalImplicit → Gl (cxOf C8.CX0 X.prog X.w X.K X.mg X.base Ng x sg g cdg X.A X.stack s H C8.E0).nox y := fun y hy => hy
  have hkn : (cxOf C8.CX0 X.prog X.w X.K X.mg X.base Ng x sg g cdg X.A X.stack s H C8.E0).nox.env.kindOf n = some .local := by
    show sg.names.lookup n = some .local
    exact hnl
  have hil : i < Ng.length := (List.getElem?_eq_some_iff.mp hin).1
  refine ⟨_, pss_one (ps_try_as (X := (cxOf C8.CX0 X.prog X.w X.K X.mg X.base Ng x sg g cdg X.A X.stack s H C8.E0).nox) (c := .ref CS) (i := i)
      (tb := fun W D σ H => ∃ Ech : XK, (∀ cls d σ' H', Ech cls d H' → σ'.length = Ng.length → W cls d σ' H') ∧ σ[0]? = some (some (.ref f)) ∧ H c' = some (LamX.CodeO c' q) ∧ tl Ech H fun v H' => D.rt v H')
      rfl rfl hNg hin hkn ⟨gl e hge, hde, .inl hme⟩ LamX.takes0 (fun W pn xe tk _ => ?_) (fun a oe cls d pn hz hv => pss_one (ps_ret (pe_ifExp (PW.pt (pw_and (pt_val (pe_callB (call_isEC CI hz hv) (gl _ hgi) hmi boot_isinstance (pa_cons (pe_var (i := i) hin (.inl hnl) hdn hdc) (pa_cons (pe_glob (gl _ hg1) hm1 (v := .ref R1) rfl d1) pa_nil)))) (pw_and (pt_val (pe_callB (call_isEC CI hz hv) (gl _ hgi) hmi boot_isinstance (pa_cons (pe_var (i := i) hin (.inl hnl) hdn hdc) (pa_cons (pe_bltn (gl _ hg2) hm2 hb2 (v := .ty "ValueError") rfl hn2 d2) pa_nil)))) (pw_and1 (pt_not (pt_val (pe_callB (call_isEC CI hz hv) (gl _ hgi) hmi boot_isinstance (pa_cons (pe_var (i := i) hin (.inl hnl) hdn hdc) (pa_cons (pe_glob (gl _ hg3) hm3 (v := .ref R3) rfl d3) pa_nil))))))))) (pe_op (r := rAddU X.K) (show OpR _ (binaryOp Operator.Add) (rAddU X.K) from op_addU) pe_str (pe_xf T hno hz hv (pe_var (i := i) hin (.inl hnl) hdn hdc))) pe_str)))), ?_⟩
  · refine ⟨fun pins s' σ H' D I h' => ?_⟩
    obtain ⟨Ech, hW, h1, h2, h3⟩ := h'
    have hp := act (fun cls d σ H => σ.length = Ng.length → W cls d σ H) pn xe Ech p1 p2 (takes_len tk) hW
    have hq := pss_one (ps_ret (pos := p3) hp)
    exact hq.run pins s' σ H' D I ⟨h1, h2, h3⟩
  · refine ⟨_, fun cls d σ' H' hE hl => ⟨true, hE.1, fun _ b _ => ?_, fun hb => by cases hb⟩, h0 f, hc, h⟩
    obtain ⟨_, hcl, dd, fs, z, hd, hH, hlk, hz, hq⟩ := hE
    have sl : ∀ v : V, (σ'.set i (some v))[i]? = some (some v) := fun v => List.getElem?_set_self (by rw [hl]; exact hil)
    refine ⟨.ref b, sl _, hcl, dd, .ref R1, .ref R1, true, fs, hd, rfl, hH, fun u hu => hu, k1, true, rfl, ?_⟩
    refine ite_tt ?_
    refine ⟨.ref b, sl _, hcl, dd, .ty "ValueError", .type "ValueError", true, fs, hd, rfl, hH, fun u hu => hu, k2, true, rfl, ?_⟩
    refine ite_tt ?_
    refine ⟨.ref b, sl _, hcl, dd, .ref R3, .ref R3, false, fs, hd, rfl, hH, fun u hu => hu, k3, false, rfl, ?_⟩
    refine ite_tt ?_
    refine ⟨.ref b, sl _, rfl, hcl, dd, fs, .str z, hd, hH, hlk, ?_⟩
    exact .inr (.inl ⟨pre, z, rfl, rfl, hz, hq⟩)
end
end DL

set_option Elab.async false
set_option linter.all false
set_option maxRecDepth 100000
set_option maxHeartbeats 1000000
/-! The data layer, 31: the order of any data; sorting by the first number of a tuple. -/
namespace DL
open PySem PySem.Spec PyProof.Rows L2 DX
theorem leD_total (x y : D) : (leD x y || leD y x) = true := by
  unfold leD ltD PySem.W.dataLt
  cases h : PyProof.Rows.lexLt itemOrd (PySem.W.keyToks (pyD y)) (PySem.W.keyToks (pyD x)) with
  | false => rfl
  | true =>
    cases g : PyProof.Rows.lexLt itemOrd (PySem.W.keyToks (pyD x)) (PySem.W.keyToks (pyD y)) with
    | false => rfl
    | true =>
      have := lex_trans (O := itemOrd) _ _ _ h g
      rw [lex_irrefl] at this
      cases this
theorem leD_trans (x y z : D) (h : leD x y = true) (g : leD y z = true) : leD x z = true := by
  unfold leD ltD PySem.W.dataLt at *
  simp only [Bool.not_eq_true'] at *
  cases e : PyProof.Rows.lexLt itemOrd (PySem.W.keyToks (pyD z)) (PySem.W.keyToks (pyD x)) with
  | false => rfl
  | true =>
    rcases lex_negTrans (O := itemOrd) _ (PySem.W.keyToks (pyD y)) _ e with k | k
    · rw [g] at k; cases k
    · rw [h] at k; cases k
theorem leD_refl (x : D) : leD x x = true := by
  have := leD_total x x
  simpa using this
theorem sortD_perm (l : List D) : (l.mergeSort leD).Perm l := List.mergeSort_perm l leD
theorem sortD_pw (l : List D) : (l.mergeSort leD).Pairwise (fun a b => leD a b = true) := List.pairwise_mergeSort leD_trans leD_total l
theorem leD_fst {a b : Int} {xs ys : List D} {ps qs : List PyData} (hx : pyAll xs = some ps) (hy : pyAll ys = some qs) (h : leD (.tup (.int a :: xs)) (.tup (.int b :: ys)) = true) : a ≤ b := by
  by_cases c : a ≤ b
  · exact c
  · exfalso
    have e1 : pyOf (.tup (.int a :: xs)) = some (.tuple (.int a :: ps)) := by rw [pyOf_tup, pyAll_cons, pyOf_int, hx]; rfl
    have e2 : pyOf (.tup (.int b :: ys)) = some (.tuple (.int b :: qs)) := by rw [pyOf_tup, pyAll_cons, pyOf_int, hy]; rfl
    unfold leD ltD pyD at h
    rw [e1, e2] at h
    simp only [Option.getD_some] at h
    rw [PySem.W.dataLt_tuple, PySem.W.dataLt_cons (by simp [PySem.W.alike])] at h
    have e3 : PyData.eqv (.int b) (.int a) = false := by simp [PyData.eqv]; omega
    rw [e3, if_neg (by decide), PySem.W.dataLt_int] at h
    simp at h
    omega
theorem key_inj {α : Type} {key : α → Int} : ∀ {l : List α}, (l.map key).Nodup → ∀ a ∈ l, ∀ b ∈ l, key a = key b → a = b
  | [], _, a, ha, _, _, _ => by cases ha
  | x :: l, nd, a, ha, b, hb, e => by
    rw [List.map_cons, List.nodup_cons] at nd
    rcases List.mem_cons.mp ha with ea | ha
    · rcases List.mem_cons.mp hb with eb | hb
      · rw [ea, eb]
      · exact absurd (List.mem_map.mpr ⟨b, hb, by rw [← e, ea]⟩) nd.1
    · rcases List.mem_cons.mp hb with eb | hb
      · exact absurd (List.mem_map.mpr ⟨a, ha, by rw [e, eb]⟩) nd.1
      · exact key_inj nd.2 a ha b hb e
/-- two orders of the same things, of which no two are equal by the key -/
theorem sort_key {α : Type} {g : α → D} {key : α → Int} (hk : ∀ a b, leD (g a) (g b) = true → key a ≤ key b) {l m : List α} (pm : m.Perm l) (pw : m.Pairwise fun a b => key a ≤ key b) (nd : (l.map key).Nodup) : (l.map g).mergeSort leD = m.map g := by
  have e : (l.map g).mergeSort leD = (l.mergeSort fun a b => leD (g a) (g b)).map g := sort_map (le := fun a b => leD (g a) (g b)) (fun _ _ => rfl) l
  rw [e]
  congr 1
  have p1 := List.mergeSort_perm l fun a b => leD (g a) (g b)
  have w1 := List.pairwise_mergeSort (le := fun a b => leD (g a) (g b)) (fun a b c => leD_trans _ _ _) (fun a b => leD_total _ _) l
  have inj := key_inj nd
  refine (p1.trans pm.symm).eq_of_pairwise (le := fun a b => key a ≤ key b) (fun a b ha hb x y => inj a (p1.mem_iff.mp ha) b (pm.mem_iff.mp hb) (by omega)) (w1.imp fun h => hk _ _ h) pw
end DL

set_option Elab.async false
set_option linter.all false
set_option maxRecDepth 100000
set_option maxHeartbeats 1000000
/-! The data layer, 32: for and comprehensions over a mutable list that is the same at each turn. -/
namespace DL
open PySem PySem.Spec PyProof.Rows L2 DX
section
variable {T : List (Addr × Str)} {X : Cx} {E : XK} {KE : XD} {K : PySem.W.Frag} {e tg iter : Expr} {pos : Pos} {δ δi : DE} {γ : DG} {η : DT} {β : DS}
def YCur (K : PySem.W.Frag) (a : Addr) : Nat → Hp → V → Hp → Prop := fun i H x H' => H' = H ∧ ∀ vs, SqL K H a vs → vs[i]? = some x
theorem walk_cur {K : PySem.W.Frag} {a : Addr} {n : Nat} : Walk (Itl K a) n (fun H => ∃ vs, SqL K H a vs ∧ vs.length = n) (YCur K a) := by
  refine ⟨fun i H hi ⟨vs, q, hl⟩ => ⟨vs, vs[i]'(by omega), q, by simp [show i < vs.length by omega]⟩, fun H ⟨vs, q, hl⟩ => ⟨vs, q, by omega⟩, fun i H x H' hi ⟨vs, q, hl⟩ y => ⟨y.1, fun ws r => y.2 ws r⟩⟩
theorem cur_at (j : J K T τ H) {a : Addr} {xs : List D} (h : τ a = some (.lst xs)) : ∃ vs, H a = some (.lst vs) ∧ DRs K τ H xs vs := j.obj a _ h
def dLoopM (a : Addr) (all : List D) (γ : DG) (β : DS) (F : EndsD) : List D → TD → Sl → Prop
  | [] => fun τ ds => τ a = some (.lst all) ∧ F.nx τ ds
  | x :: xs => fun τ ds => τ a = some (.lst all) ∧ γ x τ ds (β { F with nx := dLoopM a all γ β F xs, ct := dLoopM a all γ β F xs, bk := F.nx })
def dForM (δ : DE) (γ : DG) (β : DS) : DS := fun F τ ds => δ τ ds fun τ1 x => onRef x fun a => onSome (lstAt τ1 a) fun xs => dLoopM a xs γ β F xs τ1 ds
theorem loopM_at {a : Addr} {all xs : List D} {F : EndsD} {τ : TD} {ds : Sl} (h : dLoopM a all γ β F xs τ ds) : τ a = some (.lst all) := by cases xs <;> exact h.1
theorem pds_forM {body : List Stmt} (hp : PassesOwn (model X.prog X.w) X.A X.env X.xe) (hc : X.calm = true) (hi : PD T X E KE iter δi) (hg : PDG T X E KE tg γ) (hb : PDSs T X E KE body β)
    (hs : ∀ x, foldedSetIterable iter X.env x = pure x := by intro _; rfl) : PDS T X E KE (.For tg iter body [] pos) (dForM δi γ β) := by
  obtain ⟨ti, p1, s1⟩ := hi.ex
  obtain ⟨g, p2, s2⟩ := hg.ex
  obtain ⟨tb, p3, s3⟩ := hb.ex
  refine ⟨_, ps_for hp hc (pi_seq p1) p2 p3 hs, fun σ H τ ds F D' j s h xo eo => s1 σ H τ ds _ _ j s h xo fun v τ1 H1 x e1 j1 r1 k1 => ?_⟩
  obtain ⟨a, rfl, k1⟩ := onRef_ok k1
  obtain ⟨xs, hl, k1⟩ := onSome_ok k1
  have r1 : v = .ref a := r1
  subst r1
  obtain ⟨vs, hv, rv⟩ := cur_at j1 (lstAt_iff hl)
  refine .inl ⟨a, vs, rfl, .inl (.of hv), ?_⟩
  refine for_it (walk_cur (n := xs.length)) (fun i σ' H' => ∃ τ' ds', Ext τ1 H1 τ' H' ∧ J X.K T τ' H' ∧ SR X.K τ' H' ds' σ' ∧ dLoopM a xs γ β F (xs.drop i) τ' ds')
    ⟨τ1, ds, .refl _ _, j1, s.ext e1, k1⟩ (fun i σ' H' _ ⟨τ', ds', e', j', s', k'⟩ => ?_) ?_ ?_
  · obtain ⟨ws, hw, rw'⟩ := cur_at j' (loopM_at k')
    exact ⟨ws, .inl (.of hw), rw'.length⟩
  · rintro i x σ' H' H'' hi ⟨τ', ds', e', j', s', k'⟩ y
    obtain ⟨ws, hw, rw'⟩ := cur_at j' (loopM_at k')
    obtain ⟨rfl, hy⟩ := y
    obtain ⟨d, hd, r2⟩ := rw'.getV (hy ws (.inl (.of hw)))
    have ed : xs.drop i = d :: xs.drop (i + 1) := by
      obtain ⟨hl, hx⟩ := List.getElem?_eq_some_iff.mp hd
      rw [← hx]; exact List.drop_eq_getElem_cons hl
    rw [ed] at k'
    refine s2 x σ' H'' τ' ds' d _ _ j' s' r2 k'.2 (xo.ext (e1.trans e')) fun σ3 H3 τ3 ds3 e3 j3 s3' k3 => ?_
    have ee : Ext τ1 H1 τ3 H3 := e'.trans e3
    refine s3 σ3 H3 τ3 ds3 _ _ j3 s3' k3 (xo.ext (e1.trans ee)) ⟨fun τ4 H4 ds4 σ4 e4 j4 s4 k4 => ⟨τ4, ds4, ee.trans e4, j4, s4, k4⟩, fun τ4 H4 ds4 σ4 e4 j4 s4 k4 => ?_, fun τ4 H4 ds4 σ4 e4 j4 s4 k4 => ⟨τ4, ds4, ee.trans e4, j4, s4, k4⟩, fun τ4 H4 d4 v4 e4 j4 r4 k4 => ?_⟩
    · exact eo.nx τ4 H4 ds4 σ4 ((e1.trans ee).trans e4) j4 s4 k4
    · exact eo.rt τ4 H4 d4 v4 ((e1.trans ee).trans e4) j4 r4 k4
  · rintro σ' H' ⟨τ', ds', e', j', s', k'⟩
    rw [List.drop_length] at k'
    exact eo.nx τ' H' ds' σ' (e1.trans e') j' s' k'.2
/-! ### comprehensions -/
def dLcLM (a : Addr) (all : List D) (γ : DG) (η : DT) (δ : DE) (ws : List Nat) (ds : Sl) (L : Addr) (k : TD → List D → Prop) : List D → List D → TD → Prop
  | [], acc, τ => τ a = some (.lst all) ∧ τ L = some (.lst acc) ∧ k τ acc
  | x :: xs, acc, τ => τ a = some (.lst all) ∧ γ x τ (wipeD ds ws) fun τ1 ds1 => η τ1 ds1 fun τ2 b => if b = true then δ τ2 ds1 fun τ3 d => τ3 L = some (.lst acc) ∧ acc.length < sizeLine ∧ dLcLM a all γ η δ ws ds L k xs (acc ++ [d]) (tset τ3 L (.lst (acc ++ [d]))) else dLcLM a all γ η δ ws ds L k xs acc τ2
theorem lcM_at {a : Addr} {all xs acc : List D} {ws : List Nat} {ds : Sl} {L : Addr} {k : TD → List D → Prop} {τ : TD} (h : dLcLM a all γ η δ ws ds L k xs acc τ) : τ a = some (.lst all) := by cases xs <;> exact h.1
def dLcR (δi : DE) (γ : DG) (η : DT) (δ : DE) (ws : List Nat) : DE := fun τ ds k => δi τ ds fun τ1 x => onRef x fun a => onSome (lstAt τ1 a) fun xs => ∀ L, τ1 L = none → dLcLM a xs γ η δ ws ds L (fun τ2 acc => k (tdel τ2 L) (.lst acc)) xs [] (tset τ1 L (.lst []))
theorem snd_lcR {ti : TE} {g : TG} {tt : TT} {te : TE} {ws : List Nat}
    (s1 : SndE K T E KE ti δi) (s2 : ∀ E KE, SndG K T E KE g γ) (hw : WipG ws g) (s3 : SndT K T E0 X0 tt η) (s4 : SndE K T E0 X0 te δ) :
    SndE K T E KE (tLc (iSeq K ti) g tt te ws) (dLcR δi γ η δ ws) := by
  intro σ H τ ds k Q j s h xo q
  refine s1 σ H τ ds _ _ j s h xo fun v τ1 H1 x e1 j1 r1 k1 => ?_
  obtain ⟨a, rfl, k1⟩ := onRef_ok k1
  obtain ⟨xs, hl, k1⟩ := onSome_ok k1
  have r1 : v = .ref a := r1
  subst r1
  obtain ⟨vs, hv, rv⟩ := cur_at j1 (lstAt_iff hl)
  refine .inl ⟨a, vs, rfl, .inl (.of hv), fun L hL => ?_⟩
  have nL := j1.free hL
  have x0 : ∀ τ H, XOk K T E0 X0 τ H := fun _ _ _ _ _ _ _ _ _ _ _ _ _ z => z.elim
  have eN : Ext τ1 H1 (tset τ1 L (.lst [])) (upd H1 L (.lst [])) := .newM hL
  refine lc_it (walk_cur (n := xs.length)) (fun i H' => ∃ τ' acc, Ext τ1 H1 τ' H' ∧ J K T τ' H' ∧ dLcLM a xs γ η δ ws ds L (fun τ2 acc => k (tdel τ2 L) (.lst acc)) (xs.drop i) acc τ') ⟨_, [], eN, j1.newM hL ⟨[], upd_same, rfl⟩, k1 L nL⟩ (fun i H' _ ⟨τ', acc, e', j', k'⟩ => ?_) ?_ ?_
  · obtain ⟨us, hu, ru⟩ := cur_at j' (lcM_at k')
    exact ⟨us, .inl (.of hu), ru.length⟩
  · rintro i x H' H'' hi ⟨τ', acc, e', j', k'⟩ y
    obtain ⟨us, hu, ru⟩ := cur_at j' (lcM_at k')
    obtain ⟨rfl, hy⟩ := y
    obtain ⟨d, hd, r2⟩ := ru.getV (hy us (.inl (.of hu)))
    have ed : xs.drop i = d :: xs.drop (i + 1) := by
      obtain ⟨hl, hx⟩ := List.getElem?_eq_some_iff.mp hd
      rw [← hx]; exact List.drop_eq_getElem_cons hl
    rw [ed] at k'
    have ee := e1.trans e'
    refine hw x (wipe σ ws) (wipe σ ws) H'' _ wipe_wipe ?_
    refine s2 E0 X0 x (wipe σ ws) H'' τ' (wipeD ds ws) d _ _ j' ((s.ext ee).wipe ws) r2 k'.2 (x0 _ _) fun σ3 H3 τ3 ds3 e3 j3 s3' k3 => ?_
    refine s3 σ3 H3 τ3 ds3 _ _ j3 s3' k3 (x0 _ _) fun b τ4 H4 e4 j4 k4 => ?_
    have e34 := (e'.trans e3).trans e4
    cases b with
    | false =>
      rw [if_neg Bool.false_ne_true] at k4 ⊢
      exact ⟨τ4, acc, e34, j4, k4⟩
    | true =>
      rw [if_pos rfl] at k4 ⊢
      refine s4 σ3 H4 τ4 ds3 _ _ j4 (s3'.ext e4) k4 (x0 _ _) fun v τ5 H5 d5 e5 j5 r5 k5 => ?_
      obtain ⟨hT, hz, k5⟩ := k5
      obtain ⟨vs, hv, rv⟩ := j5.obj L _ hT
      have ec : Ext τ5 H5 (tset τ5 L (.lst (acc ++ [d5]))) (upd H5 L (.lst (vs ++ [v]))) := .chg hT
      exact ⟨vs, hv, by rw [rv.length]; exact hz, _, acc ++ [d5], (e34.trans e5).trans ec, j5.chg hT ⟨_, upd_same, (rv.ext ec).append (.one (r5.ext ec))⟩, k5⟩
  · rintro H' ⟨τ', acc, e', j', k'⟩
    rw [List.drop_length] at k'
    exact q (.ref L) (tdel τ' L) H' (.lst acc) ((e1.trans e').trans del_ext) (j'.sub sub_del) (frz_one j' k'.2.1) k'.2.2
theorem pd_lcR {ifs : List Expr} {scope : Scope} {own : List (Str × Nat)} (hc : X.calm = true) (hN : X.N.Nodup) (hi : PD T X E KE iter δi) (ok : BlkOk X.N X.env.scope scope own)
    (hg : ∀ (s : Shared) (H : Hp) (C : Addr) (cl : List (Str × Addr)) (fp : List Addr), PDN T (X.blk s H scope (compEnvC scope cl C X.env) fp) (own.map (·.2)) tg γ) (ht : ∀ (s : Shared) (H : Hp) (C : Addr) (cl : List (Str × Addr)) (fp : List Addr), PDTs T (X.blk s H scope (compEnvC scope cl C X.env) fp) ifs η)
    (he : ∀ (s : Shared) (H : Hp) (C : Addr) (cl : List (Str × Addr)) (fp : List Addr), PD T (X.blk s H scope (compEnvC scope cl C X.env) fp) E0 X0 e δ) (hs : ∀ x, foldedSetIterable iter X.env x = pure x := by intro _; rfl) :
    PD T X E KE (.ListComp e [⟨tg, iter, ifs, 0⟩] scope pos) (dLcR δi γ η δ (own.map (·.2))) := by
  obtain ⟨wi, p1, s1⟩ := hi.ex
  obtain ⟨g, p2, s2, hw⟩ := uniN (α := Shared × Hp × Addr × List (Str × Addr) × List Addr) (XX := fun p => X.blk p.1 p.2.1 scope (compEnvC scope p.2.2.2.1 p.2.2.1 X.env) p.2.2.2.2) (K := X.K) (fun _ => rfl) fun p => hg _ _ _ _ _
  obtain ⟨tt, p3, s3⟩ := uniT (α := Shared × Hp × Addr × List (Str × Addr) × List Addr) (XX := fun p => X.blk p.1 p.2.1 scope (compEnvC scope p.2.2.2.1 p.2.2.1 X.env) p.2.2.2.2) (K := X.K) (fun _ => rfl) fun p => (ht _ _ _ _ _).ex
  obtain ⟨te, p4, s4⟩ := uni (α := Shared × Hp × Addr × List (Str × Addr) × List Addr) (XX := fun p => X.blk p.1 p.2.1 scope (compEnvC scope p.2.2.2.1 p.2.2.1 X.env) p.2.2.2.2) (K := X.K) (fun _ => rfl) fun p => he _ _ _ _ _
  exact ⟨_, pe_lc hc hN (pi_seq p1) ok (fun s H C cl fp => p2 (s, H, C, cl, fp)) (fun s H C cl fp => p3 (s, H, C, cl, fp)) (fun s H C cl fp => p4 (s, H, C, cl, fp)) hs, snd_lcR s1 s2 hw s3 s4⟩
theorem pds_setLcR {ifs : List Expr} {scope : Scope} {own : List (Str × Nat)} {i : Nat} {y : Str} {py spos : Pos} (hc : X.calm = true) (hN : X.N.Nodup) (hy : X.N[i]? = some y) (hyl : X.env.scope.names.lookup y = some .local)
    (hsw : swapsWith (.ListComp e [⟨tg, iter, ifs, 0⟩] scope pos) (some (.Name y py)) spos.line X.env = pure true) (hi : PD T X E KE iter δi) (ok : BlkOk X.N X.env.scope scope own)
    (hg : ∀ (s : Shared) (H : Hp) (C : Addr) (cl : List (Str × Addr)) (fp : List Addr), PDN T (X.blk s H scope (compEnvC scope cl C X.env) fp) (own.map (·.2)) tg γ) (ht : ∀ (s : Shared) (H : Hp) (C : Addr) (cl : List (Str × Addr)) (fp : List Addr), PDTs T (X.blk s H scope (compEnvC scope cl C X.env) fp) ifs η)
    (he : ∀ (s : Shared) (H : Hp) (C : Addr) (cl : List (Str × Addr)) (fp : List Addr), PD T (X.blk s H scope (compEnvC scope cl C X.env) fp) E0 X0 e δ) (hs : ∀ x, foldedSetIterable iter X.env x = pure x := by intro _; rfl) :
    PDS T X E KE (.Assign [.Name y py] (.ListComp e [⟨tg, iter, ifs, 0⟩] scope pos) spos) (dAsg (dLcR δi γ η δ (own.map (·.2))) (γName i)) := by
  obtain ⟨wi, p1, s1⟩ := hi.ex
  obtain ⟨g, p2, s2, hw⟩ := uniN (α := Shared × Hp × Addr × List (Str × Addr) × List Addr) (XX := fun p => X.blk p.1 p.2.1 scope (compEnvC scope p.2.2.2.1 p.2.2.1 X.env) p.2.2.2.2) (K := X.K) (fun _ => rfl) fun p => hg _ _ _ _ _
  obtain ⟨tt, p3, s3⟩ := uniT (α := Shared × Hp × Addr × List (Str × Addr) × List Addr) (XX := fun p => X.blk p.1 p.2.1 scope (compEnvC scope p.2.2.2.1 p.2.2.1 X.env) p.2.2.2.2) (K := X.K) (fun _ => rfl) fun p => (ht _ _ _ _ _).ex
  obtain ⟨te, p4, s4⟩ := uni (α := Shared × Hp × Addr × List (Str × Addr) × List Addr) (XX := fun p => X.blk p.1 p.2.1 scope (compEnvC scope p.2.2.2.1 p.2.2.1 X.env) p.2.2.2.2) (K := X.K) (fun _ => rfl) fun p => he _ _ _ _ _
  exact ⟨_, ps_setLc hc hN hy hyl hsw (pi_seq p1) ok (fun s H C cl fp => p2 (s, H, C, cl, fp)) (fun s H C cl fp => p3 (s, H, C, cl, fp)) (fun s H C cl fp => p4 (s, H, C, cl, fp)) hs, sndAsg (snd_lcR s1 s2 hw s3 s4) sndName⟩
/-- items read by themselves -/
theorem lcR_fmT {ws : List Nat} {ds : Sl} {τ0 : TD} {k : TD → List D → Prop} {L a : Addr} {α : Type} {l : List α} {g : α → D} (h : α → Option D) (hz : l.length ≤ sizeLine) (ha : τ0 a = some (.lst (l.map g))) (hL : τ0 L = none)
    (step : ∀ c ∈ l, ∀ (acc : List D) (k : TD → Option D → Prop), k (tset τ0 L (.lst acc)) (h c) → γ (g c) (tset τ0 L (.lst acc)) (wipeD ds ws) fun τ1 ds1 => η τ1 ds1 fun τ2 b => if b = true then δ τ2 ds1 fun τ3 d => k τ3 (some d) else k τ2 none)
    (hk : k (tset τ0 L (.lst (l.filterMap h))) (l.filterMap h)) : dLcLM a (l.map g) γ η δ ws ds L k (l.map g) [] (tset τ0 L (.lst [])) := by
  have na : a ≠ L := fun z => by rw [z, hL] at ha; cases ha
  have at_ : ∀ acc, tset τ0 L (.lst acc) a = some (.lst (l.map g)) := fun acc => by rw [tset_ne na]; exact ha
  have key : ∀ (post pre : List α), l = pre ++ post → dLcLM a (l.map g) γ η δ ws ds L k (post.map g) (pre.filterMap h) (tset τ0 L (.lst (pre.filterMap h))) := by
    intro post
    induction post with
    | nil =>
      intro pre e
      rw [List.append_nil] at e
      rw [← e]
      exact ⟨at_ _, tset_same, hk⟩
    | cons c post ih =>
      intro pre e
      have hc : c ∈ l := by rw [e]; simp
      have i2 := ih (pre ++ [c]) (by rw [e]; simp)
      have hl : (pre.filterMap h).length < sizeLine := by
        have h1 : (pre.filterMap h).length ≤ pre.length := List.length_filterMap_le _ _
        have h2 : l.length = pre.length + (post.length + 1) := by rw [e]; simp
        omega
      refine ⟨at_ _, step c hc _ (fun τ3 o => match o with | some d => τ3 L = some (.lst (pre.filterMap h)) ∧ (pre.filterMap h).length < sizeLine ∧ dLcLM a (l.map g) γ η δ ws ds L k (post.map g) (pre.filterMap h ++ [d]) (tset τ3 L (.lst (pre.filterMap h ++ [d]))) | none => dLcLM a (l.map g) γ η δ ws ds L k (post.map g) (pre.filterMap h) τ3) ?_⟩
      rw [List.filterMap_append] at i2
      cases hf : h c with
      | some d =>
        have e2 : [c].filterMap h = [d] := by simp [hf]
        rw [e2] at i2
        exact ⟨tset_same, hl, by rw [tset_tset]; exact i2⟩
      | none =>
        have e2 : [c].filterMap h = [] := by simp [hf]
        rw [e2, List.append_nil] at i2
        exact i2
  exact key l [] rfl
/-- a loop over the items -/
theorem loopM_stn {F : EndsD} {α σ : Type} {g : α → D} {a : Addr} (I : Nat → σ → TD → Sl → Prop) (f : σ → α → σ) (l : List α) (at_ : ∀ i s τ ds, I i s τ ds → τ a = some (.lst (l.map g)))
    (step : ∀ i c, i < l.length → l[i]? = some c → ∀ s τ ds, I i s τ ds → ∀ G : TD → Sl → Prop, (∀ τ' ds', I (i + 1) (f s c) τ' ds' → G τ' ds') → γ (g c) τ ds (β { F with nx := G, ct := G, bk := F.nx }))
    {s0 : σ} {τ : TD} {ds : Sl} (h0 : I 0 s0 τ ds) (fin : ∀ τ ds, I l.length (l.foldl f s0) τ ds → F.nx τ ds) : dLoopM a (l.map g) γ β F (l.map g) τ ds := by
  have key : ∀ (post pre : List α) (τ : TD) (ds : Sl), l = pre ++ post → I pre.length (pre.foldl f s0) τ ds → dLoopM a (l.map g) γ β F (post.map g) τ ds := by
    intro post
    induction post with
    | nil =>
      intro pre τ ds e h
      rw [List.append_nil] at e
      subst e
      exact ⟨at_ _ _ _ _ h, fin τ ds h⟩
    | cons c post ih =>
      intro pre τ ds e h
      refine ⟨at_ _ _ _ _ h, step pre.length c (by rw [e]; simp) (by rw [e]; simp) _ τ ds h _ fun τ' ds' h' => ih (pre ++ [c]) τ' ds' (by rw [e]; simp) ?_⟩
      rw [List.length_append, List.foldl_append]
      exact h'
  exact key l [] τ ds rfl h0
end
end DL

set_option Elab.async false
set_option linter.all false
set_option maxRecDepth 100000
set_option maxHeartbeats 1000000
/-! The data layer, 33: a comprehension in a comprehension. -/
namespace DL
open PySem PySem.Spec PyProof.Rows L2 DX
theorem look_relabel {env : Env} {x : Str} {k : NameKind} : ∀ {names : List (Str × NameKind)}, names.lookup x = some k →
    (names.map fun (n, k) => if (k == NameKind.free && env.scope.kind == .function && env.kindOf n == some .cell) then (n, NameKind.cell) else (n, k)).lookup x = some k ∨
    (k = .free ∧ (names.map fun (n, k) => if (k == NameKind.free && env.scope.kind == .function && env.kindOf n == some .cell) then (n, NameKind.cell) else (n, k)).lookup x = some .cell)
  | [], h => by simp at h
  | (n, k') :: r, h => by
    have ih := @look_relabel env x k r
    simp only [List.map_cons]
    by_cases hc : (k' == NameKind.free && env.scope.kind == .function && env.kindOf n == some .cell) = true
    · rw [if_pos hc]
      cases hx : x == n with
      | true =>
        simp only [List.lookup_cons, hx] at h ⊢
        cases h
        simp only [Bool.and_eq_true] at hc
        refine .inr ⟨by simpa using hc.1.1, by simp⟩
      | false =>
        simp only [List.lookup_cons, hx] at h ⊢
        exact ih h
    · rw [if_neg hc]
      cases hx : x == n with
      | true =>
        simp only [List.lookup_cons, hx] at h ⊢
        exact .inl h
      | false =>
        simp only [List.lookup_cons, hx] at h ⊢
        exact ih h
theorem blk_nest {X : Cx} {N : List Str} {s : Shared} {H : Hp} {C : Addr} {cl : List (Str × Addr)} {scope inner : Scope} {fp : List Addr} {own : List (Str × Nat)} (hN : X.N = N) (h : BlkOk N scope inner own) : BlkOk (X.blk s H scope (compEnvC scope cl C X.env) fp).N (X.blk s H scope (compEnvC scope cl C X.env) fp).env.scope inner own := by
  subst hN
  show BlkOk X.N (relabel scope X.env) inner own
  refine ⟨h.kind, h.uniq, h.ix, fun y hy e => ?_, h.own⟩
  rcases h.free y hy e with z | z
  · rcases look_relabel (env := X.env) z with q | q
    · exact .inl q
    · exact .inl q.2
  · rcases look_relabel (env := X.env) z with q | q
    · exact .inr q
    · exact .inl q.2
end DL

set_option Elab.async false
set_option linter.all false
set_option maxRecDepth 100000
set_option maxHeartbeats 0
namespace LW
open PySem PySem.Spec PyProof.Rows L2 DL DX
abbrev prog : Program := PySem.Challenge.pw_ringthrough_k05_whole_fabrics_step_by_st
def top (i : Nat) : Stmt := PySem.Challenge.pw_ringthrough_k05_whole_fabrics_step_by_st.main.body.getD i (.Pass ⟨0, 0, 0, 0⟩)
abbrev s_is_in : Stmt := top 5
abbrev s_is_tuple : Stmt := top 6
abbrev s_demand : Stmt := top 7
abbrev s_is_shape : Stmt := top 11
abbrev s_ends_of : Stmt := top 12
abbrev s_Fabric___init__ : Stmt := inClass (top 13) 0
abbrev s_Fabric_calls : Stmt := inClass (top 13) 1
abbrev s_Fabric___eq__ : Stmt := inClass (top 13) 2
abbrev s_Fabric_twin : Stmt := inClass (top 13) 3
abbrev s_Fabric_has_outlet : Stmt := inClass (top 13) 4
abbrev s_Fabric_is_front_free : Stmt := inClass (top 13) 5
abbrev s_Fabric_is_behind_free : Stmt := inClass (top 13) 6
abbrev s_Fabric_look_at_ends : Stmt := inClass (top 13) 7
abbrev s_Fabric_demand_ends : Stmt := inClass (top 13) 8
abbrev s_Fabric_call : Stmt := inClass (top 13) 9
abbrev s_Fabric_end : Stmt := inClass (top 13) 10
abbrev s_Fabric_ways : Stmt := inClass (top 13) 11
abbrev s_Fabric_middles : Stmt := inClass (top 13) 12
abbrev s_Fabric_free_outlets : Stmt := inClass (top 13) 13
abbrev s_Fabric_is_blocked : Stmt := inClass (top 13) 14
abbrev s__law_dice : Stmt := top 15
abbrev s__law_roll : Stmt := top 16
abbrev s__law_pick : Stmt := top 17
abbrev s__law_refused : Stmt := top 18
abbrev s__law_r_shape : Stmt := top 19
abbrev s__law_r_can : Stmt := top 20
abbrev s__law_r_blocked : Stmt := top 21
abbrev s__law_met : Stmt := top 22
abbrev s__law_middles_due : Stmt := top 23
abbrev s__law_step_right : Stmt := top 24
abbrev s__law_refuses : Stmt := top 25
abbrev s__law_right : Stmt := top 26
abbrev s_law : Stmt := top 27
structure Mod (K : PySem.W.Frag) (mg : Str → Option Value) : Prop where
  f_is_in : ∃ fd, Fun K "is_in" "is_in" s_is_in (He.fAd K ("is_in", none)) fd
  g_is_in : mg "is_in" = some (.ref (He.fAd K ("is_in", none)))
  f_is_tuple : ∃ fd, Fun K "is_tuple" "is_tuple" s_is_tuple (He.fAd K ("is_tuple", none)) fd
  g_is_tuple : mg "is_tuple" = some (.ref (He.fAd K ("is_tuple", none)))
  f_demand : ∃ fd, Fun K "demand" "demand" s_demand (He.fAd K ("demand", none)) fd
  g_demand : mg "demand" = some (.ref (He.fAd K ("demand", none)))
  f_is_shape : ∃ fd, Fun K "is_shape" "is_shape" s_is_shape (He.fAd K ("is_shape", none)) fd
  g_is_shape : mg "is_shape" = some (.ref (He.fAd K ("is_shape", none)))
  f_ends_of : ∃ fd, Fun K "ends_of" "ends_of" s_ends_of (He.fAd K ("ends_of", none)) fd
  g_ends_of : mg "ends_of" = some (.ref (He.fAd K ("ends_of", none)))
  f_Fabric___init__ : ∃ fd, Fun K "__init__" "Fabric.__init__" s_Fabric___init__ (He.fAd K ("Fabric", some "__init__")) fd
  me_Fabric___init__ : Meth K (He.ga K "Fabric") "__init__" (He.fAd K ("Fabric", some "__init__"))
  f_Fabric_calls : ∃ fd, Fun K "calls" "Fabric.calls" s_Fabric_calls (He.fAd K ("Fabric", some "calls")) fd
  me_Fabric_calls : Meth K (He.ga K "Fabric") "calls" (He.fAd K ("Fabric", some "calls"))
  f_Fabric___eq__ : ∃ fd, Fun K "__eq__" "Fabric.__eq__" s_Fabric___eq__ (He.fAd K ("Fabric", some "__eq__")) fd
  me_Fabric___eq__ : Meth K (He.ga K "Fabric") "__eq__" (He.fAd K ("Fabric", some "__eq__"))
  f_Fabric_twin : ∃ fd, Fun K "twin" "Fabric.twin" s_Fabric_twin (He.fAd K ("Fabric", some "twin")) fd
  me_Fabric_twin : Meth K (He.ga K "Fabric") "twin" (He.fAd K ("Fabric", some "twin"))
  f_Fabric_has_outlet : ∃ fd, Fun K "has_outlet" "Fabric.has_outlet" s_Fabric_has_outlet (He.fAd K ("Fabric", some "has_outlet")) fd
  me_Fabric_has_outlet : Meth K (He.ga K "Fabric") "has_outlet" (He.fAd K ("Fabric", some "has_outlet"))
  f_Fabric_is_front_free : ∃ fd, Fun K "is_front_free" "Fabric.is_front_free" s_Fabric_is_front_free (He.fAd K ("Fabric", some "is_front_free")) fd
  me_Fabric_is_front_free : Meth K (He.ga K "Fabric") "is_front_free" (He.fAd K ("Fabric", some "is_front_free"))
  f_Fabric_is_behind_free : ∃ fd, Fun K "is_behind_free" "Fabric.is_behind_free" s_Fabric_is_behind_free (He.fAd K ("Fabric", some "is_behind_free")) fd
  me_Fabric_is_behind_free : Meth K (He.ga K "Fabric") "is_behind_free" (He.fAd K ("Fabric", some "is_behind_free"))
  f_Fabric_look_at_ends : ∃ fd, Fun K "look_at_ends" "Fabric.look_at_ends" s_Fabric_look_at_ends (He.fAd K ("Fabric", some "look_at_ends")) fd
  me_Fabric_look_at_ends : Meth K (He.ga K "Fabric") "look_at_ends" (He.fAd K ("Fabric", some "look_at_ends"))
  f_Fabric_demand_ends : ∃ fd, Fun K "demand_ends" "Fabric.demand_ends" s_Fabric_demand_ends (He.fAd K ("Fabric", some "demand_ends")) fd
  me_Fabric_demand_ends : Meth K (He.ga K "Fabric") "demand_ends" (He.fAd K ("Fabric", some "demand_ends"))
  f_Fabric_call : ∃ fd, Fun K "call" "Fabric.call" s_Fabric_call (He.fAd K ("Fabric", some "call")) fd
  me_Fabric_call : Meth K (He.ga K "Fabric") "call" (He.fAd K ("Fabric", some "call"))
  f_Fabric_end : ∃ fd, Fun K "end" "Fabric.end" s_Fabric_end (He.fAd K ("Fabric", some "end")) fd
  me_Fabric_end : Meth K (He.ga K "Fabric") "end" (He.fAd K ("Fabric", some "end"))
  f_Fabric_ways : ∃ fd, Fun K "ways" "Fabric.ways" s_Fabric_ways (He.fAd K ("Fabric", some "ways")) fd
  me_Fabric_ways : Meth K (He.ga K "Fabric") "ways" (He.fAd K ("Fabric", some "ways"))
  f_Fabric_middles : ∃ fd, Fun K "middles" "Fabric.middles" s_Fabric_middles (He.fAd K ("Fabric", some "middles")) fd
  me_Fabric_middles : Meth K (He.ga K "Fabric") "middles" (He.fAd K ("Fabric", some "middles"))
  f_Fabric_free_outlets : ∃ fd, Fun K "free_outlets" "Fabric.free_outlets" s_Fabric_free_outlets (He.fAd K ("Fabric", some "free_outlets")) fd
  me_Fabric_free_outlets : Meth K (He.ga K "Fabric") "free_outlets" (He.fAd K ("Fabric", some "free_outlets"))
  f_Fabric_is_blocked : ∃ fd, Fun K "is_blocked" "Fabric.is_blocked" s_Fabric_is_blocked (He.fAd K ("Fabric", some "is_blocked")) fd
  me_Fabric_is_blocked : Meth K (He.ga K "Fabric") "is_blocked" (He.fAd K ("Fabric", some "is_blocked"))
  f__law_dice : ∃ fd, Fun K "_law_dice" "_law_dice" s__law_dice (He.fAd K ("_law_dice", none)) fd
  g__law_dice : mg "_law_dice" = some (.ref (He.fAd K ("_law_dice", none)))
  f__law_roll : ∃ fd, Fun K "_law_roll" "_law_roll" s__law_roll (He.fAd K ("_law_roll", none)) fd
  g__law_roll : mg "_law_roll" = some (.ref (He.fAd K ("_law_roll", none)))
  f__law_pick : ∃ fd, Fun K "_law_pick" "_law_pick" s__law_pick (He.fAd K ("_law_pick", none)) fd
  g__law_pick : mg "_law_pick" = some (.ref (He.fAd K ("_law_pick", none)))
  f__law_refused : ∃ fd, Fun K "_law_refused" "_law_refused" s__law_refused (He.fAd K ("_law_refused", none)) fd
  g__law_refused : mg "_law_refused" = some (.ref (He.fAd K ("_law_refused", none)))
  f__law_r_shape : ∃ fd, Fun K "_law_r_shape" "_law_r_shape" s__law_r_shape (He.fAd K ("_law_r_shape", none)) fd
  g__law_r_shape : mg "_law_r_shape" = some (.ref (He.fAd K ("_law_r_shape", none)))
  f__law_r_can : ∃ fd, Fun K "_law_r_can" "_law_r_can" s__law_r_can (He.fAd K ("_law_r_can", none)) fd
  g__law_r_can : mg "_law_r_can" = some (.ref (He.fAd K ("_law_r_can", none)))
  f__law_r_blocked : ∃ fd, Fun K "_law_r_blocked" "_law_r_blocked" s__law_r_blocked (He.fAd K ("_law_r_blocked", none)) fd
  g__law_r_blocked : mg "_law_r_blocked" = some (.ref (He.fAd K ("_law_r_blocked", none)))
  f__law_met : ∃ fd, Fun K "_law_met" "_law_met" s__law_met (He.fAd K ("_law_met", none)) fd
  g__law_met : mg "_law_met" = some (.ref (He.fAd K ("_law_met", none)))
  f__law_middles_due : ∃ fd, Fun K "_law_middles_due" "_law_middles_due" s__law_middles_due (He.fAd K ("_law_middles_due", none)) fd
  g__law_middles_due : mg "_law_middles_due" = some (.ref (He.fAd K ("_law_middles_due", none)))
  f__law_step_right : ∃ fd, Fun K "_law_step_right" "_law_step_right" s__law_step_right (He.fAd K ("_law_step_right", none)) fd
  g__law_step_right : mg "_law_step_right" = some (.ref (He.fAd K ("_law_step_right", none)))
  f__law_refuses : ∃ fd, Fun K "_law_refuses" "_law_refuses" s__law_refuses (He.fAd K ("_law_refuses", none)) fd
  g__law_refuses : mg "_law_refuses" = some (.ref (He.fAd K ("_law_refuses", none)))
  f__law_right : ∃ fd, Fun K "_law_right" "_law_right" s__law_right (He.fAd K ("_law_right", none)) fd
  g__law_right : mg "_law_right" = some (.ref (He.fAd K ("_law_right", none)))
  f_law : ∃ fd, Fun K "law" "law" s_law (He.fAd K ("law", none)) fd
  g_law : mg "law" = some (.ref (He.fAd K ("law", none)))
  cl_Fabric : Cls K (He.ga K "Fabric")
  mk_Fabric : Mk K (He.ga K "Fabric") (He.fAd K ("Fabric", some "__init__"))
  gc_Fabric : mg "Fabric" = some (.ref (He.ga K "Fabric"))
  isc_Fabric : IsC K (He.ga K "Fabric")
  eqc_Fabric : EqC K (He.ga K "Fabric") (He.fAd K ("Fabric", some "__eq__"))
  na_Fabric_shape : NoAttr K (He.ga K "Fabric") "shape"
  na_Fabric__calls : NoAttr K (He.ga K "Fabric") "_calls"
  b_ValueError : mg "ValueError" = none
  b_abs : mg "abs" = none
  b_any : mg "any" = none
  b_bool : mg "bool" = none
  b_dict : mg "dict" = none
  b_int : mg "int" = none
  b_isinstance : mg "isinstance" = none
  b_len : mg "len" = none
  b_max : mg "max" = none
  b_min : mg "min" = none
  b_range : mg "range" = none
  b_sorted : mg "sorted" = none
  b_super : mg "super" = none
  b_tuple : mg "tuple" = none
  c_MOST_N : ∃ t, mg "MOST_N" = some (.int 8 t)
  c_MOST_M : ∃ t, mg "MOST_M" = some (.int 20 t)
  mei : ExcI K (He.ga K "NotPossible")
  mg_BadArgument : mg "BadArgument" = some (.ref (He.ga K "BadArgument"))
  mg_RingError : mg "RingError" = some (.ref (He.ga K "RingError"))
  mk1 : PySem.W.kitOne K (.ref (He.ga K "NotPossible")) (.ref (He.ga K "RingError")) = some true
  mk2 : PySem.W.kitOne K (.ref (He.ga K "NotPossible")) (.type "ValueError") = some true
  mk3 : PySem.W.kitOne K (.ref (He.ga K "NotPossible")) (.ref (He.ga K "BadArgument")) = some false
  lne__law_step_right___law_refuses : (He.cT K ("_law_step_right", none)).2 ≠ (He.cT K ("_law_refuses", none)).2
  e_BadArgument : ErrTxt prog K mg "BadArgument" "name" (He.ga K "BadArgument") (iOf K "BadArgument") (ccOf K (iOf K "BadArgument")) (cdOf K (iOf K "BadArgument"))
  x_BadArgument : XfC K (He.ga K "BadArgument") ∧ PySem.W.findIn K (.ref (He.ga K "BadArgument")) "name" = some none ∧ PySem.W.exmOne K (.ref (He.ga K "BadArgument")) (.ref (He.ga K "BadArgument")) = some true
  e_NotPossible : ErrTxt prog K mg "NotPossible" "word" (He.ga K "NotPossible") (iOf K "NotPossible") (ccOf K (iOf K "NotPossible")) (cdOf K (iOf K "NotPossible"))
  x_NotPossible : XfC K (He.ga K "NotPossible") ∧ PySem.W.findIn K (.ref (He.ga K "NotPossible")) "word" = some none ∧ PySem.W.exmOne K (.ref (He.ga K "NotPossible")) (.ref (He.ga K "NotPossible")) = some true
def TT (K : PySem.W.Frag) : List (Addr × Str) := [((He.cT K ("_law_step_right", none)).2, (envOfC "_law_step_right" (defScope s__law_step_right) 0 0 .none).qual ++ ("<lambda>" : Str)), ((He.cT K ("_law_refuses", none)).2, (envOfC "_law_refuses" (defScope s__law_refuses) 0 0 .none).qual ++ ("<lambda>" : Str))]
theorem tt__law_step_right {K : PySem.W.Frag} {mg : Str → Option Value} (M : Mod K mg) : ∀ p ∈ TT K, p.1 = (He.cT K ("_law_step_right", none)).2 → p.2 = (envOfC "_law_step_right" (defScope s__law_step_right) 0 0 .none).qual ++ ("<lambda>" : Str) := fun p hp hq => by
  simp only [TT, List.mem_cons, List.not_mem_nil, or_false] at hp
  rcases hp with rfl | rfl
  · rfl
  · exact absurd hq (Ne.symm M.lne__law_step_right___law_refuses)
theorem ttm__law_step_right {K : PySem.W.Frag} : ((He.cT K ("_law_step_right", none)).2, (envOfC "_law_step_right" (defScope s__law_step_right) 0 0 .none).qual ++ ("<lambda>" : Str)) ∈ TT K := by simp [TT]
theorem tt__law_refuses {K : PySem.W.Frag} {mg : Str → Option Value} (M : Mod K mg) : ∀ p ∈ TT K, p.1 = (He.cT K ("_law_refuses", none)).2 → p.2 = (envOfC "_law_refuses" (defScope s__law_refuses) 0 0 .none).qual ++ ("<lambda>" : Str) := fun p hp hq => by
  simp only [TT, List.mem_cons, List.not_mem_nil, or_false] at hp
  rcases hp with rfl | rfl
  · exact absurd hq M.lne__law_step_right___law_refuses
  · rfl
theorem ttm__law_refuses {K : PySem.W.Frag} : ((He.cT K ("_law_refuses", none)).2, (envOfC "_law_refuses" (defScope s__law_refuses) 0 0 .none).qual ++ ("<lambda>" : Str)) ∈ TT K := by simp [TT]
def dT (K : PySem.W.Frag) (δb : XD → DE) : DE := dTold (He.ga K "BadArgument") "name" "" δb
theorem told {X : Cx} {T : List (Addr × Str)} {E : XK} {KE : XD} {params : Arguments} {body : Expr} {scope : Scope} {p lpos pos : Pos} {δb : XD → DE} {cl P : Addr} {k : Nat} {K : PySem.W.Frag} {mg : Str → Option Value} (M : Mod K mg) (hK : X.K = K) (hmg : X.mg = mg) (hg : Gl X "_law_refused") (TB : LamX.TabB X.base X.mg cl P) (hcode : X.env.code = .ref cl)
    (hmT : (P, X.env.qual ++ "<lambda>") ∈ T) (hu : ∀ p ∈ T, p.1 = P → p.2 = X.env.qual ++ "<lambda>") (hr : Room (k + 2) X.A) (L : LamX.LamS X.env.scope scope) (hdef : defaultsOf params X.env = ([], []))
    (hbind : ∀ (q : Str) (cl : List (Str × Addr)) (pm cv ctv : Value), bindArgs (PySem.W.kla_fn "<lambda>" q params body scope cl pm cv ctv) ⟨[], []⟩ = pure [])
    (hbody : ∀ (A : Around) (outer : List Env) (s : Shared) (H : Hp) (E : XK) (f c' : Addr) (KE : XD), Room k (A.deeper (LamX.lamEnv X scope s.heap.objs.size f c')) → PD T (LamX.lamCx X A outer s H E scope f c') E KE body (δb KE)) :
    PD T X E KE (.Call (.Name "_law_refused" p) [.Lambda params body scope lpos] [] pos) (dT K δb) := by
  subst hK hmg
  obtain ⟨fd, F⟩ := M.f__law_refused
  have F0 := F
  obtain ⟨oc, od, kV, doc, pm, an, cdv, ct, osl, rfl, lk, hcd⟩ := F.ex
  refine pd_told (Ng := ["call", "e"]) (a := "call") hg M.g__law_refused F0.kp lk hcd (fun_binds F0 fun _ _ _ _ _ _ us hl => match us, hl with | [_], _ => rfl) ⟨rfl, rfl, rfl, by decide +kernel, rfl, by decide +kernel, by decide +kernel⟩ rfl (.inl rfl) ?_ M.x_BadArgument.2.2 TB hcode hmT hu hr L hdef hbind hbody
  exact told_givesF (i := 1) (n := "e") (e := "BadArgument") (by decide +kernel) rfl rfl M.x_BadArgument.1 M.x_BadArgument.2.1 rfl M.e_BadArgument.gC (by decide) (by decide) (by decide) fun _ => rfl
def dTm (K : PySem.W.Frag) (δb : XD → DE) : DE   := dMet (He.ga K "NotPossible") "word" "not " δb
theorem toldm {X : Cx} {T : List (Addr × Str)} {E : XK} {KE : XD} {params : Arguments} {body : Expr} {scope : Scope} {p lpos pos : Pos} {δb : XD → DE} {cl P : Addr} {k : Nat} {K : PySem.W.Frag} {mg : Str → Option Value} (M : Mod K mg) (hK : X.K = K) (hmg : X.mg = mg) (hg : Gl X "_law_met") (TB : LamX.TabB X.base X.mg cl P) (hcode : X.env.code = .ref cl)
    (hmT : (P, X.env.qual ++ "<lambda>") ∈ T) (hu : ∀ p ∈ T, p.1 = P → p.2 = X.env.qual ++ "<lambda>") (hr : Room (k + 2) X.A) (L : LamX.LamS X.env.scope scope) (hdef : defaultsOf params X.env = ([], []))
    (hbind : ∀ (q : Str) (cl : List (Str × Addr)) (pm cv ctv : Value), bindArgs (PySem.W.kla_fn "<lambda>" q params body scope cl pm cv ctv) ⟨[], []⟩ = pure [])
    (hbody : ∀ (A : Around) (outer : List Env) (s : Shared) (H : Hp) (E : XK) (f c' : Addr) (KE : XD), Room k (A.deeper (LamX.lamEnv X scope s.heap.objs.size f c')) → PD T (LamX.lamCx X A outer s H E scope f c') E KE body (δb KE)) :
    PD T X E KE (.Call (.Name "_law_met" p) [.Lambda params body scope lpos] [] pos) (dTm K δb) := by
  subst hK hmg
  obtain ⟨fd, F⟩ := M.f__law_met
  have F0 := F
  obtain ⟨oc, od, kV, doc, pm, an, cdv, ct, osl, rfl, lk, hcd⟩ := F.ex
  refine pd_met (Ng := ["call", "e"]) (a := "call") hg M.g__law_met F0.kp lk hcd (fun_binds F0 fun _ _ _ _ _ _ us hl => match us, hl with | [_], _ => rfl) ⟨rfl, rfl, rfl, by decide +kernel, rfl, by decide +kernel, by decide +kernel⟩ rfl (.inl rfl) ?_ M.x_NotPossible.2.2 TB hcode hmT hu hr L hdef hbind hbody
  exact met_givesI (i := 1) (n := "e") (e := "NotPossible") (e1 := "RingError") (e2 := "ValueError") (e3 := "BadArgument") (by decide +kernel) rfl rfl M.x_NotPossible.1 M.x_NotPossible.2.1 rfl M.e_NotPossible.gC (by decide) (by decide) (by decide) (fun _ => rfl) M.mei rfl M.b_isinstance rfl M.mg_RingError M.mk1 (by decide) rfl M.b_ValueError rfl (by decide) M.mk2 (by decide) rfl M.mg_BadArgument M.mk3 (by decide)
def Cs_shape (K : PySem.W.Frag) : List Addr := [He.ga K "Fabric"]
def Cs__calls (K : PySem.W.Frag) : List Addr := [He.ga K "Fabric"]
theorem ne___eq_____calls : ((("__eq__" : Str) = "_calls")) = False := eq_false (by decide +kernel)
theorem ne___eq____shape : ((("__eq__" : Str) = "shape")) = False := eq_false (by decide +kernel)
theorem ne___init_____calls : ((("__init__" : Str) = "_calls")) = False := eq_false (by decide +kernel)
theorem ne___init____shape : ((("__init__" : Str) = "shape")) = False := eq_false (by decide +kernel)
theorem ne__calls____eq__ : ((("_calls" : Str) = "__eq__")) = False := eq_false (by decide +kernel)
theorem ne__calls____init__ : ((("_calls" : Str) = "__init__")) = False := eq_false (by decide +kernel)
theorem ne__calls__call : ((("_calls" : Str) = "call")) = False := eq_false (by decide +kernel)
theorem ne__calls__calls : ((("_calls" : Str) = "calls")) = False := eq_false (by decide +kernel)
theorem ne__calls__demand_ends : ((("_calls" : Str) = "demand_ends")) = False := eq_false (by decide +kernel)
theorem ne__calls__end : ((("_calls" : Str) = "end")) = False := eq_false (by decide +kernel)
theorem ne__calls__free_outlets : ((("_calls" : Str) = "free_outlets")) = False := eq_false (by decide +kernel)
theorem ne__calls__has_outlet : ((("_calls" : Str) = "has_outlet")) = False := eq_false (by decide +kernel)
theorem ne__calls__is_behind_free : ((("_calls" : Str) = "is_behind_free")) = False := eq_false (by decide +kernel)
theorem ne__calls__is_blocked : ((("_calls" : Str) = "is_blocked")) = False := eq_false (by decide +kernel)
theorem ne__calls__is_front_free : ((("_calls" : Str) = "is_front_free")) = False := eq_false (by decide +kernel)
theorem ne__calls__look_at_ends : ((("_calls" : Str) = "look_at_ends")) = False := eq_false (by decide +kernel)
theorem ne__calls__middles : ((("_calls" : Str) = "middles")) = False := eq_false (by decide +kernel)
theorem ne__calls__shape : ((("_calls" : Str) = "shape")) = False := eq_false (by decide +kernel)
theorem ne__calls__twin : ((("_calls" : Str) = "twin")) = False := eq_false (by decide +kernel)
theorem ne__calls__ways : ((("_calls" : Str) = "ways")) = False := eq_false (by decide +kernel)
theorem ne_call___calls : ((("call" : Str) = "_calls")) = False := eq_false (by decide +kernel)
theorem ne_call__shape : ((("call" : Str) = "shape")) = False := eq_false (by decide +kernel)
theorem ne_calls___calls : ((("calls" : Str) = "_calls")) = False := eq_false (by decide +kernel)
theorem ne_calls__shape : ((("calls" : Str) = "shape")) = False := eq_false (by decide +kernel)
theorem ne_demand_ends___calls : ((("demand_ends" : Str) = "_calls")) = False := eq_false (by decide +kernel)
theorem ne_demand_ends__shape : ((("demand_ends" : Str) = "shape")) = False := eq_false (by decide +kernel)
theorem ne_end___calls : ((("end" : Str) = "_calls")) = False := eq_false (by decide +kernel)
theorem ne_end__shape : ((("end" : Str) = "shape")) = False := eq_false (by decide +kernel)
theorem ne_free_outlets___calls : ((("free_outlets" : Str) = "_calls")) = False := eq_false (by decide +kernel)
theorem ne_free_outlets__shape : ((("free_outlets" : Str) = "shape")) = False := eq_false (by decide +kernel)
theorem ne_has_outlet___calls : ((("has_outlet" : Str) = "_calls")) = False := eq_false (by decide +kernel)
theorem ne_has_outlet__shape : ((("has_outlet" : Str) = "shape")) = False := eq_false (by decide +kernel)
theorem ne_is_behind_free___calls : ((("is_behind_free" : Str) = "_calls")) = False := eq_false (by decide +kernel)
theorem ne_is_behind_free__shape : ((("is_behind_free" : Str) = "shape")) = False := eq_false (by decide +kernel)
theorem ne_is_blocked___calls : ((("is_blocked" : Str) = "_calls")) = False := eq_false (by decide +kernel)
theorem ne_is_blocked__shape : ((("is_blocked" : Str) = "shape")) = False := eq_false (by decide +kernel)
theorem ne_is_front_free___calls : ((("is_front_free" : Str) = "_calls")) = False := eq_false (by decide +kernel)
theorem ne_is_front_free__shape : ((("is_front_free" : Str) = "shape")) = False := eq_false (by decide +kernel)
theorem ne_look_at_ends___calls : ((("look_at_ends" : Str) = "_calls")) = False := eq_false (by decide +kernel)
theorem ne_look_at_ends__shape : ((("look_at_ends" : Str) = "shape")) = False := eq_false (by decide +kernel)
theorem ne_middles___calls : ((("middles" : Str) = "_calls")) = False := eq_false (by decide +kernel)
theorem ne_middles__shape : ((("middles" : Str) = "shape")) = False := eq_false (by decide +kernel)
theorem ne_shape____eq__ : ((("shape" : Str) = "__eq__")) = False := eq_false (by decide +kernel)
theorem ne_shape____init__ : ((("shape" : Str) = "__init__")) = False := eq_false (by decide +kernel)
theorem ne_shape___calls : ((("shape" : Str) = "_calls")) = False := eq_false (by decide +kernel)
theorem ne_shape__call : ((("shape" : Str) = "call")) = False := eq_false (by decide +kernel)
theorem ne_shape__calls : ((("shape" : Str) = "calls")) = False := eq_false (by decide +kernel)
theorem ne_shape__demand_ends : ((("shape" : Str) = "demand_ends")) = False := eq_false (by decide +kernel)
theorem ne_shape__end : ((("shape" : Str) = "end")) = False := eq_false (by decide +kernel)
theorem ne_shape__free_outlets : ((("shape" : Str) = "free_outlets")) = False := eq_false (by decide +kernel)
theorem ne_shape__has_outlet : ((("shape" : Str) = "has_outlet")) = False := eq_false (by decide +kernel)
theorem ne_shape__is_behind_free : ((("shape" : Str) = "is_behind_free")) = False := eq_false (by decide +kernel)
theorem ne_shape__is_blocked : ((("shape" : Str) = "is_blocked")) = False := eq_false (by decide +kernel)
theorem ne_shape__is_front_free : ((("shape" : Str) = "is_front_free")) = False := eq_false (by decide +kernel)
theorem ne_shape__look_at_ends : ((("shape" : Str) = "look_at_ends")) = False := eq_false (by decide +kernel)
theorem ne_shape__middles : ((("shape" : Str) = "middles")) = False := eq_false (by decide +kernel)
theorem ne_shape__twin : ((("shape" : Str) = "twin")) = False := eq_false (by decide +kernel)
theorem ne_shape__ways : ((("shape" : Str) = "ways")) = False := eq_false (by decide +kernel)
theorem ne_twin___calls : ((("twin" : Str) = "_calls")) = False := eq_false (by decide +kernel)
theorem ne_twin__shape : ((("twin" : Str) = "shape")) = False := eq_false (by decide +kernel)
theorem ne_ways___calls : ((("ways" : Str) = "_calls")) = False := eq_false (by decide +kernel)
theorem ne_ways__shape : ((("ways" : Str) = "shape")) = False := eq_false (by decide +kernel)
section
variable {w : World} {K : PySem.W.Frag} {mg : Str → Option Value} {base : Heap}
local macro_rules | `(tactic| simp! only [$xs,*]) => `(tactic| simp only [dVar, dC, dOp, dUn, dTest_eq, dAnd, dOr, dNot, dAndV_eq, dOrV_eq, dNotV_eq, dIf, dChain_eq, dNil, dCons, dTup, dLst, dLstM, dCB, dBM, dNoPart, dPart_eq, dSl, dCall, dCallK, dNext, dBrk, dCnt, dSeq, dDrop, dRet, dRetN, dIfS, γName, γNil, γCons, γSub, dAsg, dPar, dPar3, dAug, ιSeq_eq, ιZip, ιRng1_eq, ιRng2_eq, dFor, dLc, dLcM, dYes, dT, dTold, onBl_eq, onInt_eq, onSeq_lst, onSeq_tup, onSeq_str, onSome_eq, lstAt_same, dRaise, startD, List.map_cons, List.map_nil, List.length_cons, List.length_nil, List.replicate_succ, List.replicate_zero, List.cons_append, List.nil_append, List.append_nil, List.getElem?_cons_zero, List.getElem?_cons_succ, List.set_cons_zero, List.set_cons_succ, Nat.reduceAdd, Nat.reduceSub, Nat.zero_add, Nat.sub_self, ρEq_int, ρEq_str, ρEq_bl, ρNe_int, ρNe_str, ρNe_bl, ρEq_t3, ρNe_t3, ρEq_t2, ρNe_t2, intsOf_mapf, strsOf_mapf, blsOf_mapf, gK_01_0, gK_02_01, gK_02_10, gK_03_012, gK_03_021, gK_03_102, gK_03_120, gK_03_201, gK_03_210, gK_11_0, gK_12_01, gK_12_10, gK_13_012, gK_13_021, gK_13_102, gK_13_120, gK_13_201, gK_13_210, dLstRg, ρLstOM_eq, seqAt_lst, seqAt_tup, seqAt_ref, ρMulT_int, ρMulT_str, ρMulT_tup, ρInU_one, ρPopAt_ref, eq_self, Bool.not_true, Bool.not_false, decide_true, decide_false, strsOf_c0, strsOf_c1, strsOf_c2, strsOf_c3, strsOf_c4, strsOf_c5, strsOf_c6, strsOf_c7, strsOf_c8, intsOf_c0, intsOf_c1, intsOf_c2, intsOf_c3, intsOf_c4, intsOf_c5, intsOf_c6, intsOf_c7, intsOf_c8, blsOf_c0, blsOf_c1, blsOf_c2, blsOf_c3, blsOf_c4, blsOf_c5, blsOf_c6, blsOf_c7, blsOf_c8, ixN_30, ixN_31, ixN_32, wipeD, if_true, if_false, Bool.false_eq_true, Bool.true_eq_false, true_and, and_true, ρAdd_int, ρAdd_str, ρAdd_tup, ρAdd_lst, ρAdd_rl, ρI_int, ρI0_int, ρMul_int, ρMul_str, ρNeg_int, ρCmp_int, ρCmp_str, ρIsN_eq, ρNotN_eq, isNonD_bl, isNonD_int, isNonD_str, isNonD_tup, isNonD_lst, isNonD_ref, isNonD_non, ρSgn_one, ρAbs_int, ρMax_two, ρMin_two, ρMax_lst, ρMin_lst, ρInt_int, ρInt_bl, ρStr_int, ρLen_str, ρLen_tup, ρLen_lst, ρLen_ref, ρSum_lst, ρAll_lst, ρAny_lst, ρTupO_tup, ρTupO_lst, ρIsi_eq, is_non_int, is_non_bool, is_non_str, is_non_tuple, is_non_list, is_bl_int, is_bl_bool, is_bl_str, is_bl_tuple, is_bl_list, is_int_int, is_int_bool, is_int_str, is_int_tuple, is_int_list, is_str_int, is_str_bool, is_str_str, is_str_tuple, is_str_list, is_tup_int, is_tup_bool, is_tup_str, is_tup_tuple, is_tup_list, is_lst_int, is_lst_bool, is_lst_str, is_lst_tuple, is_lst_list, tyN_non, tyN_bl, tyN_int, tyN_str, tyN_tup, tyN_lst, ρIx_tup, ρIx_lst, ρIx_str, ρIx_ref, ρSl_str, ρSl_lst, ρSl_tup, ρApp_ref, θLst_ref, θStr_str, ςLst_ref, ρJoin_lst, γTup_tup, atI_0, atI_1, atI_2, atI_3, atI_4, atI_5, atI_6, atI_7, ρEqR_eq, ρNeR_eq, resD_non, resD_bl, resD_int, resD_str, resD_tup, resD_lst, eqA_nn, eqA_ii, eqA_bb, eqA_ss, eqA_ni, eqA_in, eqA_nb, eqA_bn, eqA_ns, eqA_sn, eqA_is, eqA_si, eqA_tt, eqA_ll, eqA_tl, eqA_lt, eqA_tn, eqA_nt, eqA_ti', eqA_it, eqA_ts, eqA_st, shB_non, shB_bl, shB_int, shB_str, shB_t63, shB_t62, shB_t61, shB_t60, shB_t59, shB_l63, shB_l62, shB_l61, shB_l60, shBs_nil, shBs_cons, shBs_append, shBs_ints, eqDs_nil, eqDs_cons, eqDs_cn, eqDs_nc, eqDs_ints, eqDs_strs, eqD_ii, eqD_bb, eqD_ss, eqD_tt, eqD_ll, eqD_nn, ρLstO_seq, ρTupO_ref, Option.isSome_some, dNewK, dNewT, dGetK, dGetT, dInK, dInT, dPutK, dPutT, dAugK, dAugT, dGet2K, dGet2T, dPop1K, onRef_eq, dkAt_same, dtAt_same, dkW_same, dtW_same, keyOf_int, keyOf_str, keysOf_ii, keysOf_iii, ιEnum_eq, onSq_tup, onSq_lst, ρLtV_int, ρLtV_str, ρLtV_tup, ρPop_ref, ρIdx_lst, dFld, dSFld, dSFldAug, dMeth, dMake, dMethK, dMakeK, dEqI, insAt_same, lkF_cons, lkF_nil, putFD_cons, putFD_nil, ρIsC_non, ρIsC_ref, ρLenD_eq, dSortIt, ρSortD_eq, ρMinD_eq, ρMaxD_eq, dMet, dTm, mem_h, mem_h2, onBool_eq, insOrNon, ρCopy_ref, ιItems, ιVals, ιKeys, lkW_same, dLockE, dLockS, ρCopyT_ref, ρInX_eq, itsD_tup, itsD_lst, itsD_ref, dStar, ρSortKI_ref, ρRemX_ref, dForM, dLcR, Cs_shape, Cs__calls, ne___eq_____calls, ne___eq____shape, ne___init_____calls, ne___init____shape, ne__calls____eq__, ne__calls____init__, ne__calls__call, ne__calls__calls, ne__calls__demand_ends, ne__calls__end, ne__calls__free_outlets, ne__calls__has_outlet, ne__calls__is_behind_free, ne__calls__is_blocked, ne__calls__is_front_free, ne__calls__look_at_ends, ne__calls__middles, ne__calls__shape, ne__calls__twin, ne__calls__ways, ne_call___calls, ne_call__shape, ne_calls___calls, ne_calls__shape, ne_demand_ends___calls, ne_demand_ends__shape, ne_end___calls, ne_end__shape, ne_free_outlets___calls, ne_free_outlets__shape, ne_has_outlet___calls, ne_has_outlet__shape, ne_is_behind_free___calls, ne_is_behind_free__shape, ne_is_blocked___calls, ne_is_blocked__shape, ne_is_front_free___calls, ne_is_front_free__shape, ne_look_at_ends___calls, ne_look_at_ends__shape, ne_middles___calls, ne_middles__shape, ne_shape____eq__, ne_shape____init__, ne_shape___calls, ne_shape__call, ne_shape__calls, ne_shape__demand_ends, ne_shape__end, ne_shape__free_outlets, ne_shape__has_outlet, ne_shape__is_behind_free, ne_shape__is_blocked, ne_shape__is_front_free, ne_shape__look_at_ends, ne_shape__middles, ne_shape__twin, ne_shape__ways, ne_twin___calls, ne_twin__shape, ne_ways___calls, ne_ways__shape, $xs,*])
local macro_rules | `(tactic| dsimp! only [$xs,*]) => `(tactic| simp only [dVar, dC, dOp, dUn, dTest_eq, dAnd, dOr, dNot, dAndV_eq, dOrV_eq, dNotV_eq, dIf, dChain_eq, dNil, dCons, dTup, dLst, dLstM, dCB, dBM, dNoPart, dPart_eq, dSl, dCall, dCallK, dNext, dBrk, dCnt, dDrop, dRet, dRetN, dIfS, γName, γNil, γCons, γSub, dAsg, dPar, dPar3, dAug, ιSeq_eq, ιZip, ιRng1_eq, ιRng2_eq, dFor, dLc, dLcM, dYes, dT, dTold, onBl_eq, onInt_eq, onSeq_lst, onSeq_tup, onSeq_str, onSome_eq, lstAt_same, dRaise, startD, List.map_cons, List.map_nil, List.length_cons, List.length_nil, List.replicate_succ, List.replicate_zero, List.cons_append, List.nil_append, List.append_nil, List.getElem?_cons_zero, List.getElem?_cons_succ, List.set_cons_zero, List.set_cons_succ, Nat.reduceAdd, Nat.reduceSub, Nat.zero_add, Nat.sub_self, ρEq_int, ρEq_str, ρEq_bl, ρNe_int, ρNe_str, ρNe_bl, ρEq_t3, ρNe_t3, ρEq_t2, ρNe_t2, intsOf_mapf, strsOf_mapf, blsOf_mapf, gK_01_0, gK_02_01, gK_02_10, gK_03_012, gK_03_021, gK_03_102, gK_03_120, gK_03_201, gK_03_210, gK_11_0, gK_12_01, gK_12_10, gK_13_012, gK_13_021, gK_13_102, gK_13_120, gK_13_201, gK_13_210, dLstRg, ρLstOM_eq, seqAt_lst, seqAt_tup, seqAt_ref, ρMulT_int, ρMulT_str, ρMulT_tup, ρInU_one, ρPopAt_ref, eq_self, Bool.not_true, Bool.not_false, decide_true, decide_false, strsOf_c0, strsOf_c1, strsOf_c2, strsOf_c3, strsOf_c4, strsOf_c5, strsOf_c6, strsOf_c7, strsOf_c8, intsOf_c0, intsOf_c1, intsOf_c2, intsOf_c3, intsOf_c4, intsOf_c5, intsOf_c6, intsOf_c7, intsOf_c8, blsOf_c0, blsOf_c1, blsOf_c2, blsOf_c3, blsOf_c4, blsOf_c5, blsOf_c6, blsOf_c7, blsOf_c8, ixN_30, ixN_31, ixN_32, wipeD, if_true, if_false, Bool.false_eq_true, Bool.true_eq_false, true_and, and_true, ρAdd_int, ρAdd_str, ρAdd_tup, ρAdd_lst, ρAdd_rl, ρI_int, ρI0_int, ρMul_int, ρMul_str, ρNeg_int, ρCmp_int, ρCmp_str, ρIsN_eq, ρNotN_eq, isNonD_bl, isNonD_int, isNonD_str, isNonD_tup, isNonD_lst, isNonD_ref, isNonD_non, ρSgn_one, ρAbs_int, ρMax_two, ρMin_two, ρMax_lst, ρMin_lst, ρInt_int, ρInt_bl, ρStr_int, ρLen_str, ρLen_tup, ρLen_lst, ρLen_ref, ρSum_lst, ρAll_lst, ρAny_lst, ρTupO_tup, ρTupO_lst, ρIsi_eq, is_non_int, is_non_bool, is_non_str, is_non_tuple, is_non_list, is_bl_int, is_bl_bool, is_bl_str, is_bl_tuple, is_bl_list, is_int_int, is_int_bool, is_int_str, is_int_tuple, is_int_list, is_str_int, is_str_bool, is_str_str, is_str_tuple, is_str_list, is_tup_int, is_tup_bool, is_tup_str, is_tup_tuple, is_tup_list, is_lst_int, is_lst_bool, is_lst_str, is_lst_tuple, is_lst_list, tyN_non, tyN_bl, tyN_int, tyN_str, tyN_tup, tyN_lst, ρIx_tup, ρIx_lst, ρIx_str, ρIx_ref, ρSl_str, ρSl_lst, ρSl_tup, ρApp_ref, θLst_ref, θStr_str, ςLst_ref, ρJoin_lst, γTup_tup, atI_0, atI_1, atI_2, atI_3, atI_4, atI_5, atI_6, atI_7, ρEqR_eq, ρNeR_eq, resD_non, resD_bl, resD_int, resD_str, resD_tup, resD_lst, eqA_nn, eqA_ii, eqA_bb, eqA_ss, eqA_ni, eqA_in, eqA_nb, eqA_bn, eqA_ns, eqA_sn, eqA_is, eqA_si, eqA_tt, eqA_ll, eqA_tl, eqA_lt, eqA_tn, eqA_nt, eqA_ti', eqA_it, eqA_ts, eqA_st, shB_non, shB_bl, shB_int, shB_str, shB_t63, shB_t62, shB_t61, shB_t60, shB_t59, shB_l63, shB_l62, shB_l61, shB_l60, shBs_nil, shBs_cons, shBs_append, shBs_ints, eqDs_nil, eqDs_cons, eqDs_cn, eqDs_nc, eqDs_ints, eqDs_strs, eqD_ii, eqD_bb, eqD_ss, eqD_tt, eqD_ll, eqD_nn, ρLstO_seq, ρTupO_ref, Option.isSome_some, dNewK, dNewT, dGetK, dGetT, dInK, dInT, dPutK, dPutT, dAugK, dAugT, dGet2K, dGet2T, dPop1K, onRef_eq, dkAt_same, dtAt_same, dkW_same, dtW_same, keyOf_int, keyOf_str, keysOf_ii, keysOf_iii, ιEnum_eq, onSq_tup, onSq_lst, ρLtV_int, ρLtV_str, ρLtV_tup, ρPop_ref, ρIdx_lst, dFld, dSFld, dSFldAug, dMeth, dMake, dMethK, dMakeK, dEqI, insAt_same, lkF_cons, lkF_nil, putFD_cons, putFD_nil, ρIsC_non, ρIsC_ref, ρLenD_eq, dSortIt, ρSortD_eq, ρMinD_eq, ρMaxD_eq, dMet, dTm, mem_h, mem_h2, onBool_eq, insOrNon, ρCopy_ref, ιItems, ιVals, ιKeys, lkW_same, dLockE, dLockS, ρCopyT_ref, ρInX_eq, itsD_tup, itsD_lst, itsD_ref, dStar, ρSortKI_ref, ρRemX_ref, dForM, dLcR, Cs_shape, Cs__calls, ne___eq_____calls, ne___eq____shape, ne___init_____calls, ne___init____shape, ne__calls____eq__, ne__calls____init__, ne__calls__call, ne__calls__calls, ne__calls__demand_ends, ne__calls__end, ne__calls__free_outlets, ne__calls__has_outlet, ne__calls__is_behind_free, ne__calls__is_blocked, ne__calls__is_front_free, ne__calls__look_at_ends, ne__calls__middles, ne__calls__shape, ne__calls__twin, ne__calls__ways, ne_call___calls, ne_call__shape, ne_calls___calls, ne_calls__shape, ne_demand_ends___calls, ne_demand_ends__shape, ne_end___calls, ne_end__shape, ne_free_outlets___calls, ne_free_outlets__shape, ne_has_outlet___calls, ne_has_outlet__shape, ne_is_behind_free___calls, ne_is_behind_free__shape, ne_is_blocked___calls, ne_is_blocked__shape, ne_is_front_free___calls, ne_is_front_free__shape, ne_look_at_ends___calls, ne_look_at_ends__shape, ne_middles___calls, ne_middles__shape, ne_shape____eq__, ne_shape____init__, ne_shape___calls, ne_shape__call, ne_shape__calls, ne_shape__demand_ends, ne_shape__end, ne_shape__free_outlets, ne_shape__has_outlet, ne_shape__is_behind_free, ne_shape__is_blocked, ne_shape__is_front_free, ne_shape__look_at_ends, ne_shape__middles, ne_shape__twin, ne_shape__ways, ne_twin___calls, ne_twin__shape, ne_ways___calls, ne_ways__shape, $xs,*])
theorem fld_shape (M : Mod K mg) : ∀ C ∈ Cs_shape K, Cls K C ∧ NoAttr K C "shape" := fun C hC => by
  simp only [Cs_shape, List.mem_cons, List.not_mem_nil, or_false] at hC
  rcases hC with rfl
  · exact ⟨M.cl_Fabric, M.na_Fabric_shape⟩
theorem fld__calls (M : Mod K mg) : ∀ C ∈ Cs__calls K, Cls K C ∧ NoAttr K C "_calls" := fun C hC => by
  simp only [Cs__calls, List.mem_cons, List.not_mem_nil, or_false] at hC
  rcases hC with rfl
  · exact ⟨M.cl_Fabric, M.na_Fabric__calls⟩
theorem sz1000 {n : Nat} (h : n ≤ 1000) : n ≤ sizeLine := by rw [sizeLine_eq]; omega
theorem sz6 {n : Nat} (h : n ≤ 1000) : n ≤ sizeLine := sz1000 h
theorem szn {n : Nat} (h : n ≤ 1000 := by decide) : n ≤ sizeLine := sz1000 h
theorem mul_ok {i j : Int} (h : 0 ≤ i ∧ i ≤ 1000000) : CMul i j := .inl ⟨by omega, by omega⟩
theorem mul_okr {i j : Int} (h : 0 ≤ j ∧ j ≤ 1000000) : CMul i j := .inr ⟨by omega, by omega⟩
theorem div_ok {i j : Int} (h : 0 < j ∧ j ≤ 1000000) : CDiv i j := ⟨h.1, by omega⟩
def isInD (v : D) (lo hi : Int) : Bool := match v with
  | .int i => decide (lo ≤ i) && decide (i ≤ hi)
  | _ => false
theorem isInD_int {v : D} {lo hi : Int} (h : isInD v lo hi = true) : ∃ i, v = .int i ∧ lo ≤ i ∧ i ≤ hi := by
  cases v <;> first | (cases h; done) | skip
  rename_i i
  simp only [isInD, Bool.and_eq_true, decide_eq_true_eq] at h
  exact ⟨i, rfl, h.1, h.2⟩
theorem isIn_of {s lo hi : Int} (h : lo ≤ s ∧ s ≤ hi) : isInD (.int s) lo hi = true := by simp only [isInD, h.1, h.2, decide_true, Bool.and_true]
def isTupD (v : D) (lo hi : Int) : Bool := match v with
  | .tup xs => decide (lo ≤ (xs.length : Nat)) && decide (((xs.length : Nat) : Int) ≤ hi)
  | _ => false
theorem if_two {η : DT} {ε ζ : DS} {Z : TD → Sl → Prop} {F : EndsD} {τ : TD} {ds : Sl} (h : Z τ ds → dIfS η ε ζ { F with nx := Z } τ ds) (hc : Z τ ds) : dIfS η ε ζ { F with nx := Z } τ ds := h hc
theorem not_rfl {α : Type} [DecidableEq α] (a : α) : (!decide (a = a)) = false := by simp
abbrev bad (K : PySem.W.Frag) (KE : XD) (τ : TD) (s : Str) : Prop := KE τ (He.ga K "BadArgument") "name" (.str s)
theorem isIn_not {s lo hi : Int} (h : ¬ (lo ≤ s ∧ s ≤ hi)) : isInD (.int s) lo hi = false := by
  simp only [isInD, Bool.and_eq_false_iff, decide_eq_false_iff_not]
  omega
/-! ### is_in -/
theorem sc_is_in : FnScope ["value", "low", "high"] ["value", "low", "high"] (defScope s_is_in) := ⟨rfl, rfl, rfl, by decide +kernel, rfl, by decide +kernel, by decide +kernel⟩
theorem bn_is_in (M : Mod K mg) : L2.Binds K M.f_is_in.choose ["value", "low", "high"] [] := fun_binds M.f_is_in.choose_spec fun _ _ _ _ _ _ us hl => match us, hl with | [_, _, _], _ => rfl
def sp_is_in : SpD := fun τ ds k KE => match ds with
  | [v, .int lo, .int hi] => ((tyN v).isSome = true) ∧ k τ (.bl (isInD v lo hi))
  | _ => False
theorem sp_is_in_eq {τ : TD} {k : DK} {KE : XD} {v : D} {lo hi : Int} : sp_is_in τ [v, .int lo, .int hi] k KE = (((tyN v).isSome = true) ∧ k τ (.bl (isInD v lo hi))) := rfl
theorem ok_is_in (M : Mod K mg) : FnD prog w K mg base (TT K) 2 (He.fAd K ("is_in", none)) M.f_is_in.choose ["value", "low", "high"] sp_is_in := by
  refine fnD_of M.f_is_in.choose_spec sc_is_in fun KE => ⟨_, fun cdv A outer s H E hr => (pdss_one (pds_ret (pd_and (pd_callB call_isi ok_isi rfl M.b_isinstance boot_isinstance (pda_cons (pd_var (pv 0)) (pda_cons (pd_bltn rfl M.b_int boot_int) pda_nil))) (pd_and (pd_not (pd_callB call_isi ok_isi rfl M.b_isinstance boot_isinstance (pda_cons (pd_var (pv 0)) (pda_cons (pd_bltn rfl M.b_bool boot_bool) pda_nil)))) (pd_one (pd_chain op_leU op_leU ok_cmp ok_cmp (pd_var (pv 1)) (pd_var (pv 0)) (pd_var (pv 2)) (nomark _) (nomark _) fun _ _ _ h1 h2 h3 => pe_chain op_leU op_leU h1 h2 h3)))))), ?_⟩
  intro τ ds k hl h
  unfold sp_is_in at h
  split at h
  case h_2 => exact h.elim
  rename_i v lo hi
  obtain ⟨hv, hk⟩ := h
  simp! only [true_and, sp_is_in_eq]
  cases v <;> (try simp! only [true_and, sp_is_in_eq, Bool.not_true, Bool.not_false]) <;> first | exact Fin.same hk | (cases hv; done) | skip
  rename_i i
  by_cases h1 : lo ≤ i
  · simp only [h1, decide_true, if_true]
    refine Fin.same ?_
    simpa only [isInD, h1, decide_true, Bool.true_and] using hk
  · simp only [h1, decide_false, Bool.false_eq_true, if_false]
    refine Fin.same ?_
    simpa only [isInD, h1, decide_false, Bool.false_and] using hk
/-! ### is_tuple -/
theorem sc_is_tuple : FnScope ["value", "least", "most"] ["value", "least", "most"] (defScope s_is_tuple) := ⟨rfl, rfl, rfl, by decide +kernel, rfl, by decide +kernel, by decide +kernel⟩
theorem bn_is_tuple (M : Mod K mg) : L2.Binds K M.f_is_tuple.choose ["value", "least", "most"] [] := fun_binds M.f_is_tuple.choose_spec fun _ _ _ _ _ _ us hl => match us, hl with | [_, _, _], _ => rfl
def sp_is_tuple : SpD := fun τ ds k KE => match ds with
  | [v, .int lo, .int hi] => ((tyN v).isSome = true) ∧ k τ (.bl (isTupD v lo hi))
  | _ => False
theorem sp_is_tuple_eq {τ : TD} {k : DK} {KE : XD} {v : D} {lo hi : Int} : sp_is_tuple τ [v, .int lo, .int hi] k KE = (((tyN v).isSome = true) ∧ k τ (.bl (isTupD v lo hi))) := rfl
theorem ok_is_tuple (M : Mod K mg) : FnD prog w K mg base (TT K) 2 (He.fAd K ("is_tuple", none)) M.f_is_tuple.choose ["value", "least", "most"] sp_is_tuple := by
  refine fnD_of M.f_is_tuple.choose_spec sc_is_tuple fun KE => ⟨_, fun cdv A outer s H E hr => (pdss_one (pds_ret (pd_and (pd_callB call_isi ok_isi rfl M.b_isinstance boot_isinstance (pda_cons (pd_var (pv 0)) (pda_cons (pd_bltn rfl M.b_tuple boot_tuple) pda_nil))) (pd_one (pd_chain op_leU op_leU ok_cmp ok_cmp (pd_var (pv 1)) (pd_callB cr_len ok_len rfl M.b_len boot_len (pda_cons (pd_var (pv 0)) pda_nil)) (pd_var (pv 2)) (nomark _) (nomark _) fun _ _ _ h1 h2 h3 => pe_chain op_leU op_leU h1 h2 h3))))), ?_⟩
  intro τ ds k hl h
  unfold sp_is_tuple at h
  split at h
  case h_2 => exact h.elim
  rename_i v lo hi
  obtain ⟨hv, hk⟩ := h
  simp! only [true_and, sp_is_in_eq, sp_is_tuple_eq]
  cases v <;> (try simp! only [true_and, sp_is_in_eq, sp_is_tuple_eq]) <;> first | exact Fin.same hk | (cases hv; done) | skip
  rename_i xs
  by_cases h1 : lo ≤ (xs.length : Nat)
  · simp only [h1, decide_true, if_true]
    refine Fin.same ?_
    simpa only [isTupD, h1, decide_true, Bool.true_and] using hk
  · simp only [h1, decide_false, Bool.false_eq_true, if_false]
    refine Fin.same ?_
    simpa only [isTupD, h1, decide_false, Bool.false_and] using hk
/-! ### demand -/
theorem sc_demand : FnScope ["is_good", "name"] ["is_good", "name"] (defScope s_demand) := ⟨rfl, rfl, rfl, by decide +kernel, rfl, by decide +kernel, by decide +kernel⟩
theorem bn_demand (M : Mod K mg) : L2.Binds K M.f_demand.choose ["is_good", "name"] [] := fun_binds M.f_demand.choose_spec fun _ _ _ _ _ _ us hl => match us, hl with | [_, _], _ => rfl
def sp_demand (K : PySem.W.Frag) : SpD := fun τ ds k KE => match ds with
  | [.bl b, .str n] => if b = true then k τ .non else KE τ (He.ga K "BadArgument") "name" (.str n)
  | _ => False
theorem sp_demand_eq (K : PySem.W.Frag) {τ : TD} {k : DK} {KE : XD} {b : Bool} {n : Str} : sp_demand K τ [.bl b, .str n] k KE = (if b = true then k τ .non else KE τ (He.ga K "BadArgument") "name" (.str n)) := rfl
theorem ok_demand (M : Mod K mg) : FnD prog w K mg base (TT K) 2 (He.fAd K ("demand", none)) M.f_demand.choose ["is_good", "name"] (sp_demand K) := by
  refine fnD_of M.f_demand.choose_spec sc_demand fun KE => ⟨_, fun cdv A outer s H E hr => (pdss_one (pds_if (pdt_not (pdt_val (pd_var (pv 0)))) (pdss_one (pds_raise rfl .name M.e_BadArgument hr takeD rfl (pda_cons (pd_var (pv 1)) pda_nil))) pdss_nil)), ?_⟩
  intro τ ds k hl h
  unfold sp_demand at h
  split at h
  case h_2 => exact h.elim
  rename_i b n
  simp! only [true_and, sp_is_in_eq, sp_is_tuple_eq, sp_demand_eq]
  cases b
  · simp only [Bool.not_false, if_true]
    simp only [Bool.false_eq_true, if_false] at h
    exact FinX.same h
  · simp only [Bool.not_true, Bool.false_eq_true, if_false]
    exact Fin.same h
end
end LW

set_option Elab.async false
set_option linter.all false
set_option maxRecDepth 100000
set_option maxHeartbeats 0
namespace LW
open PySem PySem.Spec PyProof.Rows L2 DL DX
section
variable {w : World} {K : PySem.W.Frag} {mg : Str → Option Value} {base : Heap}
local macro_rules | `(tactic| simp! only [$xs,*]) => `(tactic| simp only [dVar, dC, dOp, dUn, dTest_eq, dAnd, dOr, dNot, dAndV_eq, dOrV_eq, dNotV_eq, dIf, dChain_eq, dNil, dCons, dTup, dLst, dLstM, dCB, dBM, dNoPart, dPart_eq, dSl, dCall, dCallK, dNext, dBrk, dCnt, dSeq, dDrop, dRet, dRetN, dIfS, γName, γNil, γCons, γSub, dAsg, dPar, dPar3, dAug, ιSeq_eq, ιZip, ιRng1_eq, ιRng2_eq, dFor, dLc, dLcM, dYes, dT, dTold, onBl_eq, onInt_eq, onSeq_lst, onSeq_tup, onSeq_str, onSome_eq, lstAt_same, dRaise, startD, List.map_cons, List.map_nil, List.length_cons, List.length_nil, List.replicate_succ, List.replicate_zero, List.cons_append, List.nil_append, List.append_nil, List.getElem?_cons_zero, List.getElem?_cons_succ, List.set_cons_zero, List.set_cons_succ, Nat.reduceAdd, Nat.reduceSub, Nat.zero_add, Nat.sub_self, ρEq_int, ρEq_str, ρEq_bl, ρNe_int, ρNe_str, ρNe_bl, ρEq_t3, ρNe_t3, ρEq_t2, ρNe_t2, intsOf_mapf, strsOf_mapf, blsOf_mapf, gK_01_0, gK_02_01, gK_02_10, gK_03_012, gK_03_021, gK_03_102, gK_03_120, gK_03_201, gK_03_210, gK_11_0, gK_12_01, gK_12_10, gK_13_012, gK_13_021, gK_13_102, gK_13_120, gK_13_201, gK_13_210, dLstRg, ρLstOM_eq, seqAt_lst, seqAt_tup, seqAt_ref, ρMulT_int, ρMulT_str, ρMulT_tup, ρInU_one, ρPopAt_ref, eq_self, Bool.not_true, Bool.not_false, decide_true, decide_false, strsOf_c0, strsOf_c1, strsOf_c2, strsOf_c3, strsOf_c4, strsOf_c5, strsOf_c6, strsOf_c7, strsOf_c8, intsOf_c0, intsOf_c1, intsOf_c2, intsOf_c3, intsOf_c4, intsOf_c5, intsOf_c6, intsOf_c7, intsOf_c8, blsOf_c0, blsOf_c1, blsOf_c2, blsOf_c3, blsOf_c4, blsOf_c5, blsOf_c6, blsOf_c7, blsOf_c8, ixN_30, ixN_31, ixN_32, wipeD, if_true, if_false, Bool.false_eq_true, Bool.true_eq_false, true_and, and_true, ρAdd_int, ρAdd_str, ρAdd_tup, ρAdd_lst, ρAdd_rl, ρI_int, ρI0_int, ρMul_int, ρMul_str, ρNeg_int, ρCmp_int, ρCmp_str, ρIsN_eq, ρNotN_eq, isNonD_bl, isNonD_int, isNonD_str, isNonD_tup, isNonD_lst, isNonD_ref, isNonD_non, ρSgn_one, ρAbs_int, ρMax_two, ρMin_two, ρMax_lst, ρMin_lst, ρInt_int, ρInt_bl, ρStr_int, ρLen_str, ρLen_tup, ρLen_lst, ρLen_ref, ρSum_lst, ρAll_lst, ρAny_lst, ρTupO_tup, ρTupO_lst, ρIsi_eq, is_non_int, is_non_bool, is_non_str, is_non_tuple, is_non_list, is_bl_int, is_bl_bool, is_bl_str, is_bl_tuple, is_bl_list, is_int_int, is_int_bool, is_int_str, is_int_tuple, is_int_list, is_str_int, is_str_bool, is_str_str, is_str_tuple, is_str_list, is_tup_int, is_tup_bool, is_tup_str, is_tup_tuple, is_tup_list, is_lst_int, is_lst_bool, is_lst_str, is_lst_tuple, is_lst_list, tyN_non, tyN_bl, tyN_int, tyN_str, tyN_tup, tyN_lst, ρIx_tup, ρIx_lst, ρIx_str, ρIx_ref, ρSl_str, ρSl_lst, ρSl_tup, ρApp_ref, θLst_ref, θStr_str, ςLst_ref, ρJoin_lst, γTup_tup, atI_0, atI_1, atI_2, atI_3, atI_4, atI_5, atI_6, atI_7, ρEqR_eq, ρNeR_eq, resD_non, resD_bl, resD_int, resD_str, resD_tup, resD_lst, eqA_nn, eqA_ii, eqA_bb, eqA_ss, eqA_ni, eqA_in, eqA_nb, eqA_bn, eqA_ns, eqA_sn, eqA_is, eqA_si, eqA_tt, eqA_ll, eqA_tl, eqA_lt, eqA_tn, eqA_nt, eqA_ti', eqA_it, eqA_ts, eqA_st, shB_non, shB_bl, shB_int, shB_str, shB_t63, shB_t62, shB_t61, shB_t60, shB_t59, shB_l63, shB_l62, shB_l61, shB_l60, shBs_nil, shBs_cons, shBs_append, shBs_ints, eqDs_nil, eqDs_cons, eqDs_cn, eqDs_nc, eqDs_ints, eqDs_strs, eqD_ii, eqD_bb, eqD_ss, eqD_tt, eqD_ll, eqD_nn, ρLstO_seq, ρTupO_ref, Option.isSome_some, dNewK, dNewT, dGetK, dGetT, dInK, dInT, dPutK, dPutT, dAugK, dAugT, dGet2K, dGet2T, dPop1K, onRef_eq, dkAt_same, dtAt_same, dkW_same, dtW_same, keyOf_int, keyOf_str, keysOf_ii, keysOf_iii, ιEnum_eq, onSq_tup, onSq_lst, ρLtV_int, ρLtV_str, ρLtV_tup, ρPop_ref, ρIdx_lst, dFld, dSFld, dSFldAug, dMeth, dMake, dMethK, dMakeK, dEqI, insAt_same, lkF_cons, lkF_nil, putFD_cons, putFD_nil, ρIsC_non, ρIsC_ref, ρLenD_eq, dSortIt, ρSortD_eq, ρMinD_eq, ρMaxD_eq, dMet, dTm, mem_h, mem_h2, onBool_eq, insOrNon, ρCopy_ref, ιItems, ιVals, ιKeys, lkW_same, dLockE, dLockS, ρCopyT_ref, ρInX_eq, itsD_tup, itsD_lst, itsD_ref, dStar, ρSortKI_ref, ρRemX_ref, dForM, dLcR, Cs_shape, Cs__calls, ne___eq_____calls, ne___eq____shape, ne___init_____calls, ne___init____shape, ne__calls____eq__, ne__calls____init__, ne__calls__call, ne__calls__calls, ne__calls__demand_ends, ne__calls__end, ne__calls__free_outlets, ne__calls__has_outlet, ne__calls__is_behind_free, ne__calls__is_blocked, ne__calls__is_front_free, ne__calls__look_at_ends, ne__calls__middles, ne__calls__shape, ne__calls__twin, ne__calls__ways, ne_call___calls, ne_call__shape, ne_calls___calls, ne_calls__shape, ne_demand_ends___calls, ne_demand_ends__shape, ne_end___calls, ne_end__shape, ne_free_outlets___calls, ne_free_outlets__shape, ne_has_outlet___calls, ne_has_outlet__shape, ne_is_behind_free___calls, ne_is_behind_free__shape, ne_is_blocked___calls, ne_is_blocked__shape, ne_is_front_free___calls, ne_is_front_free__shape, ne_look_at_ends___calls, ne_look_at_ends__shape, ne_middles___calls, ne_middles__shape, ne_shape____eq__, ne_shape____init__, ne_shape___calls, ne_shape__call, ne_shape__calls, ne_shape__demand_ends, ne_shape__end, ne_shape__free_outlets, ne_shape__has_outlet, ne_shape__is_behind_free, ne_shape__is_blocked, ne_shape__is_front_free, ne_shape__look_at_ends, ne_shape__middles, ne_shape__twin, ne_shape__ways, ne_twin___calls, ne_twin__shape, ne_ways___calls, ne_ways__shape, sp_is_in_eq, sp_is_tuple_eq, sp_demand_eq, $xs,*])
local macro_rules | `(tactic| dsimp! only [$xs,*]) => `(tactic| simp only [dVar, dC, dOp, dUn, dTest_eq, dAnd, dOr, dNot, dAndV_eq, dOrV_eq, dNotV_eq, dIf, dChain_eq, dNil, dCons, dTup, dLst, dLstM, dCB, dBM, dNoPart, dPart_eq, dSl, dCall, dCallK, dNext, dBrk, dCnt, dDrop, dRet, dRetN, dIfS, γName, γNil, γCons, γSub, dAsg, dPar, dPar3, dAug, ιSeq_eq, ιZip, ιRng1_eq, ιRng2_eq, dFor, dLc, dLcM, dYes, dT, dTold, onBl_eq, onInt_eq, onSeq_lst, onSeq_tup, onSeq_str, onSome_eq, lstAt_same, dRaise, startD, List.map_cons, List.map_nil, List.length_cons, List.length_nil, List.replicate_succ, List.replicate_zero, List.cons_append, List.nil_append, List.append_nil, List.getElem?_cons_zero, List.getElem?_cons_succ, List.set_cons_zero, List.set_cons_succ, Nat.reduceAdd, Nat.reduceSub, Nat.zero_add, Nat.sub_self, ρEq_int, ρEq_str, ρEq_bl, ρNe_int, ρNe_str, ρNe_bl, ρEq_t3, ρNe_t3, ρEq_t2, ρNe_t2, intsOf_mapf, strsOf_mapf, blsOf_mapf, gK_01_0, gK_02_01, gK_02_10, gK_03_012, gK_03_021, gK_03_102, gK_03_120, gK_03_201, gK_03_210, gK_11_0, gK_12_01, gK_12_10, gK_13_012, gK_13_021, gK_13_102, gK_13_120, gK_13_201, gK_13_210, dLstRg, ρLstOM_eq, seqAt_lst, seqAt_tup, seqAt_ref, ρMulT_int, ρMulT_str, ρMulT_tup, ρInU_one, ρPopAt_ref, eq_self, Bool.not_true, Bool.not_false, decide_true, decide_false, strsOf_c0, strsOf_c1, strsOf_c2, strsOf_c3, strsOf_c4, strsOf_c5, strsOf_c6, strsOf_c7, strsOf_c8, intsOf_c0, intsOf_c1, intsOf_c2, intsOf_c3, intsOf_c4, intsOf_c5, intsOf_c6, intsOf_c7, intsOf_c8, blsOf_c0, blsOf_c1, blsOf_c2, blsOf_c3, blsOf_c4, blsOf_c5, blsOf_c6, blsOf_c7, blsOf_c8, ixN_30, ixN_31, ixN_32, wipeD, if_true, if_false, Bool.false_eq_true, Bool.true_eq_false, true_and, and_true, ρAdd_int, ρAdd_str, ρAdd_tup, ρAdd_lst, ρAdd_rl, ρI_int, ρI0_int, ρMul_int, ρMul_str, ρNeg_int, ρCmp_int, ρCmp_str, ρIsN_eq, ρNotN_eq, isNonD_bl, isNonD_int, isNonD_str, isNonD_tup, isNonD_lst, isNonD_ref, isNonD_non, ρSgn_one, ρAbs_int, ρMax_two, ρMin_two, ρMax_lst, ρMin_lst, ρInt_int, ρInt_bl, ρStr_int, ρLen_str, ρLen_tup, ρLen_lst, ρLen_ref, ρSum_lst, ρAll_lst, ρAny_lst, ρTupO_tup, ρTupO_lst, ρIsi_eq, is_non_int, is_non_bool, is_non_str, is_non_tuple, is_non_list, is_bl_int, is_bl_bool, is_bl_str, is_bl_tuple, is_bl_list, is_int_int, is_int_bool, is_int_str, is_int_tuple, is_int_list, is_str_int, is_str_bool, is_str_str, is_str_tuple, is_str_list, is_tup_int, is_tup_bool, is_tup_str, is_tup_tuple, is_tup_list, is_lst_int, is_lst_bool, is_lst_str, is_lst_tuple, is_lst_list, tyN_non, tyN_bl, tyN_int, tyN_str, tyN_tup, tyN_lst, ρIx_tup, ρIx_lst, ρIx_str, ρIx_ref, ρSl_str, ρSl_lst, ρSl_tup, ρApp_ref, θLst_ref, θStr_str, ςLst_ref, ρJoin_lst, γTup_tup, atI_0, atI_1, atI_2, atI_3, atI_4, atI_5, atI_6, atI_7, ρEqR_eq, ρNeR_eq, resD_non, resD_bl, resD_int, resD_str, resD_tup, resD_lst, eqA_nn, eqA_ii, eqA_bb, eqA_ss, eqA_ni, eqA_in, eqA_nb, eqA_bn, eqA_ns, eqA_sn, eqA_is, eqA_si, eqA_tt, eqA_ll, eqA_tl, eqA_lt, eqA_tn, eqA_nt, eqA_ti', eqA_it, eqA_ts, eqA_st, shB_non, shB_bl, shB_int, shB_str, shB_t63, shB_t62, shB_t61, shB_t60, shB_t59, shB_l63, shB_l62, shB_l61, shB_l60, shBs_nil, shBs_cons, shBs_append, shBs_ints, eqDs_nil, eqDs_cons, eqDs_cn, eqDs_nc, eqDs_ints, eqDs_strs, eqD_ii, eqD_bb, eqD_ss, eqD_tt, eqD_ll, eqD_nn, ρLstO_seq, ρTupO_ref, Option.isSome_some, dNewK, dNewT, dGetK, dGetT, dInK, dInT, dPutK, dPutT, dAugK, dAugT, dGet2K, dGet2T, dPop1K, onRef_eq, dkAt_same, dtAt_same, dkW_same, dtW_same, keyOf_int, keyOf_str, keysOf_ii, keysOf_iii, ιEnum_eq, onSq_tup, onSq_lst, ρLtV_int, ρLtV_str, ρLtV_tup, ρPop_ref, ρIdx_lst, dFld, dSFld, dSFldAug, dMeth, dMake, dMethK, dMakeK, dEqI, insAt_same, lkF_cons, lkF_nil, putFD_cons, putFD_nil, ρIsC_non, ρIsC_ref, ρLenD_eq, dSortIt, ρSortD_eq, ρMinD_eq, ρMaxD_eq, dMet, dTm, mem_h, mem_h2, onBool_eq, insOrNon, ρCopy_ref, ιItems, ιVals, ιKeys, lkW_same, dLockE, dLockS, ρCopyT_ref, ρInX_eq, itsD_tup, itsD_lst, itsD_ref, dStar, ρSortKI_ref, ρRemX_ref, dForM, dLcR, Cs_shape, Cs__calls, ne___eq_____calls, ne___eq____shape, ne___init_____calls, ne___init____shape, ne__calls____eq__, ne__calls____init__, ne__calls__call, ne__calls__calls, ne__calls__demand_ends, ne__calls__end, ne__calls__free_outlets, ne__calls__has_outlet, ne__calls__is_behind_free, ne__calls__is_blocked, ne__calls__is_front_free, ne__calls__look_at_ends, ne__calls__middles, ne__calls__shape, ne__calls__twin, ne__calls__ways, ne_call___calls, ne_call__shape, ne_calls___calls, ne_calls__shape, ne_demand_ends___calls, ne_demand_ends__shape, ne_end___calls, ne_end__shape, ne_free_outlets___calls, ne_free_outlets__shape, ne_has_outlet___calls, ne_has_outlet__shape, ne_is_behind_free___calls, ne_is_behind_free__shape, ne_is_blocked___calls, ne_is_blocked__shape, ne_is_front_free___calls, ne_is_front_free__shape, ne_look_at_ends___calls, ne_look_at_ends__shape, ne_middles___calls, ne_middles__shape, ne_shape____eq__, ne_shape____init__, ne_shape___calls, ne_shape__call, ne_shape__calls, ne_shape__demand_ends, ne_shape__end, ne_shape__free_outlets, ne_shape__has_outlet, ne_shape__is_behind_free, ne_shape__is_blocked, ne_shape__is_front_free, ne_shape__look_at_ends, ne_shape__middles, ne_shape__twin, ne_shape__ways, ne_twin___calls, ne_twin__shape, ne_ways___calls, ne_ways__shape, sp_is_in_eq, sp_is_tuple_eq, sp_demand_eq, $xs,*])
/-! ### is_shape -/
theorem sc_is_shape : FnScope ["value"] ["value"] (defScope s_is_shape) := ⟨rfl, rfl, rfl, by decide +kernel, rfl, by decide +kernel, by decide +kernel⟩
theorem bn_is_shape (M : Mod K mg) : L2.Binds K M.f_is_shape.choose ["value"] [] := fun_binds M.f_is_shape.choose_spec fun _ _ _ _ _ _ us hl => match us, hl with | [_], _ => rfl
theorem fm_some {α β : Type} (h : α → β) (l : List α) : (l.filterMap fun c => some (h c)) = l.map h := by
  induction l with
  | nil => rfl
  | cons a l ih => rw [List.filterMap_cons, ih]; rfl
structure Shp where
  n : Int
  m : Int
  r : Int
  deriving DecidableEq
def shD (s : Shp) : D := .tup [.int s.n, .int s.m, .int s.r]
structure Shp.Ok (s : Shp) : Prop where
  n : 1 ≤ s.n ∧ s.n ≤ 8
  m : 1 ≤ s.m ∧ s.m ≤ 20
  r : 1 ≤ s.r ∧ s.r ≤ 8
abbrev Shp.ends (s : Shp) : Int := s.n * s.r
theorem Shp.Ok.e {s : Shp} (ok : s.Ok) : 1 ≤ s.ends ∧ s.ends ≤ 64 := by
  obtain ⟨⟨a, b⟩, _, c, d⟩ := ok
  constructor
  · exact Int.le_trans (by decide) (Int.mul_le_mul a c (by decide) (by omega))
  · exact Int.le_trans (Int.mul_le_mul b d (by omega) (by decide)) (by decide)
def isShD (v : D) : Bool := isTupD v 3 3 && match v with
  | .tup [a, b, c] => isInD a 1 8 && isInD b 1 20 && isInD c 1 8
  | _ => false
theorem isShD_ok {s : Shp} (ok : s.Ok) : isShD (shD s) = true := by
  unfold isShD shD isTupD
  simp [isIn_of ok.n, isIn_of ok.m, isIn_of ok.r]
def tyT (v : D) : Bool := (tyN v).isSome && match v with
  | .tup xs => xs.all fun x => (tyN x).isSome
  | _ => true
def sp_is_shape : SpD := fun τ ds k KE => ∃ (v : D), ds = [v] ∧ (tyT v = true ∧ k τ (.bl (isShD v)))
theorem sp_is_shape_of {τ : TD} {k : DK} {KE : XD} {v : D} (h_ : tyT v = true ∧ k τ (.bl (isShD v))) : sp_is_shape τ [v] k KE := ⟨_, rfl, h_⟩
theorem ok_is_shape (M : Mod K mg) : FnD prog w K mg base (TT K) 3 (He.fAd K ("is_shape", none)) M.f_is_shape.choose ["value"] sp_is_shape := by
  refine fnD_of M.f_is_shape.choose_spec sc_is_shape fun KE => ⟨_, fun cdv A outer s H E hr => (pdss_cons (pds_if (PDW.pt (pdw_or (pdt_not (pdt_val (pd_call (ok_is_tuple M) (hr.mono (by decide)) rfl M.g_is_tuple M.f_is_tuple.choose_spec.kp (bn_is_tuple M) .nil .nil passD (pda_cons (pd_var (pv 0)) (pda_cons pd_int (pda_cons pd_int pda_nil)))))) (pdw_or (pdt_not (pdt_val (pd_call (ok_is_in M) (hr.mono (by decide)) rfl M.g_is_in M.f_is_in.choose_spec.kp (bn_is_in M) .nil .nil passD (pda_cons (pd_ix ix_seq ok_ix (pd_var (pv 0)) pd_int) (pda_cons pd_int (pda_cons (pd_glob (d := .int 8) (v := .int 8) rfl M.c_MOST_N.choose_spec ⟨_, rfl⟩ fun _ _ => rfl) pda_nil)))))) (pdw_or1 (pdt_not (pdt_val (pd_call (ok_is_in M) (hr.mono (by decide)) rfl M.g_is_in M.f_is_in.choose_spec.kp (bn_is_in M) .nil .nil passD (pda_cons (pd_ix ix_seq ok_ix (pd_var (pv 0)) pd_int) (pda_cons pd_int (pda_cons (pd_glob (d := .int 20) (v := .int 20) rfl M.c_MOST_M.choose_spec ⟨_, rfl⟩ fun _ _ => rfl) pda_nil)))))))))) (pdss_one (pds_ret pd_bl)) pdss_nil) (pdss_one (pds_ret (pd_call (ok_is_in M) (hr.mono (by decide)) rfl M.g_is_in M.f_is_in.choose_spec.kp (bn_is_in M) .nil .nil passD (pda_cons (pd_ix ix_seq ok_ix (pd_var (pv 0)) pd_int) (pda_cons pd_int (pda_cons (pd_glob (d := .int 8) (v := .int 8) rfl M.c_MOST_N.choose_spec ⟨_, rfl⟩ fun _ _ => rfl) pda_nil))))))), ?_⟩
  intro τ ds k hl h
  unfold sp_is_shape at h
  obtain ⟨v, rfl, hh⟩ := h
  obtain ⟨hv, hk⟩ := hh
  obtain ⟨hv1, hv2⟩ := Bool.and_eq_true_iff.mp hv
  refine dSeq_step fun Z hZ => ?_
  dsimp! only [true_and]
  refine ⟨hv1, ?_⟩
  unfold isShD at hk
  cases e1 : isTupD v 3 3 with
  | false =>
    rw [e1] at hk
    simp only [Bool.not_false, if_true]
    exact Fin.same hk
  | true =>
    rw [e1] at hk
    obtain ⟨a, b, c, rfl⟩ : ∃ a b c, v = .tup [a, b, c] := by
      cases v <;> first | (cases e1; done) | skip
      rename_i xs
      simp only [isTupD, Bool.and_eq_true, decide_eq_true_eq] at e1
      match xs, e1 with
      | [a, b, c], _ => exact ⟨a, b, c, rfl⟩
      | [], h => simp at h
      | [_], h => simp at h
      | [_, _], h => simp at h
      | _ :: _ :: _ :: _ :: _, h => simp at h; omega
    simp only [List.all_cons, List.all_nil, Bool.and_true, Bool.and_eq_true] at hv2
    simp only [Bool.true_and] at hk
    simp only [Bool.not_true, Bool.false_eq_true, if_false]
    try simp! only [true_and]
    refine ⟨hv2.1, ?_⟩
    cases e2 : isInD a 1 8 with
    | false =>
      rw [e2] at hk
      simp only [Bool.not_false, if_true]
      exact Fin.same hk
    | true =>
      rw [e2] at hk
      simp only [Bool.not_true, Bool.false_eq_true, if_false]
      refine ⟨hv2.2.1, ?_⟩
      cases e3 : isInD b 1 20 with
      | false =>
        rw [e3] at hk
        simp only [Bool.not_false, if_true]
        exact Fin.same hk
      | true =>
        rw [e3] at hk
        simp only [Bool.not_true, Bool.false_eq_true, if_false]
        refine hZ _ _ ?_
        try simp! only [true_and]
        exact ⟨hv2.2.2, Fin.same hk⟩
/-! ### ends_of -/
theorem sc_ends_of : FnScope ["shape"] ["shape"] (defScope s_ends_of) := ⟨rfl, rfl, rfl, by decide +kernel, rfl, by decide +kernel, by decide +kernel⟩
theorem bn_ends_of (M : Mod K mg) : L2.Binds K M.f_ends_of.choose ["shape"] [] := fun_binds M.f_ends_of.choose_spec fun _ _ _ _ _ _ us hl => match us, hl with | [_], _ => rfl
def sp_ends_of : SpD := fun τ ds k KE => ∃ (s : Shp), ds = [shD s] ∧ (s.Ok ∧ k τ (.int s.ends))
theorem sp_ends_of_of {τ : TD} {k : DK} {KE : XD} {s : Shp} (h_ : s.Ok ∧ k τ (.int s.ends)) : sp_ends_of τ [shD s] k KE := ⟨_, rfl, h_⟩
theorem ok_ends_of (M : Mod K mg) : FnD prog w K mg base (TT K) 2 (He.fAd K ("ends_of", none)) M.f_ends_of.choose ["shape"] sp_ends_of := by
  refine fnD_of M.f_ends_of.choose_spec sc_ends_of fun KE => ⟨_, fun cdv A outer s H E hr => (pdss_one (pds_ret (pd_op op_mulT ok_mulT (pd_ix ix_seq ok_ix (pd_var (pv 0)) pd_int) (pd_ix ix_seq ok_ix (pd_var (pv 0)) pd_int)))), ?_⟩
  intro τ ds k hl h
  unfold sp_ends_of at h
  obtain ⟨s, rfl, hh⟩ := h
  obtain ⟨ok, hk⟩ := hh
  have := ok.n
  try simp! only [true_and, shD]
  exact ⟨mul_ok ⟨by omega, by omega⟩, Fin.same hk⟩
/-! ### Fabric___init__ -/
theorem sc_Fabric___init__ : FnScope ["self", "shape"] ["self", "shape"] (defScope s_Fabric___init__) := ⟨rfl, rfl, rfl, by decide +kernel, rfl, by decide +kernel, by decide +kernel⟩
theorem bn_Fabric___init__ (M : Mod K mg) : L2.Binds K M.f_Fabric___init__.choose ["self", "shape"] [] := fun_binds M.f_Fabric___init__.choose_spec fun _ _ _ _ _ _ us hl => match us, hl with | [_, _], _ => rfl
abbrev C3 := Int × Int × Int
def c3D (c : C3) : D := .tup [.int c.1, .int c.2.1, .int c.2.2]
def cKV (cs : List C3) : List (Key × D) := cs.map fun c => (.inl c.1, .tup [.int c.2.1, .int c.2.2])
structure Fb where
  s : Shp
  cs : List C3
structure FabAt (K : PySem.W.Frag) (τ : TD) (a q : Addr) (f : Fb) : Prop where
  ins : insAt τ a = some (He.ga K "Fabric", ([("shape", shD f.s), ("_calls", .ref q)] : List (Str × D)))
  cs : τ q = some (.dK (cKV f.cs))
structure Fb.Ok (f : Fb) : Prop where
  s : f.s.Ok
  e : f.s.ends ≤ 60
  nd : (f.cs.map (·.1)).Nodup
  rng : ∀ c ∈ f.cs, (0 ≤ c.1 ∧ c.1 < f.s.ends) ∧ (0 ≤ c.2.1 ∧ c.2.1 < f.s.ends) ∧ (0 ≤ c.2.2 ∧ c.2.2 < f.s.m)
theorem Fb.Ok.len {f : Fb} (ok : f.Ok) : f.cs.length ≤ 60 := by
  have := pigeon 60 (f.cs.map (·.1)) ok.nd fun x hx => by
    obtain ⟨c, hc, rfl⟩ := List.mem_map.mp hx
    have := ok.rng c hc
    have := ok.e
    omega
  simpa using this
theorem FabAt.keep {K : PySem.W.Frag} {τ τ' : TD} {F : List Addr} {a q : Addr} {f : Fb} (h : FabAt K τ a q f) (g : SubX F τ τ') (ha : a ∉ F) (hq : q ∉ F) : FabAt K τ' a q f := ⟨g.ins ha h.ins, g.dk hq h.cs⟩
theorem FabAt.new {K : PySem.W.Frag} {τ : TD} {a q x : Addr} {f : Fb} {u : DO} (h : FabAt K τ a q f) (hx : τ x = none) : FabAt K (tset τ x u) a q f := h.keep (F := []) (SubX.refl.new hx) (by simp) (by simp)
theorem FabAt.ne {K : PySem.W.Frag} {τ : TD} {a q : Addr} {f : Fb} (h : FabAt K τ a q f) : a ≠ q := fun z => by have := insAt_iff.mp h.ins; rw [z, h.cs] at this; cases this
theorem FabAt.out {K : PySem.W.Frag} {τ : TD} {a q x : Addr} {f : Fb} (h : FabAt K τ a q f) (hx : τ x = none) : a ≠ x ∧ q ≠ x := ⟨sub_ne' (insAt_iff.mp h.ins) hx, sub_ne' h.cs hx⟩
def sp_Fabric___init__ (K : PySem.W.Frag) : SpD := fun τ ds k KE => ∃ (a : Addr) (v : D), ds = [.ref a, v] ∧ (insAt τ a = some (He.ga K "Fabric", []) ∧ tyT v = true ∧ (isShD v = false → bad K KE τ "shape") ∧ ∀ s : Shp, v = shD s → s.Ok → ∀ τ' q, FabAt K τ' a q ⟨s, []⟩ → SubX [a] τ τ' → τ q = none → k τ' .non)
theorem sp_Fabric___init___of {K : PySem.W.Frag} {τ : TD} {k : DK} {KE : XD} {a : Addr} {v : D} (h_ : insAt τ a = some (He.ga K "Fabric", []) ∧ tyT v = true ∧ (isShD v = false → bad K KE τ "shape") ∧ ∀ s : Shp, v = shD s → s.Ok → ∀ τ' q, FabAt K τ' a q ⟨s, []⟩ → SubX [a] τ τ' → τ q = none → k τ' .non) : sp_Fabric___init__ K τ [.ref a, v] k KE := ⟨_, _, rfl, h_⟩
theorem ok_Fabric___init__ (M : Mod K mg) : FnD prog w K mg base (TT K) 4 (He.fAd K ("Fabric", some "__init__")) M.f_Fabric___init__.choose ["self", "shape"] (sp_Fabric___init__ K) := by
  refine fnD_of M.f_Fabric___init__.choose_spec sc_Fabric___init__ fun KE => ⟨_, fun cdv A outer s H E hr => (pdss_cons (pds_expr (pd_call (ok_demand M) (hr.mono (by decide)) rfl M.g_demand M.f_demand.choose_spec.kp (bn_demand M) .nil .nil passD (pda_cons (pd_call (ok_is_shape M) (hr.mono (by decide)) rfl M.g_is_shape M.f_is_shape.choose_spec.kp (bn_is_shape M) .nil .nil passD (pda_cons (pd_var (pv 1)) pda_nil)) (pda_cons pd_str pda_nil)))) (pdss_cons (pds_fld (Cs := Cs_shape K) (fld_shape M) (pd_var (pv 0)) (pd_var (pv 1))) (pdss_one (pds_fld (Cs := Cs__calls K) (fld__calls M) (pd_var (pv 0)) pd_newK)))), ?_⟩
  intro τ ds k hl h
  unfold sp_Fabric___init__ at h
  obtain ⟨a, v, rfl, hh⟩ := h
  obtain ⟨hi, hv, hb, hk⟩ := hh
  refine dSeq_step fun Z hZ => ?_
  dsimp! only [true_and]
  refine sp_is_shape_of ⟨hv, ?_⟩
  cases e : isShD v with
  | false =>
    try simp! only [true_and]
    exact FinX.same (hb e)
  | true =>
  try simp! only [true_and]
  have sh : ∃ s : Shp, v = shD s ∧ s.Ok := by
    unfold isShD at e
    obtain ⟨e0, e1⟩ := Bool.and_eq_true_iff.mp e
    split at e1
    · simp only [Bool.and_eq_true] at e1
      obtain ⟨⟨h1, h2⟩, h3⟩ := e1
      obtain ⟨n, rfl, n1⟩ := isInD_int h1
      obtain ⟨m, rfl, m1⟩ := isInD_int h2
      obtain ⟨r, rfl, r1⟩ := isInD_int h3
      exact ⟨⟨n, m, r⟩, rfl, n1, m1, r1⟩
    · cases e1
  obtain ⟨s, rfl, ok⟩ := sh
  refine hZ _ _ ?_
  clear hZ Z
  try simp! only [true_and, hi]
  refine ⟨by decide, fun q hq => ?_⟩
  have nq : q ≠ a := sub_ne tset_same hq
  have hq0 : τ q = none := by rwa [tset_ne nq] at hq
  try simp! only [true_and, insAt_ne (Ne.symm nq), tset_comm (Ne.symm nq), tset_tset]
  refine ⟨by decide, Fin.same (hk s rfl ok _ q ⟨?_, ?_⟩ ?_ hq0)⟩
  · rw [insAt_ne (Ne.symm nq), insAt_same]
  · rw [tset_same]; rfl
  · exact (SubX.refl.set (by simp)).new (by rw [tset_ne nq]; exact hq0)
/-! ### Fabric_calls -/
theorem sc_Fabric_calls : FnScope ["self", "inlet"] ["self"] (defScope s_Fabric_calls) := ⟨rfl, rfl, rfl, by decide +kernel, rfl, by decide +kernel, by decide +kernel⟩
theorem bn_Fabric_calls (M : Mod K mg) : L2.Binds K M.f_Fabric_calls.choose ["self"] [] := fun_binds M.f_Fabric_calls.choose_spec fun _ _ _ _ _ _ us hl => match us, hl with | [_], _ => rfl
def sortC (cs : List C3) : List C3 := cs.mergeSort fun a b => leI a.1 b.1
def callsD (cs : List C3) : D := .tup ((sortC cs).map c3D)
theorem look_c {l : List C3} (nd : (l.map (·.1)).Nodup) {c : C3} (hc : c ∈ l) : lookD (cKV l) (.inl c.1) = some (.tup [.int c.2.1, .int c.2.2]) := by
  unfold lookD cKV
  rw [List.find?_map]
  have : l.find? ((fun p : Key × D => decide (p.1 = Sum.inl c.1)) ∘ fun c => (Sum.inl c.1, D.tup [.int c.2.1, .int c.2.2])) = some c := by
    rw [List.find?_eq_some_iff_getElem]
    refine ⟨by simp, ?_⟩
    obtain ⟨i, hi, rfl⟩ := List.getElem_of_mem hc
    refine ⟨i, hi, rfl, fun j hj => ?_⟩
    have hjl : j < l.length := by omega
    simp only [Function.comp, Sum.inl.injEq, Bool.not_eq_true', decide_eq_false_iff_not]
    intro z
    have := List.pairwise_iff_getElem.mp nd j i (by simpa using hjl) (by simpa using hi) hj
    simp at this
    exact this z
  rw [this]
  rfl
theorem keys_c (l : List C3) : (cKV l).map (·.1) = (l.map (·.1)).map Sum.inl := by unfold cKV; rw [List.map_map, List.map_map]; rfl
theorem len_c (l : List C3) : (cKV l).length = l.length := by unfold cKV; rw [List.length_map]
theorem sortC_mem {cs : List C3} {c : C3} : c ∈ sortC cs ↔ c ∈ cs := List.mem_mergeSort
theorem sortC_len (cs : List C3) : (sortC cs).length = cs.length := (List.mergeSort_perm _ _).length_eq
def sp_Fabric_calls (K : PySem.W.Frag) : SpD := fun τ ds k KE => ∃ (a : Addr) (q : Addr) (f : Fb), ds = [.ref a] ∧ (FabAt K τ a q f ∧ f.Ok ∧ k τ (callsD f.cs))
theorem sp_Fabric_calls_of {K : PySem.W.Frag} {τ : TD} {k : DK} {KE : XD} {a : Addr} {q : Addr} {f : Fb} (h_ : FabAt K τ a q f ∧ f.Ok ∧ k τ (callsD f.cs)) : sp_Fabric_calls K τ [.ref a] k KE := ⟨_, _, _, rfl, h_⟩
theorem ok_Fabric_calls (M : Mod K mg) : FnD prog w K mg base (TT K) 2 (He.fAd K ("Fabric", some "calls")) M.f_Fabric_calls.choose ["self"] (sp_Fabric_calls K) := by
  refine fnD_of M.f_Fabric_calls.choose_spec sc_Fabric_calls fun KE => ⟨_, fun cdv A outer s H E hr => (pdss_one (pds_ret (pd_callTy cr_tupO ok_tupO rfl M.b_tuple boot_tuple (pda_cons (pd_lc rfl sc_Fabric_calls.nd (pdi_seq (pd_callB (cr_sortKI rfl) ok_sortKI rfl M.b_sorted boot_sorted (pda_cons (pd_fld (Cs := Cs__calls K) (fld__calls M) (pd_var (pv 0))) pda_nil))) (show BlkOk ["self", "inlet"] (defScope s_Fabric_calls) _ [("inlet", 1)] from blk_of (by decide +kernel)) (fun _ _ _ _ _ => pdn_name (i := 1) sc_Fabric_calls.nd rfl (by first | exact .inl rfl | exact .inr rfl) (by decide)) (fun _ _ _ _ _ => pdts_nil) (fun _ _ _ _ _ => (pd_tup (pda_cons (pd_var (pv 1)) (pda_star (pd_getK (room_eq hr) (pd_fld (Cs := Cs__calls K) (fld__calls M) (pd_var (pv 0))) (pd_var (pv 1))) pda_nil))))) pda_nil)))), ?_⟩
  intro τ ds k hl h
  unfold sp_Fabric_calls at h
  obtain ⟨a, q, f, rfl, hh⟩ := h
  obtain ⟨h, ok, hk⟩ := hh
  have hl := ok.len
  try simp! only [true_and, h.ins, dkAt_of h.cs]
  refine ⟨_, keys_c _, by rw [List.length_map]; omega, fun L hL => ?_⟩
  have nL : q ≠ L := (h.out hL).2
  have naL : a ≠ L := (h.out hL).1
  have e : (f.cs.map (·.1)).mergeSort leI = (sortC f.cs).map (·.1) := (List.map_mergeSort (r := fun a b => leI a.1 b.1) (s := leI) (f := fun x : C3 => x.1) (fun a _ b _ => rfl)).symm
  rw [e, List.map_map]
  refine lc_fmT (l := sortC f.cs) (g := D.int ∘ fun c => c.1) (fun c => some (c3D c)) (sz1000 (by rw [sortC_len]; omega)) (fun c hc acc k' hk' => ?_) ?_
  · try simp! only [true_and, insAt_ne naL, h.ins, dkAt_ne nL, dkAt_of h.cs, look_c ok.nd (sortC_mem.mp hc), Function.comp]
    exact ⟨szn, hk'⟩
  · rw [show (sortC f.cs).filterMap (fun c => some (c3D c)) = (sortC f.cs).map c3D from fm_some _ _, tset_del hL]
    exact Fin.same hk
/-! ### Fabric___eq__ -/
theorem sc_Fabric___eq__ : FnScope ["self", "other"] ["self", "other"] (defScope s_Fabric___eq__) := ⟨rfl, rfl, rfl, by decide +kernel, rfl, by decide +kernel, by decide +kernel⟩
theorem bn_Fabric___eq__ (M : Mod K mg) : L2.Binds K M.f_Fabric___eq__.choose ["self", "other"] [] := fun_binds M.f_Fabric___eq__.choose_spec fun _ _ _ _ _ _ us hl => match us, hl with | [_, _], _ => rfl
theorem sh_c3 (c : C3) (n : Nat) : shB (n + 1) (c3D c) = true := by unfold c3D; rw [shB_t, shBs_cons, shBs_cons, shBs_cons, shBs_nil, shB_int, shB_int, shB_int]; rfl
theorem sh_sh (s : Shp) (n : Nat) : shB (n + 1) (shD s) = true := by unfold shD; rw [shB_t, shBs_cons, shBs_cons, shBs_cons, shBs_nil, shB_int, shB_int, shB_int]; rfl
theorem sh_calls (cs : List C3) (n : Nat) : shB (n + 2) (callsD cs) = true := by unfold callsD; rw [shB_t]; exact shBs_map fun c _ => sh_c3 c n
theorem eqD_c3 (c d : C3) : eqD (c3D c) (c3D d) = decide (c = d) := by
  unfold c3D
  rw [eqD_tt, eqDs_cons, eqDs_cons, eqDs_cons, eqD_ii, eqD_ii, eqD_ii, eqDs_nil, Bool.and_true]
  obtain ⟨a, b, x⟩ := c
  obtain ⟨a', b', x'⟩ := d
  by_cases h1 : a = a' <;> by_cases h2 : b = b' <;> by_cases h3 : x = x' <;> simp [h1, h2, h3]
theorem eqD_sh (s t : Shp) : eqD (shD s) (shD t) = decide (s = t) := by
  unfold shD
  rw [eqD_tt, eqDs_cons, eqDs_cons, eqDs_cons, eqD_ii, eqD_ii, eqD_ii, eqDs_nil, Bool.and_true]
  obtain ⟨a, b, x⟩ := s
  obtain ⟨a', b', x'⟩ := t
  by_cases h1 : a = a' <;> by_cases h2 : b = b' <;> by_cases h3 : x = x' <;> simp [h1, h2, h3]
theorem eqD_calls (c d : List C3) : eqD (callsD c) (callsD d) = decide (sortC c = sortC d) := by
  unfold callsD
  rw [eqD_tt, eqDs_map eqD_c3]
theorem resD_calls {τ : TD} {cs : List C3} : resD τ (callsD cs) = callsD cs := rfl
theorem resD_sh {τ : TD} {s : Shp} : resD τ (shD s) = shD s := rfl
def sp_Fabric___eq__ (K : PySem.W.Frag) : SpD := fun τ ds k KE => ∃ (a : Addr) (y : D) (q : Addr) (f : Fb), ds = [.ref a, y] ∧ (FabAt K τ a q f ∧ f.Ok ∧ ((y = .non ∧ k τ (.bl false)) ∨ ∃ (a2 q2 : Addr) (f2 : Fb), y = .ref a2 ∧ FabAt K τ a2 q2 f2 ∧ f2.Ok ∧ k τ (.bl (decide (f.s = f2.s) && decide (sortC f.cs = sortC f2.cs)))))
theorem sp_Fabric___eq___of {K : PySem.W.Frag} {τ : TD} {k : DK} {KE : XD} {a : Addr} {y : D} {q : Addr} {f : Fb} (h_ : FabAt K τ a q f ∧ f.Ok ∧ ((y = .non ∧ k τ (.bl false)) ∨ ∃ (a2 q2 : Addr) (f2 : Fb), y = .ref a2 ∧ FabAt K τ a2 q2 f2 ∧ f2.Ok ∧ k τ (.bl (decide (f.s = f2.s) && decide (sortC f.cs = sortC f2.cs))))) : sp_Fabric___eq__ K τ [.ref a, y] k KE := ⟨_, _, _, _, rfl, h_⟩
theorem ok_Fabric___eq__ (M : Mod K mg) : FnD prog w K mg base (TT K) 3 (He.fAd K ("Fabric", some "__eq__")) M.f_Fabric___eq__.choose ["self", "other"] (sp_Fabric___eq__ K) := by
  refine fnD_of M.f_Fabric___eq__.choose_spec sc_Fabric___eq__ fun KE => ⟨_, fun cdv A outer s H E hr => (pdss_one (pds_ret (pd_and (pd_callB call_isi (ok_isC M.isc_Fabric) rfl M.b_isinstance boot_isinstance (pda_cons (pd_var (pv 1)) (pda_cons (pd_cls rfl M.gc_Fabric) pda_nil))) (pd_and (pd_cmp (op_eqU (room_eq hr)) ok_eqR (pd_fld (Cs := Cs_shape K) (fld_shape M) (pd_var (pv 0))) (pd_fld (Cs := Cs_shape K) (fld_shape M) (pd_var (pv 1))) (nomark _)) (pd_one (pd_cmp (op_eqU (room_eq hr)) ok_eqR (pd_meth0 M.cl_Fabric M.me_Fabric_calls (ok_Fabric_calls M) (hr.mono (by decide)) (bn_Fabric_calls M) .nil .nil passD (pd_var (pv 0))) (pd_meth0 M.cl_Fabric M.me_Fabric_calls (ok_Fabric_calls M) (hr.mono (by decide)) (bn_Fabric_calls M) .nil .nil passD (pd_var (pv 1))) (nomark _))))))), ?_⟩
  intro τ ds k hl h
  unfold sp_Fabric___eq__ at h
  obtain ⟨a, y, q, f, rfl, hh⟩ := h
  obtain ⟨h, ok, ⟨rfl, hk⟩ | ⟨a2, q2, f2, rfl, h2, ok2, hk⟩⟩ := hh
  · try simp! only [true_and]
    exact Fin.same hk
  · try simp! only [true_and, h2.ins, h.ins, resD_sh]
    refine eqA_gen (sh_sh f.s 63) (sh_sh f2.s 63) ?_
    rw [eqD_sh]
    by_cases c : f.s = f2.s
    · simp only [c, decide_true, Bool.true_and] at hk ⊢
      try simp! only [true_and, h.ins]
      refine sp_Fabric_calls_of ⟨h, ok, ?_⟩
      try simp! only [true_and, h2.ins]
      refine sp_Fabric_calls_of ⟨h2, ok2, ?_⟩
      try simp! only [true_and, resD_calls]
      refine eqA_gen (sh_calls f.cs 62) (sh_calls f2.cs 62) ?_
      rw [eqD_calls]
      exact Fin.same hk
    · simp only [c, decide_false, Bool.false_and] at hk ⊢
      try simp! only [true_and]
      exact Fin.same hk
end
end LW

set_option Elab.async false
set_option linter.all false
set_option maxRecDepth 100000
set_option maxHeartbeats 0
namespace LW
open PySem PySem.Spec PyProof.Rows L2 DL DX
section
variable {w : World} {K : PySem.W.Frag} {mg : Str → Option Value} {base : Heap}
local macro_rules | `(tactic| simp! only [$xs,*]) => `(tactic| simp only [dVar, dC, dOp, dUn, dTest_eq, dAnd, dOr, dNot, dAndV_eq, dOrV_eq, dNotV_eq, dIf, dChain_eq, dNil, dCons, dTup, dLst, dLstM, dCB, dBM, dNoPart, dPart_eq, dSl, dCall, dCallK, dNext, dBrk, dCnt, dSeq, dDrop, dRet, dRetN, dIfS, γName, γNil, γCons, γSub, dAsg, dPar, dPar3, dAug, ιSeq_eq, ιZip, ιRng1_eq, ιRng2_eq, dFor, dLc, dLcM, dYes, dT, dTold, onBl_eq, onInt_eq, onSeq_lst, onSeq_tup, onSeq_str, onSome_eq, lstAt_same, dRaise, startD, List.map_cons, List.map_nil, List.length_cons, List.length_nil, List.replicate_succ, List.replicate_zero, List.cons_append, List.nil_append, List.append_nil, List.getElem?_cons_zero, List.getElem?_cons_succ, List.set_cons_zero, List.set_cons_succ, Nat.reduceAdd, Nat.reduceSub, Nat.zero_add, Nat.sub_self, ρEq_int, ρEq_str, ρEq_bl, ρNe_int, ρNe_str, ρNe_bl, ρEq_t3, ρNe_t3, ρEq_t2, ρNe_t2, intsOf_mapf, strsOf_mapf, blsOf_mapf, gK_01_0, gK_02_01, gK_02_10, gK_03_012, gK_03_021, gK_03_102, gK_03_120, gK_03_201, gK_03_210, gK_11_0, gK_12_01, gK_12_10, gK_13_012, gK_13_021, gK_13_102, gK_13_120, gK_13_201, gK_13_210, dLstRg, ρLstOM_eq, seqAt_lst, seqAt_tup, seqAt_ref, ρMulT_int, ρMulT_str, ρMulT_tup, ρInU_one, ρPopAt_ref, eq_self, Bool.not_true, Bool.not_false, decide_true, decide_false, strsOf_c0, strsOf_c1, strsOf_c2, strsOf_c3, strsOf_c4, strsOf_c5, strsOf_c6, strsOf_c7, strsOf_c8, intsOf_c0, intsOf_c1, intsOf_c2, intsOf_c3, intsOf_c4, intsOf_c5, intsOf_c6, intsOf_c7, intsOf_c8, blsOf_c0, blsOf_c1, blsOf_c2, blsOf_c3, blsOf_c4, blsOf_c5, blsOf_c6, blsOf_c7, blsOf_c8, ixN_30, ixN_31, ixN_32, wipeD, if_true, if_false, Bool.false_eq_true, Bool.true_eq_false, true_and, and_true, ρAdd_int, ρAdd_str, ρAdd_tup, ρAdd_lst, ρAdd_rl, ρI_int, ρI0_int, ρMul_int, ρMul_str, ρNeg_int, ρCmp_int, ρCmp_str, ρIsN_eq, ρNotN_eq, isNonD_bl, isNonD_int, isNonD_str, isNonD_tup, isNonD_lst, isNonD_ref, isNonD_non, ρSgn_one, ρAbs_int, ρMax_two, ρMin_two, ρMax_lst, ρMin_lst, ρInt_int, ρInt_bl, ρStr_int, ρLen_str, ρLen_tup, ρLen_lst, ρLen_ref, ρSum_lst, ρAll_lst, ρAny_lst, ρTupO_tup, ρTupO_lst, ρIsi_eq, is_non_int, is_non_bool, is_non_str, is_non_tuple, is_non_list, is_bl_int, is_bl_bool, is_bl_str, is_bl_tuple, is_bl_list, is_int_int, is_int_bool, is_int_str, is_int_tuple, is_int_list, is_str_int, is_str_bool, is_str_str, is_str_tuple, is_str_list, is_tup_int, is_tup_bool, is_tup_str, is_tup_tuple, is_tup_list, is_lst_int, is_lst_bool, is_lst_str, is_lst_tuple, is_lst_list, tyN_non, tyN_bl, tyN_int, tyN_str, tyN_tup, tyN_lst, ρIx_tup, ρIx_lst, ρIx_str, ρIx_ref, ρSl_str, ρSl_lst, ρSl_tup, ρApp_ref, θLst_ref, θStr_str, ςLst_ref, ρJoin_lst, γTup_tup, atI_0, atI_1, atI_2, atI_3, atI_4, atI_5, atI_6, atI_7, ρEqR_eq, ρNeR_eq, resD_non, resD_bl, resD_int, resD_str, resD_tup, resD_lst, eqA_nn, eqA_ii, eqA_bb, eqA_ss, eqA_ni, eqA_in, eqA_nb, eqA_bn, eqA_ns, eqA_sn, eqA_is, eqA_si, eqA_tt, eqA_ll, eqA_tl, eqA_lt, eqA_tn, eqA_nt, eqA_ti', eqA_it, eqA_ts, eqA_st, shB_non, shB_bl, shB_int, shB_str, shB_t63, shB_t62, shB_t61, shB_t60, shB_t59, shB_l63, shB_l62, shB_l61, shB_l60, shBs_nil, shBs_cons, shBs_append, shBs_ints, eqDs_nil, eqDs_cons, eqDs_cn, eqDs_nc, eqDs_ints, eqDs_strs, eqD_ii, eqD_bb, eqD_ss, eqD_tt, eqD_ll, eqD_nn, ρLstO_seq, ρTupO_ref, Option.isSome_some, dNewK, dNewT, dGetK, dGetT, dInK, dInT, dPutK, dPutT, dAugK, dAugT, dGet2K, dGet2T, dPop1K, onRef_eq, dkAt_same, dtAt_same, dkW_same, dtW_same, keyOf_int, keyOf_str, keysOf_ii, keysOf_iii, ιEnum_eq, onSq_tup, onSq_lst, ρLtV_int, ρLtV_str, ρLtV_tup, ρPop_ref, ρIdx_lst, dFld, dSFld, dSFldAug, dMeth, dMake, dMethK, dMakeK, dEqI, insAt_same, lkF_cons, lkF_nil, putFD_cons, putFD_nil, ρIsC_non, ρIsC_ref, ρLenD_eq, dSortIt, ρSortD_eq, ρMinD_eq, ρMaxD_eq, dMet, dTm, mem_h, mem_h2, onBool_eq, insOrNon, ρCopy_ref, ιItems, ιVals, ιKeys, lkW_same, dLockE, dLockS, ρCopyT_ref, ρInX_eq, itsD_tup, itsD_lst, itsD_ref, dStar, ρSortKI_ref, ρRemX_ref, dForM, dLcR, Cs_shape, Cs__calls, ne___eq_____calls, ne___eq____shape, ne___init_____calls, ne___init____shape, ne__calls____eq__, ne__calls____init__, ne__calls__call, ne__calls__calls, ne__calls__demand_ends, ne__calls__end, ne__calls__free_outlets, ne__calls__has_outlet, ne__calls__is_behind_free, ne__calls__is_blocked, ne__calls__is_front_free, ne__calls__look_at_ends, ne__calls__middles, ne__calls__shape, ne__calls__twin, ne__calls__ways, ne_call___calls, ne_call__shape, ne_calls___calls, ne_calls__shape, ne_demand_ends___calls, ne_demand_ends__shape, ne_end___calls, ne_end__shape, ne_free_outlets___calls, ne_free_outlets__shape, ne_has_outlet___calls, ne_has_outlet__shape, ne_is_behind_free___calls, ne_is_behind_free__shape, ne_is_blocked___calls, ne_is_blocked__shape, ne_is_front_free___calls, ne_is_front_free__shape, ne_look_at_ends___calls, ne_look_at_ends__shape, ne_middles___calls, ne_middles__shape, ne_shape____eq__, ne_shape____init__, ne_shape___calls, ne_shape__call, ne_shape__calls, ne_shape__demand_ends, ne_shape__end, ne_shape__free_outlets, ne_shape__has_outlet, ne_shape__is_behind_free, ne_shape__is_blocked, ne_shape__is_front_free, ne_shape__look_at_ends, ne_shape__middles, ne_shape__twin, ne_shape__ways, ne_twin___calls, ne_twin__shape, ne_ways___calls, ne_ways__shape, sp_is_in_eq, sp_is_tuple_eq, sp_demand_eq, $xs,*])
local macro_rules | `(tactic| dsimp! only [$xs,*]) => `(tactic| simp only [dVar, dC, dOp, dUn, dTest_eq, dAnd, dOr, dNot, dAndV_eq, dOrV_eq, dNotV_eq, dIf, dChain_eq, dNil, dCons, dTup, dLst, dLstM, dCB, dBM, dNoPart, dPart_eq, dSl, dCall, dCallK, dNext, dBrk, dCnt, dDrop, dRet, dRetN, dIfS, γName, γNil, γCons, γSub, dAsg, dPar, dPar3, dAug, ιSeq_eq, ιZip, ιRng1_eq, ιRng2_eq, dFor, dLc, dLcM, dYes, dT, dTold, onBl_eq, onInt_eq, onSeq_lst, onSeq_tup, onSeq_str, onSome_eq, lstAt_same, dRaise, startD, List.map_cons, List.map_nil, List.length_cons, List.length_nil, List.replicate_succ, List.replicate_zero, List.cons_append, List.nil_append, List.append_nil, List.getElem?_cons_zero, List.getElem?_cons_succ, List.set_cons_zero, List.set_cons_succ, Nat.reduceAdd, Nat.reduceSub, Nat.zero_add, Nat.sub_self, ρEq_int, ρEq_str, ρEq_bl, ρNe_int, ρNe_str, ρNe_bl, ρEq_t3, ρNe_t3, ρEq_t2, ρNe_t2, intsOf_mapf, strsOf_mapf, blsOf_mapf, gK_01_0, gK_02_01, gK_02_10, gK_03_012, gK_03_021, gK_03_102, gK_03_120, gK_03_201, gK_03_210, gK_11_0, gK_12_01, gK_12_10, gK_13_012, gK_13_021, gK_13_102, gK_13_120, gK_13_201, gK_13_210, dLstRg, ρLstOM_eq, seqAt_lst, seqAt_tup, seqAt_ref, ρMulT_int, ρMulT_str, ρMulT_tup, ρInU_one, ρPopAt_ref, eq_self, Bool.not_true, Bool.not_false, decide_true, decide_false, strsOf_c0, strsOf_c1, strsOf_c2, strsOf_c3, strsOf_c4, strsOf_c5, strsOf_c6, strsOf_c7, strsOf_c8, intsOf_c0, intsOf_c1, intsOf_c2, intsOf_c3, intsOf_c4, intsOf_c5, intsOf_c6, intsOf_c7, intsOf_c8, blsOf_c0, blsOf_c1, blsOf_c2, blsOf_c3, blsOf_c4, blsOf_c5, blsOf_c6, blsOf_c7, blsOf_c8, ixN_30, ixN_31, ixN_32, wipeD, if_true, if_false, Bool.false_eq_true, Bool.true_eq_false, true_and, and_true, ρAdd_int, ρAdd_str, ρAdd_tup, ρAdd_lst, ρAdd_rl, ρI_int, ρI0_int, ρMul_int, ρMul_str, ρNeg_int, ρCmp_int, ρCmp_str, ρIsN_eq, ρNotN_eq, isNonD_bl, isNonD_int, isNonD_str, isNonD_tup, isNonD_lst, isNonD_ref, isNonD_non, ρSgn_one, ρAbs_int, ρMax_two, ρMin_two, ρMax_lst, ρMin_lst, ρInt_int, ρInt_bl, ρStr_int, ρLen_str, ρLen_tup, ρLen_lst, ρLen_ref, ρSum_lst, ρAll_lst, ρAny_lst, ρTupO_tup, ρTupO_lst, ρIsi_eq, is_non_int, is_non_bool, is_non_str, is_non_tuple, is_non_list, is_bl_int, is_bl_bool, is_bl_str, is_bl_tuple, is_bl_list, is_int_int, is_int_bool, is_int_str, is_int_tuple, is_int_list, is_str_int, is_str_bool, is_str_str, is_str_tuple, is_str_list, is_tup_int, is_tup_bool, is_tup_str, is_tup_tuple, is_tup_list, is_lst_int, is_lst_bool, is_lst_str, is_lst_tuple, is_lst_list, tyN_non, tyN_bl, tyN_int, tyN_str, tyN_tup, tyN_lst, ρIx_tup, ρIx_lst, ρIx_str, ρIx_ref, ρSl_str, ρSl_lst, ρSl_tup, ρApp_ref, θLst_ref, θStr_str, ςLst_ref, ρJoin_lst, γTup_tup, atI_0, atI_1, atI_2, atI_3, atI_4, atI_5, atI_6, atI_7, ρEqR_eq, ρNeR_eq, resD_non, resD_bl, resD_int, resD_str, resD_tup, resD_lst, eqA_nn, eqA_ii, eqA_bb, eqA_ss, eqA_ni, eqA_in, eqA_nb, eqA_bn, eqA_ns, eqA_sn, eqA_is, eqA_si, eqA_tt, eqA_ll, eqA_tl, eqA_lt, eqA_tn, eqA_nt, eqA_ti', eqA_it, eqA_ts, eqA_st, shB_non, shB_bl, shB_int, shB_str, shB_t63, shB_t62, shB_t61, shB_t60, shB_t59, shB_l63, shB_l62, shB_l61, shB_l60, shBs_nil, shBs_cons, shBs_append, shBs_ints, eqDs_nil, eqDs_cons, eqDs_cn, eqDs_nc, eqDs_ints, eqDs_strs, eqD_ii, eqD_bb, eqD_ss, eqD_tt, eqD_ll, eqD_nn, ρLstO_seq, ρTupO_ref, Option.isSome_some, dNewK, dNewT, dGetK, dGetT, dInK, dInT, dPutK, dPutT, dAugK, dAugT, dGet2K, dGet2T, dPop1K, onRef_eq, dkAt_same, dtAt_same, dkW_same, dtW_same, keyOf_int, keyOf_str, keysOf_ii, keysOf_iii, ιEnum_eq, onSq_tup, onSq_lst, ρLtV_int, ρLtV_str, ρLtV_tup, ρPop_ref, ρIdx_lst, dFld, dSFld, dSFldAug, dMeth, dMake, dMethK, dMakeK, dEqI, insAt_same, lkF_cons, lkF_nil, putFD_cons, putFD_nil, ρIsC_non, ρIsC_ref, ρLenD_eq, dSortIt, ρSortD_eq, ρMinD_eq, ρMaxD_eq, dMet, dTm, mem_h, mem_h2, onBool_eq, insOrNon, ρCopy_ref, ιItems, ιVals, ιKeys, lkW_same, dLockE, dLockS, ρCopyT_ref, ρInX_eq, itsD_tup, itsD_lst, itsD_ref, dStar, ρSortKI_ref, ρRemX_ref, dForM, dLcR, Cs_shape, Cs__calls, ne___eq_____calls, ne___eq____shape, ne___init_____calls, ne___init____shape, ne__calls____eq__, ne__calls____init__, ne__calls__call, ne__calls__calls, ne__calls__demand_ends, ne__calls__end, ne__calls__free_outlets, ne__calls__has_outlet, ne__calls__is_behind_free, ne__calls__is_blocked, ne__calls__is_front_free, ne__calls__look_at_ends, ne__calls__middles, ne__calls__shape, ne__calls__twin, ne__calls__ways, ne_call___calls, ne_call__shape, ne_calls___calls, ne_calls__shape, ne_demand_ends___calls, ne_demand_ends__shape, ne_end___calls, ne_end__shape, ne_free_outlets___calls, ne_free_outlets__shape, ne_has_outlet___calls, ne_has_outlet__shape, ne_is_behind_free___calls, ne_is_behind_free__shape, ne_is_blocked___calls, ne_is_blocked__shape, ne_is_front_free___calls, ne_is_front_free__shape, ne_look_at_ends___calls, ne_look_at_ends__shape, ne_middles___calls, ne_middles__shape, ne_shape____eq__, ne_shape____init__, ne_shape___calls, ne_shape__call, ne_shape__calls, ne_shape__demand_ends, ne_shape__end, ne_shape__free_outlets, ne_shape__has_outlet, ne_shape__is_behind_free, ne_shape__is_blocked, ne_shape__is_front_free, ne_shape__look_at_ends, ne_shape__middles, ne_shape__twin, ne_shape__ways, ne_twin___calls, ne_twin__shape, ne_ways___calls, ne_ways__shape, sp_is_in_eq, sp_is_tuple_eq, sp_demand_eq, $xs,*])
/-! ### Fabric_twin -/
theorem sc_Fabric_twin : FnScope ["self", "found"] ["self"] (defScope s_Fabric_twin) := ⟨rfl, rfl, rfl, by decide +kernel, rfl, by decide +kernel, by decide +kernel⟩
theorem bn_Fabric_twin (M : Mod K mg) : L2.Binds K M.f_Fabric_twin.choose ["self"] [] := fun_binds M.f_Fabric_twin.choose_spec fun _ _ _ _ _ _ us hl => match us, hl with | [_], _ => rfl
def sp_Fabric_twin (K : PySem.W.Frag) : SpD := fun τ ds k KE => ∃ (a : Addr) (q : Addr) (f : Fb), ds = [.ref a] ∧ (FabAt K τ a q f ∧ f.Ok ∧ ∀ τ' a' q', FabAt K τ' a' q' f → SubX [] τ τ' → τ a' = none → τ q' = none → k τ' (.ref a'))
theorem sp_Fabric_twin_of {K : PySem.W.Frag} {τ : TD} {k : DK} {KE : XD} {a : Addr} {q : Addr} {f : Fb} (h_ : FabAt K τ a q f ∧ f.Ok ∧ ∀ τ' a' q', FabAt K τ' a' q' f → SubX [] τ τ' → τ a' = none → τ q' = none → k τ' (.ref a')) : sp_Fabric_twin K τ [.ref a] k KE := ⟨_, _, _, rfl, h_⟩
theorem ok_Fabric_twin (M : Mod K mg) : FnD prog w K mg base (TT K) 6 (He.fAd K ("Fabric", some "twin")) M.f_Fabric_twin.choose ["self"] (sp_Fabric_twin K) := by
  refine fnD_of M.f_Fabric_twin.choose_spec sc_Fabric_twin fun KE => ⟨_, fun cdv A outer s H E hr => (pdss_cons (pds_set (i := 1) sc_Fabric_twin.nd rfl (by first | exact .inl rfl | exact .inr rfl) (pd_make (M.mk_Fabric) (ok_Fabric___init__ M) (hr.mono (by decide)) rfl M.gc_Fabric (bn_Fabric___init__ M) .nil .nil passD (pda_cons (pd_fld (Cs := Cs_shape K) (fld_shape M) (pd_var (pv 0))) pda_nil))) (pdss_cons (pds_fld (Cs := Cs__calls K) (fld__calls M) (pd_var (pv 1)) (pd_callTy cr_copyK ok_copyK rfl M.b_dict boot_dict (pda_cons (pd_fld (Cs := Cs__calls K) (fld__calls M) (pd_var (pv 0))) pda_nil))) (pdss_one (pds_ret (pd_var (pv 1)))))), ?_⟩
  intro τ ds k hl h
  unfold sp_Fabric_twin at h
  obtain ⟨a, q, f, rfl, hh⟩ := h
  obtain ⟨h, ok, hk⟩ := hh
  refine dSeq_step fun Z hZ => ?_
  try simp! only [true_and, h.ins]
  intro a1 ha1
  refine sp_Fabric___init___of ⟨insAt_same, rfl, (fun e => by rw [isShD_ok ok.s] at e; cases e), fun s es _ τ1 q1 B1 k1 fq => ⟨rfl, hZ _ _ ?_⟩⟩
  have es : f.s = s := by
    unfold shD at es
    simp only [D.tup.injEq, List.cons.injEq, D.int.injEq, and_true] at es
    obtain ⟨n, m, r⟩ := s
    cases hf : f.s
    rw [hf] at es
    simp_all
  subst es
  clear hZ Z
  obtain ⟨o1, o2⟩ := h.out ha1
  have h1 := (h.new (u := .ins (He.ga K "Fabric") []) ha1).keep k1 (not1 o1) (not1 o2)
  have S1 : SubX [a1] τ τ1 := (SubX.refl.new ha1).trans k1
  have I0 := B1.ins
  clear k1 fq h B1
  refine dSeq_step fun Z hZ => ?_
  try simp! only [true_and, h1.ins, dkAt_of h1.cs, I0]
  intro p hp
  have np : p ≠ a1 := sub_ne (insAt_iff.mp I0) hp
  try simp! only [true_and, insAt_ne (Ne.symm np), I0]
  refine ⟨by decide, hZ _ _ ?_⟩
  clear hZ Z
  try simp! only [true_and]
  refine Fin.same (hk _ a1 p ⟨?_, ?_⟩ ?_ ha1 (S1.none hp np))
  · rw [insAt_same]
  · rw [tset_ne np, tset_same]
  · intro x o hx e
    have n1 : x ≠ a1 := sub_ne' e ha1
    have e2 := S1 x o (not1 n1) e
    rw [tset_ne n1, tset_ne (sub_ne' e2 hp)]
    exact e2
/-! ### Fabric_has_outlet -/
theorem sc_Fabric_has_outlet : FnScope ["self", "outlet", "other", "middle"] ["self", "outlet"] (defScope s_Fabric_has_outlet) := ⟨rfl, rfl, rfl, by decide +kernel, rfl, by decide +kernel, by decide +kernel⟩
theorem bn_Fabric_has_outlet (M : Mod K mg) : L2.Binds K M.f_Fabric_has_outlet.choose ["self", "outlet"] [] := fun_binds M.f_Fabric_has_outlet.choose_spec fun _ _ _ _ _ _ us hl => match us, hl with | [_, _], _ => rfl
def hasOut (cs : List C3) (o : Int) : Bool := cs.any fun c => decide (c.2.1 = o)
theorem vals_c (l : List C3) : (cKV l).map Prod.snd = l.map fun c => D.tup [.int c.2.1, .int c.2.2] := by unfold cKV; rw [List.map_map]; rfl
def sp_Fabric_has_outlet (K : PySem.W.Frag) : SpD := fun τ ds k KE => ∃ (a : Addr) (o : Int) (q : Addr) (f : Fb), ds = [.ref a, .int o] ∧ (FabAt K τ a q f ∧ f.Ok ∧ k τ (.bl (hasOut f.cs o)))
theorem sp_Fabric_has_outlet_of {K : PySem.W.Frag} {τ : TD} {k : DK} {KE : XD} {a : Addr} {o : Int} {q : Addr} {f : Fb} (h_ : FabAt K τ a q f ∧ f.Ok ∧ k τ (.bl (hasOut f.cs o))) : sp_Fabric_has_outlet K τ [.ref a, .int o] k KE := ⟨_, _, _, _, rfl, h_⟩
theorem ok_Fabric_has_outlet (M : Mod K mg) : FnD prog w K mg base (TT K) 2 (He.fAd K ("Fabric", some "has_outlet")) M.f_Fabric_has_outlet.choose ["self", "outlet"] (sp_Fabric_has_outlet K) := by
  refine fnD_of M.f_Fabric_has_outlet.choose_spec sc_Fabric_has_outlet fun KE => ⟨_, fun cdv A outer s H E hr => (pdss_one (pds_ret (pd_callB (cr_any rfl) ok_any rfl M.b_any boot_any (pda_cons (pd_lock (pd_lc rfl sc_Fabric_has_outlet.nd (pdi_vals (pd_fld (Cs := Cs__calls K) (fld__calls M) (pd_var (pv 0)))) (show BlkOk ["self", "outlet", "other", "middle"] (defScope s_Fabric_has_outlet) _ [("other", 2), ("middle", 3)] from blk_of (by decide +kernel)) (fun _ _ _ _ _ => pdn_two (i := 2) (j := 3) rfl sc_Fabric_has_outlet.nd rfl rfl (.inl rfl) (.inl rfl) (by decide) (by decide)) (fun _ _ _ _ _ => pdts_nil) (fun _ _ _ _ _ => (pd_cmp (op_eqU (room_eq hr)) ok_eqR (pd_var (pv 2)) (pd_var (pv 1)) (nomark _))))) pda_nil)))), ?_⟩
  intro τ ds k hl h
  unfold sp_Fabric_has_outlet at h
  obtain ⟨a, o, q, f, rfl, hh⟩ := h
  obtain ⟨h, ok, hk⟩ := hh
  have hl := ok.len
  try simp! only [true_and]
  refine ⟨q, cKV f.cs, h.cs, ?_⟩
  try simp! only [true_and, insAt_ne h.ne, h.ins, vals_c]
  intro L hL
  refine lc_map (l := f.cs) (g := fun c => D.tup [.int c.2.1, .int c.2.2]) (fun c => .bl (decide (c.2.1 = o))) (sz1000 (by omega)) (fun c hc τ' k' hk' => ?_) ?_
  · try simp! only [true_and]
    exact hk'
  try simp! only [true_and, tset_del hL]
  refine ⟨tset_same, ?_⟩
  rw [tset_tset, tset_self h.cs, List.any_map]
  exact Fin.same hk
/-! ### Fabric_is_front_free -/
theorem sc_Fabric_is_front_free : FnScope ["self", "inlet", "middle", "switch", "one", "two"] ["self", "inlet", "middle"] (defScope s_Fabric_is_front_free) := ⟨rfl, rfl, rfl, by decide +kernel, rfl, by decide +kernel, by decide +kernel⟩
theorem bn_Fabric_is_front_free (M : Mod K mg) : L2.Binds K M.f_Fabric_is_front_free.choose ["self", "inlet", "middle"] [] := fun_binds M.f_Fabric_is_front_free.choose_spec fun _ _ _ _ _ _ us hl => match us, hl with | [_, _, _], _ => rfl
def frontB (s : Shp) (cs : List C3) (i m : Int) : Bool := cs.any fun c => decide (c.1 / s.n = i / s.n) && decide (c.2.2 = m)
theorem items_c (l : List C3) : (cKV l).map pairKD = l.map fun c => D.tup [.int c.1, .tup [.int c.2.1, .int c.2.2]] := by unfold cKV; rw [List.map_map]; rfl
def sp_Fabric_is_front_free (K : PySem.W.Frag) : SpD := fun τ ds k KE => ∃ (a : Addr) (i m : Int) (q : Addr) (f : Fb), ds = [.ref a, .int i, .int m] ∧ (FabAt K τ a q f ∧ f.Ok ∧ k τ (.bl (!frontB f.s f.cs i m)))
theorem sp_Fabric_is_front_free_of {K : PySem.W.Frag} {τ : TD} {k : DK} {KE : XD} {a : Addr} {i m : Int} {q : Addr} {f : Fb} (h_ : FabAt K τ a q f ∧ f.Ok ∧ k τ (.bl (!frontB f.s f.cs i m))) : sp_Fabric_is_front_free K τ [.ref a, .int i, .int m] k KE := ⟨_, _, _, _, _, rfl, h_⟩
theorem ok_Fabric_is_front_free (M : Mod K mg) : FnD prog w K mg base (TT K) 2 (He.fAd K ("Fabric", some "is_front_free")) M.f_Fabric_is_front_free.choose ["self", "inlet", "middle"] (sp_Fabric_is_front_free K) := by
  refine fnD_of M.f_Fabric_is_front_free.choose_spec sc_Fabric_is_front_free fun KE => ⟨_, fun cdv A outer s H E hr => (pdss_cons (pds_set (i := 3) sc_Fabric_is_front_free.nd rfl (by first | exact .inl rfl | exact .inr rfl) (pd_op op_fdiv ok_div (pd_var (pv 1)) (pd_ix ix_seq ok_ix (pd_fld (Cs := Cs_shape K) (fld_shape M) (pd_var (pv 0))) pd_int))) (pdss_one (pds_ret (pd_not (pd_callB (cr_any rfl) ok_any rfl M.b_any boot_any (pda_cons (pd_lock (pd_lc rfl sc_Fabric_is_front_free.nd (pdi_items (pd_fld (Cs := Cs__calls K) (fld__calls M) (pd_var (pv 0)))) (show BlkOk ["self", "inlet", "middle", "switch", "one", "two"] (defScope s_Fabric_is_front_free) _ [("one", 4), ("two", 5)] from blk_of (by decide +kernel)) (fun _ _ _ _ _ => pdn_two (i := 4) (j := 5) rfl sc_Fabric_is_front_free.nd rfl rfl (.inl rfl) (.inl rfl) (by decide) (by decide)) (fun _ _ _ _ _ => pdts_nil) (fun _ _ _ _ _ => (pd_and (pd_cmp (op_eqU (room_eq hr)) ok_eqR (pd_op op_fdiv ok_div (pd_var (pv 4)) (pd_ix ix_seq ok_ix (pd_fld (Cs := Cs_shape K) (fld_shape M) (pd_var (pv 0))) pd_int)) (pd_var (pv 3)) (nomark _)) (pd_one (pd_cmp (op_eqU (room_eq hr)) ok_eqR (pd_ix ix_seq ok_ix (pd_var (pv 5)) pd_int) (pd_var (pv 2)) (nomark _))))))) pda_nil)))))), ?_⟩
  intro τ ds k hl h
  unfold sp_Fabric_is_front_free at h
  obtain ⟨a, i, m, q, f, rfl, hh⟩ := h
  obtain ⟨h, ok, hk⟩ := hh
  have hl := ok.len
  have on := ok.s.n
  have ix0 : ∀ (τ : TD) (k : DK), ρIx τ (shD f.s) (.int 0) k = k τ (.int f.s.n) := fun τ k => by simp only [shD, dVar, dC, dOp, dUn, dTest_eq, dAnd, dOr, dNot, dAndV_eq, dOrV_eq, dNotV_eq, dIf, dChain_eq, dNil, dCons, dTup, dLst, dLstM, dCB, dBM, dNoPart, dPart_eq, dSl, dCall, dCallK, dNext, dBrk, dCnt, dSeq, dDrop, dRet, dRetN, dIfS, γName, γNil, γCons, γSub, dAsg, dPar, dPar3, dAug, ιSeq_eq, ιZip, ιRng1_eq, ιRng2_eq, dFor, dLc, dLcM, dYes, dT, dTold, onBl_eq, onInt_eq, onSeq_lst, onSeq_tup, onSeq_str, onSome_eq, lstAt_same, dRaise, startD, List.map_cons, List.map_nil, List.length_cons, List.length_nil, List.replicate_succ, List.replicate_zero, List.cons_append, List.nil_append, List.append_nil, List.getElem?_cons_zero, List.getElem?_cons_succ, List.set_cons_zero, List.set_cons_succ, Nat.reduceAdd, Nat.reduceSub, Nat.zero_add, Nat.sub_self, ρEq_int, ρEq_str, ρEq_bl, ρNe_int, ρNe_str, ρNe_bl, ρEq_t3, ρNe_t3, ρEq_t2, ρNe_t2, intsOf_mapf, strsOf_mapf, blsOf_mapf, gK_01_0, gK_02_01, gK_02_10, gK_03_012, gK_03_021, gK_03_102, gK_03_120, gK_03_201, gK_03_210, gK_11_0, gK_12_01, gK_12_10, gK_13_012, gK_13_021, gK_13_102, gK_13_120, gK_13_201, gK_13_210, dLstRg, ρLstOM_eq, seqAt_lst, seqAt_tup, seqAt_ref, ρMulT_int, ρMulT_str, ρMulT_tup, ρInU_one, ρPopAt_ref, eq_self, Bool.not_true, Bool.not_false, decide_true, decide_false, strsOf_c0, strsOf_c1, strsOf_c2, strsOf_c3, strsOf_c4, strsOf_c5, strsOf_c6, strsOf_c7, strsOf_c8, intsOf_c0, intsOf_c1, intsOf_c2, intsOf_c3, intsOf_c4, intsOf_c5, intsOf_c6, intsOf_c7, intsOf_c8, blsOf_c0, blsOf_c1, blsOf_c2, blsOf_c3, blsOf_c4, blsOf_c5, blsOf_c6, blsOf_c7, blsOf_c8, ixN_30, ixN_31, ixN_32, wipeD, if_true, if_false, Bool.false_eq_true, Bool.true_eq_false, true_and, and_true, ρAdd_int, ρAdd_str, ρAdd_tup, ρAdd_lst, ρAdd_rl, ρI_int, ρI0_int, ρMul_int, ρMul_str, ρNeg_int, ρCmp_int, ρCmp_str, ρIsN_eq, ρNotN_eq, isNonD_bl, isNonD_int, isNonD_str, isNonD_tup, isNonD_lst, isNonD_ref, isNonD_non, ρSgn_one, ρAbs_int, ρMax_two, ρMin_two, ρMax_lst, ρMin_lst, ρInt_int, ρInt_bl, ρStr_int, ρLen_str, ρLen_tup, ρLen_lst, ρLen_ref, ρSum_lst, ρAll_lst, ρAny_lst, ρTupO_tup, ρTupO_lst, ρIsi_eq, is_non_int, is_non_bool, is_non_str, is_non_tuple, is_non_list, is_bl_int, is_bl_bool, is_bl_str, is_bl_tuple, is_bl_list, is_int_int, is_int_bool, is_int_str, is_int_tuple, is_int_list, is_str_int, is_str_bool, is_str_str, is_str_tuple, is_str_list, is_tup_int, is_tup_bool, is_tup_str, is_tup_tuple, is_tup_list, is_lst_int, is_lst_bool, is_lst_str, is_lst_tuple, is_lst_list, tyN_non, tyN_bl, tyN_int, tyN_str, tyN_tup, tyN_lst, ρIx_tup, ρIx_lst, ρIx_str, ρIx_ref, ρSl_str, ρSl_lst, ρSl_tup, ρApp_ref, θLst_ref, θStr_str, ςLst_ref, ρJoin_lst, γTup_tup, atI_0, atI_1, atI_2, atI_3, atI_4, atI_5, atI_6, atI_7, ρEqR_eq, ρNeR_eq, resD_non, resD_bl, resD_int, resD_str, resD_tup, resD_lst, eqA_nn, eqA_ii, eqA_bb, eqA_ss, eqA_ni, eqA_in, eqA_nb, eqA_bn, eqA_ns, eqA_sn, eqA_is, eqA_si, eqA_tt, eqA_ll, eqA_tl, eqA_lt, eqA_tn, eqA_nt, eqA_ti', eqA_it, eqA_ts, eqA_st, shB_non, shB_bl, shB_int, shB_str, shB_t63, shB_t62, shB_t61, shB_t60, shB_t59, shB_l63, shB_l62, shB_l61, shB_l60, shBs_nil, shBs_cons, shBs_append, shBs_ints, eqDs_nil, eqDs_cons, eqDs_cn, eqDs_nc, eqDs_ints, eqDs_strs, eqD_ii, eqD_bb, eqD_ss, eqD_tt, eqD_ll, eqD_nn, ρLstO_seq, ρTupO_ref, Option.isSome_some, dNewK, dNewT, dGetK, dGetT, dInK, dInT, dPutK, dPutT, dAugK, dAugT, dGet2K, dGet2T, dPop1K, onRef_eq, dkAt_same, dtAt_same, dkW_same, dtW_same, keyOf_int, keyOf_str, keysOf_ii, keysOf_iii, ιEnum_eq, onSq_tup, onSq_lst, ρLtV_int, ρLtV_str, ρLtV_tup, ρPop_ref, ρIdx_lst, dFld, dSFld, dSFldAug, dMeth, dMake, dMethK, dMakeK, dEqI, insAt_same, lkF_cons, lkF_nil, putFD_cons, putFD_nil, ρIsC_non, ρIsC_ref, ρLenD_eq, dSortIt, ρSortD_eq, ρMinD_eq, ρMaxD_eq, dMet, dTm, mem_h, mem_h2, onBool_eq, insOrNon, ρCopy_ref, ιItems, ιVals, ιKeys, lkW_same, dLockE, dLockS, ρCopyT_ref, ρInX_eq, itsD_tup, itsD_lst, itsD_ref, dStar, ρSortKI_ref, ρRemX_ref, dForM, dLcR, Cs_shape, Cs__calls, ne___eq_____calls, ne___eq____shape, ne___init_____calls, ne___init____shape, ne__calls____eq__, ne__calls____init__, ne__calls__call, ne__calls__calls, ne__calls__demand_ends, ne__calls__end, ne__calls__free_outlets, ne__calls__has_outlet, ne__calls__is_behind_free, ne__calls__is_blocked, ne__calls__is_front_free, ne__calls__look_at_ends, ne__calls__middles, ne__calls__shape, ne__calls__twin, ne__calls__ways, ne_call___calls, ne_call__shape, ne_calls___calls, ne_calls__shape, ne_demand_ends___calls, ne_demand_ends__shape, ne_end___calls, ne_end__shape, ne_free_outlets___calls, ne_free_outlets__shape, ne_has_outlet___calls, ne_has_outlet__shape, ne_is_behind_free___calls, ne_is_behind_free__shape, ne_is_blocked___calls, ne_is_blocked__shape, ne_is_front_free___calls, ne_is_front_free__shape, ne_look_at_ends___calls, ne_look_at_ends__shape, ne_middles___calls, ne_middles__shape, ne_shape____eq__, ne_shape____init__, ne_shape___calls, ne_shape__call, ne_shape__calls, ne_shape__demand_ends, ne_shape__end, ne_shape__free_outlets, ne_shape__has_outlet, ne_shape__is_behind_free, ne_shape__is_blocked, ne_shape__is_front_free, ne_shape__look_at_ends, ne_shape__middles, ne_shape__twin, ne_shape__ways, ne_twin___calls, ne_twin__shape, ne_ways___calls, ne_ways__shape, sp_is_in_eq, sp_is_tuple_eq, sp_demand_eq]
  refine dSeq_step fun Z hZ => ?_
  try simp! only [true_and, h.ins, ix0]
  refine ⟨div_ok ⟨by omega, by omega⟩, hZ _ _ ?_⟩
  clear hZ Z
  try simp! only [true_and]
  refine ⟨q, cKV f.cs, h.cs, ?_⟩
  try simp! only [true_and, insAt_ne h.ne, h.ins, items_c]
  intro L hL
  have naL : a ≠ L := by
    rintro rfl
    rw [tset_ne h.ne, insAt_iff.mp h.ins] at hL
    cases hL
  refine lc_fmT (l := f.cs) (g := fun c => D.tup [.int c.1, .tup [.int c.2.1, .int c.2.2]]) (fun c => some (.bl (decide (c.1 / f.s.n = i / f.s.n) && decide (c.2.2 = m)))) (sz1000 (by omega)) (fun c hc acc k' hk' => ?_) ?_
  · try simp! only [true_and, insAt_ne naL, insAt_ne h.ne, h.ins, ix0]
    refine ⟨div_ok ⟨by omega, by omega⟩, ?_⟩
    by_cases c1 : c.1 / f.s.n = i / f.s.n
    · simp only [c1, decide_true, Bool.true_and] at hk' ⊢
      try simp! only [true_and]
      exact hk'
    · simp only [c1, decide_false, Bool.false_and] at hk' ⊢
      try simp! only [true_and]
      exact hk'
  rw [show f.cs.filterMap (fun c => some (D.bl (decide (c.1 / f.s.n = i / f.s.n) && decide (c.2.2 = m)))) = f.cs.map fun c => D.bl (decide (c.1 / f.s.n = i / f.s.n) && decide (c.2.2 = m)) from fm_some _ _]
  try simp! only [true_and, tset_del hL]
  refine ⟨tset_same, ?_⟩
  rw [tset_tset, tset_self h.cs, List.any_map]
  exact Fin.same hk
/-! ### Fabric_is_behind_free -/
theorem sc_Fabric_is_behind_free : FnScope ["self", "outlet", "middle", "switch", "one", "other"] ["self", "outlet", "middle"] (defScope s_Fabric_is_behind_free) := ⟨rfl, rfl, rfl, by decide +kernel, rfl, by decide +kernel, by decide +kernel⟩
theorem bn_Fabric_is_behind_free (M : Mod K mg) : L2.Binds K M.f_Fabric_is_behind_free.choose ["self", "outlet", "middle"] [] := fun_binds M.f_Fabric_is_behind_free.choose_spec fun _ _ _ _ _ _ us hl => match us, hl with | [_, _, _], _ => rfl
def behindB (s : Shp) (cs : List C3) (o m : Int) : Bool := cs.any fun c => decide (c.2.1 / s.n = o / s.n) && decide (c.2.2 = m)
def sp_Fabric_is_behind_free (K : PySem.W.Frag) : SpD := fun τ ds k KE => ∃ (a : Addr) (o m : Int) (q : Addr) (f : Fb), ds = [.ref a, .int o, .int m] ∧ (FabAt K τ a q f ∧ f.Ok ∧ k τ (.bl (!behindB f.s f.cs o m)))
theorem sp_Fabric_is_behind_free_of {K : PySem.W.Frag} {τ : TD} {k : DK} {KE : XD} {a : Addr} {o m : Int} {q : Addr} {f : Fb} (h_ : FabAt K τ a q f ∧ f.Ok ∧ k τ (.bl (!behindB f.s f.cs o m))) : sp_Fabric_is_behind_free K τ [.ref a, .int o, .int m] k KE := ⟨_, _, _, _, _, rfl, h_⟩
theorem ok_Fabric_is_behind_free (M : Mod K mg) : FnD prog w K mg base (TT K) 2 (He.fAd K ("Fabric", some "is_behind_free")) M.f_Fabric_is_behind_free.choose ["self", "outlet", "middle"] (sp_Fabric_is_behind_free K) := by
  refine fnD_of M.f_Fabric_is_behind_free.choose_spec sc_Fabric_is_behind_free fun KE => ⟨_, fun cdv A outer s H E hr => (pdss_cons (pds_set (i := 3) sc_Fabric_is_behind_free.nd rfl (by first | exact .inl rfl | exact .inr rfl) (pd_op op_fdiv ok_div (pd_var (pv 1)) (pd_ix ix_seq ok_ix (pd_fld (Cs := Cs_shape K) (fld_shape M) (pd_var (pv 0))) pd_int))) (pdss_one (pds_ret (pd_not (pd_callB (cr_any rfl) ok_any rfl M.b_any boot_any (pda_cons (pd_lock (pd_lc rfl sc_Fabric_is_behind_free.nd (pdi_vals (pd_fld (Cs := Cs__calls K) (fld__calls M) (pd_var (pv 0)))) (show BlkOk ["self", "outlet", "middle", "switch", "one", "other"] (defScope s_Fabric_is_behind_free) _ [("one", 4), ("other", 5)] from blk_of (by decide +kernel)) (fun _ _ _ _ _ => pdn_two (i := 4) (j := 5) rfl sc_Fabric_is_behind_free.nd rfl rfl (.inl rfl) (.inl rfl) (by decide) (by decide)) (fun _ _ _ _ _ => pdts_nil) (fun _ _ _ _ _ => (pd_and (pd_cmp (op_eqU (room_eq hr)) ok_eqR (pd_op op_fdiv ok_div (pd_var (pv 4)) (pd_ix ix_seq ok_ix (pd_fld (Cs := Cs_shape K) (fld_shape M) (pd_var (pv 0))) pd_int)) (pd_var (pv 3)) (nomark _)) (pd_one (pd_cmp (op_eqU (room_eq hr)) ok_eqR (pd_var (pv 5)) (pd_var (pv 2)) (nomark _))))))) pda_nil)))))), ?_⟩
  intro τ ds k hl h
  unfold sp_Fabric_is_behind_free at h
  obtain ⟨a, o, m, q, f, rfl, hh⟩ := h
  obtain ⟨h, ok, hk⟩ := hh
  have hl := ok.len
  have on := ok.s.n
  have ix0 : ∀ (τ : TD) (k : DK), ρIx τ (shD f.s) (.int 0) k = k τ (.int f.s.n) := fun τ k => by simp only [shD, dVar, dC, dOp, dUn, dTest_eq, dAnd, dOr, dNot, dAndV_eq, dOrV_eq, dNotV_eq, dIf, dChain_eq, dNil, dCons, dTup, dLst, dLstM, dCB, dBM, dNoPart, dPart_eq, dSl, dCall, dCallK, dNext, dBrk, dCnt, dSeq, dDrop, dRet, dRetN, dIfS, γName, γNil, γCons, γSub, dAsg, dPar, dPar3, dAug, ιSeq_eq, ιZip, ιRng1_eq, ιRng2_eq, dFor, dLc, dLcM, dYes, dT, dTold, onBl_eq, onInt_eq, onSeq_lst, onSeq_tup, onSeq_str, onSome_eq, lstAt_same, dRaise, startD, List.map_cons, List.map_nil, List.length_cons, List.length_nil, List.replicate_succ, List.replicate_zero, List.cons_append, List.nil_append, List.append_nil, List.getElem?_cons_zero, List.getElem?_cons_succ, List.set_cons_zero, List.set_cons_succ, Nat.reduceAdd, Nat.reduceSub, Nat.zero_add, Nat.sub_self, ρEq_int, ρEq_str, ρEq_bl, ρNe_int, ρNe_str, ρNe_bl, ρEq_t3, ρNe_t3, ρEq_t2, ρNe_t2, intsOf_mapf, strsOf_mapf, blsOf_mapf, gK_01_0, gK_02_01, gK_02_10, gK_03_012, gK_03_021, gK_03_102, gK_03_120, gK_03_201, gK_03_210, gK_11_0, gK_12_01, gK_12_10, gK_13_012, gK_13_021, gK_13_102, gK_13_120, gK_13_201, gK_13_210, dLstRg, ρLstOM_eq, seqAt_lst, seqAt_tup, seqAt_ref, ρMulT_int, ρMulT_str, ρMulT_tup, ρInU_one, ρPopAt_ref, eq_self, Bool.not_true, Bool.not_false, decide_true, decide_false, strsOf_c0, strsOf_c1, strsOf_c2, strsOf_c3, strsOf_c4, strsOf_c5, strsOf_c6, strsOf_c7, strsOf_c8, intsOf_c0, intsOf_c1, intsOf_c2, intsOf_c3, intsOf_c4, intsOf_c5, intsOf_c6, intsOf_c7, intsOf_c8, blsOf_c0, blsOf_c1, blsOf_c2, blsOf_c3, blsOf_c4, blsOf_c5, blsOf_c6, blsOf_c7, blsOf_c8, ixN_30, ixN_31, ixN_32, wipeD, if_true, if_false, Bool.false_eq_true, Bool.true_eq_false, true_and, and_true, ρAdd_int, ρAdd_str, ρAdd_tup, ρAdd_lst, ρAdd_rl, ρI_int, ρI0_int, ρMul_int, ρMul_str, ρNeg_int, ρCmp_int, ρCmp_str, ρIsN_eq, ρNotN_eq, isNonD_bl, isNonD_int, isNonD_str, isNonD_tup, isNonD_lst, isNonD_ref, isNonD_non, ρSgn_one, ρAbs_int, ρMax_two, ρMin_two, ρMax_lst, ρMin_lst, ρInt_int, ρInt_bl, ρStr_int, ρLen_str, ρLen_tup, ρLen_lst, ρLen_ref, ρSum_lst, ρAll_lst, ρAny_lst, ρTupO_tup, ρTupO_lst, ρIsi_eq, is_non_int, is_non_bool, is_non_str, is_non_tuple, is_non_list, is_bl_int, is_bl_bool, is_bl_str, is_bl_tuple, is_bl_list, is_int_int, is_int_bool, is_int_str, is_int_tuple, is_int_list, is_str_int, is_str_bool, is_str_str, is_str_tuple, is_str_list, is_tup_int, is_tup_bool, is_tup_str, is_tup_tuple, is_tup_list, is_lst_int, is_lst_bool, is_lst_str, is_lst_tuple, is_lst_list, tyN_non, tyN_bl, tyN_int, tyN_str, tyN_tup, tyN_lst, ρIx_tup, ρIx_lst, ρIx_str, ρIx_ref, ρSl_str, ρSl_lst, ρSl_tup, ρApp_ref, θLst_ref, θStr_str, ςLst_ref, ρJoin_lst, γTup_tup, atI_0, atI_1, atI_2, atI_3, atI_4, atI_5, atI_6, atI_7, ρEqR_eq, ρNeR_eq, resD_non, resD_bl, resD_int, resD_str, resD_tup, resD_lst, eqA_nn, eqA_ii, eqA_bb, eqA_ss, eqA_ni, eqA_in, eqA_nb, eqA_bn, eqA_ns, eqA_sn, eqA_is, eqA_si, eqA_tt, eqA_ll, eqA_tl, eqA_lt, eqA_tn, eqA_nt, eqA_ti', eqA_it, eqA_ts, eqA_st, shB_non, shB_bl, shB_int, shB_str, shB_t63, shB_t62, shB_t61, shB_t60, shB_t59, shB_l63, shB_l62, shB_l61, shB_l60, shBs_nil, shBs_cons, shBs_append, shBs_ints, eqDs_nil, eqDs_cons, eqDs_cn, eqDs_nc, eqDs_ints, eqDs_strs, eqD_ii, eqD_bb, eqD_ss, eqD_tt, eqD_ll, eqD_nn, ρLstO_seq, ρTupO_ref, Option.isSome_some, dNewK, dNewT, dGetK, dGetT, dInK, dInT, dPutK, dPutT, dAugK, dAugT, dGet2K, dGet2T, dPop1K, onRef_eq, dkAt_same, dtAt_same, dkW_same, dtW_same, keyOf_int, keyOf_str, keysOf_ii, keysOf_iii, ιEnum_eq, onSq_tup, onSq_lst, ρLtV_int, ρLtV_str, ρLtV_tup, ρPop_ref, ρIdx_lst, dFld, dSFld, dSFldAug, dMeth, dMake, dMethK, dMakeK, dEqI, insAt_same, lkF_cons, lkF_nil, putFD_cons, putFD_nil, ρIsC_non, ρIsC_ref, ρLenD_eq, dSortIt, ρSortD_eq, ρMinD_eq, ρMaxD_eq, dMet, dTm, mem_h, mem_h2, onBool_eq, insOrNon, ρCopy_ref, ιItems, ιVals, ιKeys, lkW_same, dLockE, dLockS, ρCopyT_ref, ρInX_eq, itsD_tup, itsD_lst, itsD_ref, dStar, ρSortKI_ref, ρRemX_ref, dForM, dLcR, Cs_shape, Cs__calls, ne___eq_____calls, ne___eq____shape, ne___init_____calls, ne___init____shape, ne__calls____eq__, ne__calls____init__, ne__calls__call, ne__calls__calls, ne__calls__demand_ends, ne__calls__end, ne__calls__free_outlets, ne__calls__has_outlet, ne__calls__is_behind_free, ne__calls__is_blocked, ne__calls__is_front_free, ne__calls__look_at_ends, ne__calls__middles, ne__calls__shape, ne__calls__twin, ne__calls__ways, ne_call___calls, ne_call__shape, ne_calls___calls, ne_calls__shape, ne_demand_ends___calls, ne_demand_ends__shape, ne_end___calls, ne_end__shape, ne_free_outlets___calls, ne_free_outlets__shape, ne_has_outlet___calls, ne_has_outlet__shape, ne_is_behind_free___calls, ne_is_behind_free__shape, ne_is_blocked___calls, ne_is_blocked__shape, ne_is_front_free___calls, ne_is_front_free__shape, ne_look_at_ends___calls, ne_look_at_ends__shape, ne_middles___calls, ne_middles__shape, ne_shape____eq__, ne_shape____init__, ne_shape___calls, ne_shape__call, ne_shape__calls, ne_shape__demand_ends, ne_shape__end, ne_shape__free_outlets, ne_shape__has_outlet, ne_shape__is_behind_free, ne_shape__is_blocked, ne_shape__is_front_free, ne_shape__look_at_ends, ne_shape__middles, ne_shape__twin, ne_shape__ways, ne_twin___calls, ne_twin__shape, ne_ways___calls, ne_ways__shape, sp_is_in_eq, sp_is_tuple_eq, sp_demand_eq]
  refine dSeq_step fun Z hZ => ?_
  try simp! only [true_and, h.ins, ix0]
  refine ⟨div_ok ⟨by omega, by omega⟩, hZ _ _ ?_⟩
  clear hZ Z
  try simp! only [true_and]
  refine ⟨q, cKV f.cs, h.cs, ?_⟩
  try simp! only [true_and, insAt_ne h.ne, h.ins, vals_c]
  intro L hL
  have naL : a ≠ L := by
    rintro rfl
    rw [tset_ne h.ne, insAt_iff.mp h.ins] at hL
    cases hL
  refine lc_fmT (l := f.cs) (g := fun c => D.tup [.int c.2.1, .int c.2.2]) (fun c => some (.bl (decide (c.2.1 / f.s.n = o / f.s.n) && decide (c.2.2 = m)))) (sz1000 (by omega)) (fun c hc acc k' hk' => ?_) ?_
  · try simp! only [true_and, insAt_ne naL, insAt_ne h.ne, h.ins, ix0]
    refine ⟨div_ok ⟨by omega, by omega⟩, ?_⟩
    by_cases c1 : c.2.1 / f.s.n = o / f.s.n
    · simp only [c1, decide_true, Bool.true_and] at hk' ⊢
      try simp! only [true_and]
      exact hk'
    · simp only [c1, decide_false, Bool.false_and] at hk' ⊢
      try simp! only [true_and]
      exact hk'
  rw [show f.cs.filterMap (fun c => some (D.bl (decide (c.2.1 / f.s.n = o / f.s.n) && decide (c.2.2 = m)))) = f.cs.map fun c => D.bl (decide (c.2.1 / f.s.n = o / f.s.n) && decide (c.2.2 = m)) from fm_some _ _]
  try simp! only [true_and, tset_del hL]
  refine ⟨tset_same, ?_⟩
  rw [tset_tset, tset_self h.cs, List.any_map]
  exact Fin.same hk
/-! ### Fabric_look_at_ends -/
theorem sc_Fabric_look_at_ends : FnScope ["self", "inlet", "outlet"] ["self", "inlet", "outlet"] (defScope s_Fabric_look_at_ends) := ⟨rfl, rfl, rfl, by decide +kernel, rfl, by decide +kernel, by decide +kernel⟩
theorem bn_Fabric_look_at_ends (M : Mod K mg) : L2.Binds K M.f_Fabric_look_at_ends.choose ["self", "inlet", "outlet"] [] := fun_binds M.f_Fabric_look_at_ends.choose_spec fun _ _ _ _ _ _ us hl => match us, hl with | [_, _, _], _ => rfl
theorem look_in {l : List C3} {i : Int} : (lookD (cKV l) (.inl i)).isSome = decide (i ∈ l.map (·.1)) := by
  by_cases h : i ∈ l.map (·.1)
  · rw [decide_eq_true h]
    unfold lookD
    rw [Option.isSome_map, List.find?_isSome]
    obtain ⟨p, hp, e⟩ := List.mem_map.mp h
    exact ⟨_, by unfold cKV; exact List.mem_map_of_mem hp, by simpa using e⟩
  · rw [decide_eq_false h]
    unfold lookD
    rw [Option.isSome_map, Option.isSome_eq_false_iff, Option.isNone_iff_eq_none, List.find?_eq_none]
    intro p hp e
    unfold cKV at hp
    obtain ⟨c, hc, rfl⟩ := List.mem_map.mp hp
    exact h (List.mem_map.mpr ⟨c, hc, by simpa using e⟩)
def endsW (cs : List C3) (i o : Int) : Option Str := if i ∈ cs.map (·.1) then some "inlet" else if hasOut cs o = true then some "outlet" else none
def sp_Fabric_look_at_ends (K : PySem.W.Frag) : SpD := fun τ ds k KE => ∃ (a : Addr) (i o : Int) (q : Addr) (f : Fb), ds = [.ref a, .int i, .int o] ∧ (FabAt K τ a q f ∧ f.Ok ∧ (∀ w, endsW f.cs i o = some w → KE τ (He.ga K "NotPossible") "word" (.str w)) ∧ (endsW f.cs i o = none → k τ .non))
theorem sp_Fabric_look_at_ends_of {K : PySem.W.Frag} {τ : TD} {k : DK} {KE : XD} {a : Addr} {i o : Int} {q : Addr} {f : Fb} (h_ : FabAt K τ a q f ∧ f.Ok ∧ (∀ w, endsW f.cs i o = some w → KE τ (He.ga K "NotPossible") "word" (.str w)) ∧ (endsW f.cs i o = none → k τ .non)) : sp_Fabric_look_at_ends K τ [.ref a, .int i, .int o] k KE := ⟨_, _, _, _, _, rfl, h_⟩
theorem ok_Fabric_look_at_ends (M : Mod K mg) : FnD prog w K mg base (TT K) 3 (He.fAd K ("Fabric", some "look_at_ends")) M.f_Fabric_look_at_ends.choose ["self", "inlet", "outlet"] (sp_Fabric_look_at_ends K) := by
  refine fnD_of M.f_Fabric_look_at_ends.choose_spec sc_Fabric_look_at_ends fun KE => ⟨_, fun cdv A outer s H E hr => (pdss_cons (pds_if (pdt_inK (room_eq hr) (pd_var (pv 1)) (pd_fld (Cs := Cs__calls K) (fld__calls M) (pd_var (pv 0)))) (pdss_one (pds_raise rfl .word M.e_NotPossible hr takeD rfl (pda_cons pd_str pda_nil))) pdss_nil) (pdss_one (pds_if (pdt_val (pd_meth M.cl_Fabric M.me_Fabric_has_outlet (ok_Fabric_has_outlet M) (hr.mono (by decide)) (bn_Fabric_has_outlet M) .nil .nil passD (pd_var (pv 0)) (pda_cons (pd_var (pv 2)) pda_nil))) (pdss_one (pds_raise rfl .word M.e_NotPossible hr takeD rfl (pda_cons pd_str pda_nil))) pdss_nil))), ?_⟩
  intro τ ds k hl h
  unfold sp_Fabric_look_at_ends at h
  obtain ⟨a, i, o, q, f, rfl, hh⟩ := h
  obtain ⟨h, ok, h1, h2⟩ := hh
  unfold endsW at h1 h2
  refine dSeq_step fun Z hZ => ?_
  try simp! only [true_and, h.ins, dkAt_of h.cs, look_in]
  by_cases c1 : i ∈ f.cs.map (·.1)
  · simp only [c1, decide_true, Bool.false_xor, if_true] at h1 ⊢
    exact FinX.same (h1 _ rfl)
  · simp only [c1, decide_false, Bool.false_xor, Bool.false_eq_true, if_false] at h1 h2 ⊢
    refine hZ _ _ ?_
    clear hZ Z
    try simp! only [true_and, h.ins]
    refine sp_Fabric_has_outlet_of ⟨h, ok, ?_⟩
    try simp! only [true_and]
    cases c2 : hasOut f.cs o with
    | true =>
      simp only [c2, if_true] at h1 ⊢
      exact FinX.same (h1 _ rfl)
    | false =>
      simp only [c2, Bool.false_eq_true, if_false] at h2 ⊢
      exact Fin.same (h2 trivial)
/-! ### Fabric_demand_ends -/
theorem sc_Fabric_demand_ends : FnScope ["self", "inlet", "outlet"] ["self", "inlet", "outlet"] (defScope s_Fabric_demand_ends) := ⟨rfl, rfl, rfl, by decide +kernel, rfl, by decide +kernel, by decide +kernel⟩
theorem bn_Fabric_demand_ends (M : Mod K mg) : L2.Binds K M.f_Fabric_demand_ends.choose ["self", "inlet", "outlet"] [] := fun_binds M.f_Fabric_demand_ends.choose_spec fun _ _ _ _ _ _ us hl => match us, hl with | [_, _, _], _ => rfl
def sp_Fabric_demand_ends (K : PySem.W.Frag) : SpD := fun τ ds k KE => ∃ (a : Addr) (v w : D) (q : Addr) (f : Fb), ds = [.ref a, v, w] ∧ (FabAt K τ a q f ∧ f.Ok ∧ (tyN v).isSome = true ∧ (isInD v 0 (f.s.ends - 1) = false → bad K KE τ "inlet") ∧ (isInD v 0 (f.s.ends - 1) = true → (tyN w).isSome = true ∧ (isInD w 0 (f.s.ends - 1) = false → bad K KE τ "outlet") ∧ (isInD w 0 (f.s.ends - 1) = true → k τ .non)))
theorem sp_Fabric_demand_ends_of {K : PySem.W.Frag} {τ : TD} {k : DK} {KE : XD} {a : Addr} {v w : D} {q : Addr} {f : Fb} (h_ : FabAt K τ a q f ∧ f.Ok ∧ (tyN v).isSome = true ∧ (isInD v 0 (f.s.ends - 1) = false → bad K KE τ "inlet") ∧ (isInD v 0 (f.s.ends - 1) = true → (tyN w).isSome = true ∧ (isInD w 0 (f.s.ends - 1) = false → bad K KE τ "outlet") ∧ (isInD w 0 (f.s.ends - 1) = true → k τ .non))) : sp_Fabric_demand_ends K τ [.ref a, v, w] k KE := ⟨_, _, _, _, _, rfl, h_⟩
theorem ok_Fabric_demand_ends (M : Mod K mg) : FnD prog w K mg base (TT K) 3 (He.fAd K ("Fabric", some "demand_ends")) M.f_Fabric_demand_ends.choose ["self", "inlet", "outlet"] (sp_Fabric_demand_ends K) := by
  refine fnD_of M.f_Fabric_demand_ends.choose_spec sc_Fabric_demand_ends fun KE => ⟨_, fun cdv A outer s H E hr => (pdss_cons (pds_expr (pd_call (ok_demand M) (hr.mono (by decide)) rfl M.g_demand M.f_demand.choose_spec.kp (bn_demand M) .nil .nil passD (pda_cons (pd_call (ok_is_in M) (hr.mono (by decide)) rfl M.g_is_in M.f_is_in.choose_spec.kp (bn_is_in M) .nil .nil passD (pda_cons (pd_var (pv 1)) (pda_cons pd_int (pda_cons (pd_op op_sub ok_sub (pd_call (ok_ends_of M) (hr.mono (by decide)) rfl M.g_ends_of M.f_ends_of.choose_spec.kp (bn_ends_of M) .nil .nil passD (pda_cons (pd_fld (Cs := Cs_shape K) (fld_shape M) (pd_var (pv 0))) pda_nil)) pd_int) pda_nil)))) (pda_cons pd_str pda_nil)))) (pdss_one (pds_expr (pd_call (ok_demand M) (hr.mono (by decide)) rfl M.g_demand M.f_demand.choose_spec.kp (bn_demand M) .nil .nil passD (pda_cons (pd_call (ok_is_in M) (hr.mono (by decide)) rfl M.g_is_in M.f_is_in.choose_spec.kp (bn_is_in M) .nil .nil passD (pda_cons (pd_var (pv 2)) (pda_cons pd_int (pda_cons (pd_op op_sub ok_sub (pd_call (ok_ends_of M) (hr.mono (by decide)) rfl M.g_ends_of M.f_ends_of.choose_spec.kp (bn_ends_of M) .nil .nil passD (pda_cons (pd_fld (Cs := Cs_shape K) (fld_shape M) (pd_var (pv 0))) pda_nil)) pd_int) pda_nil)))) (pda_cons pd_str pda_nil)))))), ?_⟩
  intro τ ds k hl h
  unfold sp_Fabric_demand_ends at h
  obtain ⟨a, v, w, q, f, rfl, hh⟩ := h
  obtain ⟨h, ok, hv, h1, h2⟩ := hh
  refine dSeq_step fun Z hZ => ?_
  try simp! only [true_and, h.ins]
  refine sp_ends_of_of ⟨ok.s, ?_⟩
  try simp! only [true_and]
  refine ⟨hv, ?_⟩
  cases e1 : isInD v 0 (f.s.ends - 1) with
  | false =>
    simp only [Bool.false_eq_true, if_false]
    exact FinX.same (h1 e1)
  | true =>
    obtain ⟨hw, h3, h4⟩ := h2 e1
    simp only [if_true]
    refine hZ _ _ ?_
    clear hZ Z
    try simp! only [true_and, h.ins]
    refine sp_ends_of_of ⟨ok.s, ?_⟩
    try simp! only [true_and]
    refine ⟨hw, ?_⟩
    cases e2 : isInD w 0 (f.s.ends - 1) with
    | false =>
      simp only [Bool.false_eq_true, if_false]
      exact FinX.same (h3 e2)
    | true =>
      simp only [if_true]
      exact Fin.same (h4 e2)
end
end LW

set_option Elab.async false
set_option linter.all false
set_option maxRecDepth 100000
set_option maxHeartbeats 0
namespace LW
open PySem PySem.Spec PyProof.Rows L2 DL DX
section
variable {w : World} {K : PySem.W.Frag} {mg : Str → Option Value} {base : Heap}
local macro_rules | `(tactic| simp! only [$xs,*]) => `(tactic| simp only [dVar, dC, dOp, dUn, dTest_eq, dAnd, dOr, dNot, dAndV_eq, dOrV_eq, dNotV_eq, dIf, dChain_eq, dNil, dCons, dTup, dLst, dLstM, dCB, dBM, dNoPart, dPart_eq, dSl, dCall, dCallK, dNext, dBrk, dCnt, dSeq, dDrop, dRet, dRetN, dIfS, γName, γNil, γCons, γSub, dAsg, dPar, dPar3, dAug, ιSeq_eq, ιZip, ιRng1_eq, ιRng2_eq, dFor, dLc, dLcM, dYes, dT, dTold, onBl_eq, onInt_eq, onSeq_lst, onSeq_tup, onSeq_str, onSome_eq, lstAt_same, dRaise, startD, List.map_cons, List.map_nil, List.length_cons, List.length_nil, List.replicate_succ, List.replicate_zero, List.cons_append, List.nil_append, List.append_nil, List.getElem?_cons_zero, List.getElem?_cons_succ, List.set_cons_zero, List.set_cons_succ, Nat.reduceAdd, Nat.reduceSub, Nat.zero_add, Nat.sub_self, ρEq_int, ρEq_str, ρEq_bl, ρNe_int, ρNe_str, ρNe_bl, ρEq_t3, ρNe_t3, ρEq_t2, ρNe_t2, intsOf_mapf, strsOf_mapf, blsOf_mapf, gK_01_0, gK_02_01, gK_02_10, gK_03_012, gK_03_021, gK_03_102, gK_03_120, gK_03_201, gK_03_210, gK_11_0, gK_12_01, gK_12_10, gK_13_012, gK_13_021, gK_13_102, gK_13_120, gK_13_201, gK_13_210, dLstRg, ρLstOM_eq, seqAt_lst, seqAt_tup, seqAt_ref, ρMulT_int, ρMulT_str, ρMulT_tup, ρInU_one, ρPopAt_ref, eq_self, Bool.not_true, Bool.not_false, decide_true, decide_false, strsOf_c0, strsOf_c1, strsOf_c2, strsOf_c3, strsOf_c4, strsOf_c5, strsOf_c6, strsOf_c7, strsOf_c8, intsOf_c0, intsOf_c1, intsOf_c2, intsOf_c3, intsOf_c4, intsOf_c5, intsOf_c6, intsOf_c7, intsOf_c8, blsOf_c0, blsOf_c1, blsOf_c2, blsOf_c3, blsOf_c4, blsOf_c5, blsOf_c6, blsOf_c7, blsOf_c8, ixN_30, ixN_31, ixN_32, wipeD, if_true, if_false, Bool.false_eq_true, Bool.true_eq_false, true_and, and_true, ρAdd_int, ρAdd_str, ρAdd_tup, ρAdd_lst, ρAdd_rl, ρI_int, ρI0_int, ρMul_int, ρMul_str, ρNeg_int, ρCmp_int, ρCmp_str, ρIsN_eq, ρNotN_eq, isNonD_bl, isNonD_int, isNonD_str, isNonD_tup, isNonD_lst, isNonD_ref, isNonD_non, ρSgn_one, ρAbs_int, ρMax_two, ρMin_two, ρMax_lst, ρMin_lst, ρInt_int, ρInt_bl, ρStr_int, ρLen_str, ρLen_tup, ρLen_lst, ρLen_ref, ρSum_lst, ρAll_lst, ρAny_lst, ρTupO_tup, ρTupO_lst, ρIsi_eq, is_non_int, is_non_bool, is_non_str, is_non_tuple, is_non_list, is_bl_int, is_bl_bool, is_bl_str, is_bl_tuple, is_bl_list, is_int_int, is_int_bool, is_int_str, is_int_tuple, is_int_list, is_str_int, is_str_bool, is_str_str, is_str_tuple, is_str_list, is_tup_int, is_tup_bool, is_tup_str, is_tup_tuple, is_tup_list, is_lst_int, is_lst_bool, is_lst_str, is_lst_tuple, is_lst_list, tyN_non, tyN_bl, tyN_int, tyN_str, tyN_tup, tyN_lst, ρIx_tup, ρIx_lst, ρIx_str, ρIx_ref, ρSl_str, ρSl_lst, ρSl_tup, ρApp_ref, θLst_ref, θStr_str, ςLst_ref, ρJoin_lst, γTup_tup, atI_0, atI_1, atI_2, atI_3, atI_4, atI_5, atI_6, atI_7, ρEqR_eq, ρNeR_eq, resD_non, resD_bl, resD_int, resD_str, resD_tup, resD_lst, eqA_nn, eqA_ii, eqA_bb, eqA_ss, eqA_ni, eqA_in, eqA_nb, eqA_bn, eqA_ns, eqA_sn, eqA_is, eqA_si, eqA_tt, eqA_ll, eqA_tl, eqA_lt, eqA_tn, eqA_nt, eqA_ti', eqA_it, eqA_ts, eqA_st, shB_non, shB_bl, shB_int, shB_str, shB_t63, shB_t62, shB_t61, shB_t60, shB_t59, shB_l63, shB_l62, shB_l61, shB_l60, shBs_nil, shBs_cons, shBs_append, shBs_ints, eqDs_nil, eqDs_cons, eqDs_cn, eqDs_nc, eqDs_ints, eqDs_strs, eqD_ii, eqD_bb, eqD_ss, eqD_tt, eqD_ll, eqD_nn, ρLstO_seq, ρTupO_ref, Option.isSome_some, dNewK, dNewT, dGetK, dGetT, dInK, dInT, dPutK, dPutT, dAugK, dAugT, dGet2K, dGet2T, dPop1K, onRef_eq, dkAt_same, dtAt_same, dkW_same, dtW_same, keyOf_int, keyOf_str, keysOf_ii, keysOf_iii, ιEnum_eq, onSq_tup, onSq_lst, ρLtV_int, ρLtV_str, ρLtV_tup, ρPop_ref, ρIdx_lst, dFld, dSFld, dSFldAug, dMeth, dMake, dMethK, dMakeK, dEqI, insAt_same, lkF_cons, lkF_nil, putFD_cons, putFD_nil, ρIsC_non, ρIsC_ref, ρLenD_eq, dSortIt, ρSortD_eq, ρMinD_eq, ρMaxD_eq, dMet, dTm, mem_h, mem_h2, onBool_eq, insOrNon, ρCopy_ref, ιItems, ιVals, ιKeys, lkW_same, dLockE, dLockS, ρCopyT_ref, ρInX_eq, itsD_tup, itsD_lst, itsD_ref, dStar, ρSortKI_ref, ρRemX_ref, dForM, dLcR, Cs_shape, Cs__calls, ne___eq_____calls, ne___eq____shape, ne___init_____calls, ne___init____shape, ne__calls____eq__, ne__calls____init__, ne__calls__call, ne__calls__calls, ne__calls__demand_ends, ne__calls__end, ne__calls__free_outlets, ne__calls__has_outlet, ne__calls__is_behind_free, ne__calls__is_blocked, ne__calls__is_front_free, ne__calls__look_at_ends, ne__calls__middles, ne__calls__shape, ne__calls__twin, ne__calls__ways, ne_call___calls, ne_call__shape, ne_calls___calls, ne_calls__shape, ne_demand_ends___calls, ne_demand_ends__shape, ne_end___calls, ne_end__shape, ne_free_outlets___calls, ne_free_outlets__shape, ne_has_outlet___calls, ne_has_outlet__shape, ne_is_behind_free___calls, ne_is_behind_free__shape, ne_is_blocked___calls, ne_is_blocked__shape, ne_is_front_free___calls, ne_is_front_free__shape, ne_look_at_ends___calls, ne_look_at_ends__shape, ne_middles___calls, ne_middles__shape, ne_shape____eq__, ne_shape____init__, ne_shape___calls, ne_shape__call, ne_shape__calls, ne_shape__demand_ends, ne_shape__end, ne_shape__free_outlets, ne_shape__has_outlet, ne_shape__is_behind_free, ne_shape__is_blocked, ne_shape__is_front_free, ne_shape__look_at_ends, ne_shape__middles, ne_shape__twin, ne_shape__ways, ne_twin___calls, ne_twin__shape, ne_ways___calls, ne_ways__shape, sp_is_in_eq, sp_is_tuple_eq, sp_demand_eq, $xs,*])
local macro_rules | `(tactic| dsimp! only [$xs,*]) => `(tactic| simp only [dVar, dC, dOp, dUn, dTest_eq, dAnd, dOr, dNot, dAndV_eq, dOrV_eq, dNotV_eq, dIf, dChain_eq, dNil, dCons, dTup, dLst, dLstM, dCB, dBM, dNoPart, dPart_eq, dSl, dCall, dCallK, dNext, dBrk, dCnt, dDrop, dRet, dRetN, dIfS, γName, γNil, γCons, γSub, dAsg, dPar, dPar3, dAug, ιSeq_eq, ιZip, ιRng1_eq, ιRng2_eq, dFor, dLc, dLcM, dYes, dT, dTold, onBl_eq, onInt_eq, onSeq_lst, onSeq_tup, onSeq_str, onSome_eq, lstAt_same, dRaise, startD, List.map_cons, List.map_nil, List.length_cons, List.length_nil, List.replicate_succ, List.replicate_zero, List.cons_append, List.nil_append, List.append_nil, List.getElem?_cons_zero, List.getElem?_cons_succ, List.set_cons_zero, List.set_cons_succ, Nat.reduceAdd, Nat.reduceSub, Nat.zero_add, Nat.sub_self, ρEq_int, ρEq_str, ρEq_bl, ρNe_int, ρNe_str, ρNe_bl, ρEq_t3, ρNe_t3, ρEq_t2, ρNe_t2, intsOf_mapf, strsOf_mapf, blsOf_mapf, gK_01_0, gK_02_01, gK_02_10, gK_03_012, gK_03_021, gK_03_102, gK_03_120, gK_03_201, gK_03_210, gK_11_0, gK_12_01, gK_12_10, gK_13_012, gK_13_021, gK_13_102, gK_13_120, gK_13_201, gK_13_210, dLstRg, ρLstOM_eq, seqAt_lst, seqAt_tup, seqAt_ref, ρMulT_int, ρMulT_str, ρMulT_tup, ρInU_one, ρPopAt_ref, eq_self, Bool.not_true, Bool.not_false, decide_true, decide_false, strsOf_c0, strsOf_c1, strsOf_c2, strsOf_c3, strsOf_c4, strsOf_c5, strsOf_c6, strsOf_c7, strsOf_c8, intsOf_c0, intsOf_c1, intsOf_c2, intsOf_c3, intsOf_c4, intsOf_c5, intsOf_c6, intsOf_c7, intsOf_c8, blsOf_c0, blsOf_c1, blsOf_c2, blsOf_c3, blsOf_c4, blsOf_c5, blsOf_c6, blsOf_c7, blsOf_c8, ixN_30, ixN_31, ixN_32, wipeD, if_true, if_false, Bool.false_eq_true, Bool.true_eq_false, true_and, and_true, ρAdd_int, ρAdd_str, ρAdd_tup, ρAdd_lst, ρAdd_rl, ρI_int, ρI0_int, ρMul_int, ρMul_str, ρNeg_int, ρCmp_int, ρCmp_str, ρIsN_eq, ρNotN_eq, isNonD_bl, isNonD_int, isNonD_str, isNonD_tup, isNonD_lst, isNonD_ref, isNonD_non, ρSgn_one, ρAbs_int, ρMax_two, ρMin_two, ρMax_lst, ρMin_lst, ρInt_int, ρInt_bl, ρStr_int, ρLen_str, ρLen_tup, ρLen_lst, ρLen_ref, ρSum_lst, ρAll_lst, ρAny_lst, ρTupO_tup, ρTupO_lst, ρIsi_eq, is_non_int, is_non_bool, is_non_str, is_non_tuple, is_non_list, is_bl_int, is_bl_bool, is_bl_str, is_bl_tuple, is_bl_list, is_int_int, is_int_bool, is_int_str, is_int_tuple, is_int_list, is_str_int, is_str_bool, is_str_str, is_str_tuple, is_str_list, is_tup_int, is_tup_bool, is_tup_str, is_tup_tuple, is_tup_list, is_lst_int, is_lst_bool, is_lst_str, is_lst_tuple, is_lst_list, tyN_non, tyN_bl, tyN_int, tyN_str, tyN_tup, tyN_lst, ρIx_tup, ρIx_lst, ρIx_str, ρIx_ref, ρSl_str, ρSl_lst, ρSl_tup, ρApp_ref, θLst_ref, θStr_str, ςLst_ref, ρJoin_lst, γTup_tup, atI_0, atI_1, atI_2, atI_3, atI_4, atI_5, atI_6, atI_7, ρEqR_eq, ρNeR_eq, resD_non, resD_bl, resD_int, resD_str, resD_tup, resD_lst, eqA_nn, eqA_ii, eqA_bb, eqA_ss, eqA_ni, eqA_in, eqA_nb, eqA_bn, eqA_ns, eqA_sn, eqA_is, eqA_si, eqA_tt, eqA_ll, eqA_tl, eqA_lt, eqA_tn, eqA_nt, eqA_ti', eqA_it, eqA_ts, eqA_st, shB_non, shB_bl, shB_int, shB_str, shB_t63, shB_t62, shB_t61, shB_t60, shB_t59, shB_l63, shB_l62, shB_l61, shB_l60, shBs_nil, shBs_cons, shBs_append, shBs_ints, eqDs_nil, eqDs_cons, eqDs_cn, eqDs_nc, eqDs_ints, eqDs_strs, eqD_ii, eqD_bb, eqD_ss, eqD_tt, eqD_ll, eqD_nn, ρLstO_seq, ρTupO_ref, Option.isSome_some, dNewK, dNewT, dGetK, dGetT, dInK, dInT, dPutK, dPutT, dAugK, dAugT, dGet2K, dGet2T, dPop1K, onRef_eq, dkAt_same, dtAt_same, dkW_same, dtW_same, keyOf_int, keyOf_str, keysOf_ii, keysOf_iii, ιEnum_eq, onSq_tup, onSq_lst, ρLtV_int, ρLtV_str, ρLtV_tup, ρPop_ref, ρIdx_lst, dFld, dSFld, dSFldAug, dMeth, dMake, dMethK, dMakeK, dEqI, insAt_same, lkF_cons, lkF_nil, putFD_cons, putFD_nil, ρIsC_non, ρIsC_ref, ρLenD_eq, dSortIt, ρSortD_eq, ρMinD_eq, ρMaxD_eq, dMet, dTm, mem_h, mem_h2, onBool_eq, insOrNon, ρCopy_ref, ιItems, ιVals, ιKeys, lkW_same, dLockE, dLockS, ρCopyT_ref, ρInX_eq, itsD_tup, itsD_lst, itsD_ref, dStar, ρSortKI_ref, ρRemX_ref, dForM, dLcR, Cs_shape, Cs__calls, ne___eq_____calls, ne___eq____shape, ne___init_____calls, ne___init____shape, ne__calls____eq__, ne__calls____init__, ne__calls__call, ne__calls__calls, ne__calls__demand_ends, ne__calls__end, ne__calls__free_outlets, ne__calls__has_outlet, ne__calls__is_behind_free, ne__calls__is_blocked, ne__calls__is_front_free, ne__calls__look_at_ends, ne__calls__middles, ne__calls__shape, ne__calls__twin, ne__calls__ways, ne_call___calls, ne_call__shape, ne_calls___calls, ne_calls__shape, ne_demand_ends___calls, ne_demand_ends__shape, ne_end___calls, ne_end__shape, ne_free_outlets___calls, ne_free_outlets__shape, ne_has_outlet___calls, ne_has_outlet__shape, ne_is_behind_free___calls, ne_is_behind_free__shape, ne_is_blocked___calls, ne_is_blocked__shape, ne_is_front_free___calls, ne_is_front_free__shape, ne_look_at_ends___calls, ne_look_at_ends__shape, ne_middles___calls, ne_middles__shape, ne_shape____eq__, ne_shape____init__, ne_shape___calls, ne_shape__call, ne_shape__calls, ne_shape__demand_ends, ne_shape__end, ne_shape__free_outlets, ne_shape__has_outlet, ne_shape__is_behind_free, ne_shape__is_blocked, ne_shape__is_front_free, ne_shape__look_at_ends, ne_shape__middles, ne_shape__twin, ne_shape__ways, ne_twin___calls, ne_twin__shape, ne_ways___calls, ne_ways__shape, sp_is_in_eq, sp_is_tuple_eq, sp_demand_eq, $xs,*])
/-! ### Fabric_call -/
theorem sc_Fabric_call : FnScope ["self", "inlet", "outlet", "middle"] ["self", "inlet", "outlet", "middle"] (defScope s_Fabric_call) := ⟨rfl, rfl, rfl, by decide +kernel, rfl, by decide +kernel, by decide +kernel⟩
theorem bn_Fabric_call (M : Mod K mg) : L2.Binds K M.f_Fabric_call.choose ["self", "inlet", "outlet", "middle"] [] := fun_binds M.f_Fabric_call.choose_spec fun _ _ _ _ _ _ us hl => match us, hl with | [_, _, _, _], _ => rfl
def canW (s : Shp) (cs : List C3) (i o m : Int) : Option Str := if i ∈ cs.map (·.1) then some "inlet" else if hasOut cs o = true then some "outlet" else if frontB s cs i m = true then some "front" else if behindB s cs o m = true then some "behind" else none
theorem put_c {l : List C3} {c : C3} (h : c.1 ∉ l.map (·.1)) : putD (cKV l) (.inl c.1) (.tup [.int c.2.1, .int c.2.2]) = cKV (l ++ [c]) := by
  have e : ((cKV l).any fun p => decide (p.1 = Sum.inl c.1)) = false := by
    rw [List.any_eq_false]
    intro p hp
    unfold cKV at hp
    obtain ⟨q, hq, rfl⟩ := List.mem_map.mp hp
    intro z
    have z : q.1 = c.1 := by simpa using z
    exact h (List.mem_map.mpr ⟨q, hq, z⟩)
  unfold putD
  rw [e]
  simp [cKV]
def sp_Fabric_call (K : PySem.W.Frag) : SpD := fun τ ds k KE => ∃ (a : Addr) (v w x : D) (q : Addr) (f : Fb), ds = [.ref a, v, w, x] ∧ (FabAt K τ a q f ∧ f.Ok ∧ (tyN v).isSome = true ∧ (isInD v 0 (f.s.ends - 1) = false → bad K KE τ "inlet") ∧ (isInD v 0 (f.s.ends - 1) = true → (tyN w).isSome = true ∧ (isInD w 0 (f.s.ends - 1) = false → bad K KE τ "outlet") ∧ (isInD w 0 (f.s.ends - 1) = true → (tyN x).isSome = true ∧ (isInD x 0 (f.s.m - 1) = false → bad K KE τ "middle") ∧ ∀ i o m : Int, v = .int i → w = .int o → x = .int m → (0 ≤ m ∧ m ≤ f.s.m - 1) → (∀ u, canW f.s f.cs i o m = some u → KE τ (He.ga K "NotPossible") "word" (.str u)) ∧ (canW f.s f.cs i o m = none → ∀ τ', FabAt K τ' a q { f with cs := f.cs ++ [(i, o, m)] } → SubX [a, q] τ τ' → k τ' .non))))
theorem sp_Fabric_call_of {K : PySem.W.Frag} {τ : TD} {k : DK} {KE : XD} {a : Addr} {v w x : D} {q : Addr} {f : Fb} (h_ : FabAt K τ a q f ∧ f.Ok ∧ (tyN v).isSome = true ∧ (isInD v 0 (f.s.ends - 1) = false → bad K KE τ "inlet") ∧ (isInD v 0 (f.s.ends - 1) = true → (tyN w).isSome = true ∧ (isInD w 0 (f.s.ends - 1) = false → bad K KE τ "outlet") ∧ (isInD w 0 (f.s.ends - 1) = true → (tyN x).isSome = true ∧ (isInD x 0 (f.s.m - 1) = false → bad K KE τ "middle") ∧ ∀ i o m : Int, v = .int i → w = .int o → x = .int m → (0 ≤ m ∧ m ≤ f.s.m - 1) → (∀ u, canW f.s f.cs i o m = some u → KE τ (He.ga K "NotPossible") "word" (.str u)) ∧ (canW f.s f.cs i o m = none → ∀ τ', FabAt K τ' a q { f with cs := f.cs ++ [(i, o, m)] } → SubX [a, q] τ τ' → k τ' .non)))) : sp_Fabric_call K τ [.ref a, v, w, x] k KE := ⟨_, _, _, _, _, _, rfl, h_⟩
theorem ok_Fabric_call (M : Mod K mg) : FnD prog w K mg base (TT K) 4 (He.fAd K ("Fabric", some "call")) M.f_Fabric_call.choose ["self", "inlet", "outlet", "middle"] (sp_Fabric_call K) := by
  refine fnD_of M.f_Fabric_call.choose_spec sc_Fabric_call fun KE => ⟨_, fun cdv A outer s H E hr => (pdss_cons (pds_expr (pd_meth M.cl_Fabric M.me_Fabric_demand_ends (ok_Fabric_demand_ends M) (hr.mono (by decide)) (bn_Fabric_demand_ends M) .nil .nil passD (pd_var (pv 0)) (pda_cons (pd_var (pv 1)) (pda_cons (pd_var (pv 2)) pda_nil)))) (pdss_cons (pds_expr (pd_call (ok_demand M) (hr.mono (by decide)) rfl M.g_demand M.f_demand.choose_spec.kp (bn_demand M) .nil .nil passD (pda_cons (pd_call (ok_is_in M) (hr.mono (by decide)) rfl M.g_is_in M.f_is_in.choose_spec.kp (bn_is_in M) .nil .nil passD (pda_cons (pd_var (pv 3)) (pda_cons pd_int (pda_cons (pd_op op_sub ok_sub (pd_ix ix_seq ok_ix (pd_fld (Cs := Cs_shape K) (fld_shape M) (pd_var (pv 0))) pd_int) pd_int) pda_nil)))) (pda_cons pd_str pda_nil)))) (pdss_cons (pds_expr (pd_meth M.cl_Fabric M.me_Fabric_look_at_ends (ok_Fabric_look_at_ends M) (hr.mono (by decide)) (bn_Fabric_look_at_ends M) .nil .nil passD (pd_var (pv 0)) (pda_cons (pd_var (pv 1)) (pda_cons (pd_var (pv 2)) pda_nil)))) (pdss_cons (pds_if (pdt_not (pdt_val (pd_meth M.cl_Fabric M.me_Fabric_is_front_free (ok_Fabric_is_front_free M) (hr.mono (by decide)) (bn_Fabric_is_front_free M) .nil .nil passD (pd_var (pv 0)) (pda_cons (pd_var (pv 1)) (pda_cons (pd_var (pv 3)) pda_nil))))) (pdss_one (pds_raise rfl .word M.e_NotPossible hr takeD rfl (pda_cons pd_str pda_nil))) pdss_nil) (pdss_cons (pds_if (pdt_not (pdt_val (pd_meth M.cl_Fabric M.me_Fabric_is_behind_free (ok_Fabric_is_behind_free M) (hr.mono (by decide)) (bn_Fabric_is_behind_free M) .nil .nil passD (pd_var (pv 0)) (pda_cons (pd_var (pv 2)) (pda_cons (pd_var (pv 3)) pda_nil))))) (pdss_one (pds_raise rfl .word M.e_NotPossible hr takeD rfl (pda_cons pd_str pda_nil))) pdss_nil) (pdss_one (pds_putK (room_eq hr) (pd_tup (pda_cons (pd_var (pv 2)) (pda_cons (pd_var (pv 3)) pda_nil))) (pd_fld (Cs := Cs__calls K) (fld__calls M) (pd_var (pv 0))) (pd_var (pv 1))))))))), ?_⟩
  intro τ ds k hl h
  unfold sp_Fabric_call at h
  obtain ⟨a, v, w, x, q, f, rfl, hh⟩ := h
  obtain ⟨h, ok, hv, h1, h2⟩ := hh
  have ix1 : ∀ (τ : TD) (k : DK), ρIx τ (shD f.s) (.int 1) k = k τ (.int f.s.m) := fun τ k => by simp only [shD, dVar, dC, dOp, dUn, dTest_eq, dAnd, dOr, dNot, dAndV_eq, dOrV_eq, dNotV_eq, dIf, dChain_eq, dNil, dCons, dTup, dLst, dLstM, dCB, dBM, dNoPart, dPart_eq, dSl, dCall, dCallK, dNext, dBrk, dCnt, dSeq, dDrop, dRet, dRetN, dIfS, γName, γNil, γCons, γSub, dAsg, dPar, dPar3, dAug, ιSeq_eq, ιZip, ιRng1_eq, ιRng2_eq, dFor, dLc, dLcM, dYes, dT, dTold, onBl_eq, onInt_eq, onSeq_lst, onSeq_tup, onSeq_str, onSome_eq, lstAt_same, dRaise, startD, List.map_cons, List.map_nil, List.length_cons, List.length_nil, List.replicate_succ, List.replicate_zero, List.cons_append, List.nil_append, List.append_nil, List.getElem?_cons_zero, List.getElem?_cons_succ, List.set_cons_zero, List.set_cons_succ, Nat.reduceAdd, Nat.reduceSub, Nat.zero_add, Nat.sub_self, ρEq_int, ρEq_str, ρEq_bl, ρNe_int, ρNe_str, ρNe_bl, ρEq_t3, ρNe_t3, ρEq_t2, ρNe_t2, intsOf_mapf, strsOf_mapf, blsOf_mapf, gK_01_0, gK_02_01, gK_02_10, gK_03_012, gK_03_021, gK_03_102, gK_03_120, gK_03_201, gK_03_210, gK_11_0, gK_12_01, gK_12_10, gK_13_012, gK_13_021, gK_13_102, gK_13_120, gK_13_201, gK_13_210, dLstRg, ρLstOM_eq, seqAt_lst, seqAt_tup, seqAt_ref, ρMulT_int, ρMulT_str, ρMulT_tup, ρInU_one, ρPopAt_ref, eq_self, Bool.not_true, Bool.not_false, decide_true, decide_false, strsOf_c0, strsOf_c1, strsOf_c2, strsOf_c3, strsOf_c4, strsOf_c5, strsOf_c6, strsOf_c7, strsOf_c8, intsOf_c0, intsOf_c1, intsOf_c2, intsOf_c3, intsOf_c4, intsOf_c5, intsOf_c6, intsOf_c7, intsOf_c8, blsOf_c0, blsOf_c1, blsOf_c2, blsOf_c3, blsOf_c4, blsOf_c5, blsOf_c6, blsOf_c7, blsOf_c8, ixN_30, ixN_31, ixN_32, wipeD, if_true, if_false, Bool.false_eq_true, Bool.true_eq_false, true_and, and_true, ρAdd_int, ρAdd_str, ρAdd_tup, ρAdd_lst, ρAdd_rl, ρI_int, ρI0_int, ρMul_int, ρMul_str, ρNeg_int, ρCmp_int, ρCmp_str, ρIsN_eq, ρNotN_eq, isNonD_bl, isNonD_int, isNonD_str, isNonD_tup, isNonD_lst, isNonD_ref, isNonD_non, ρSgn_one, ρAbs_int, ρMax_two, ρMin_two, ρMax_lst, ρMin_lst, ρInt_int, ρInt_bl, ρStr_int, ρLen_str, ρLen_tup, ρLen_lst, ρLen_ref, ρSum_lst, ρAll_lst, ρAny_lst, ρTupO_tup, ρTupO_lst, ρIsi_eq, is_non_int, is_non_bool, is_non_str, is_non_tuple, is_non_list, is_bl_int, is_bl_bool, is_bl_str, is_bl_tuple, is_bl_list, is_int_int, is_int_bool, is_int_str, is_int_tuple, is_int_list, is_str_int, is_str_bool, is_str_str, is_str_tuple, is_str_list, is_tup_int, is_tup_bool, is_tup_str, is_tup_tuple, is_tup_list, is_lst_int, is_lst_bool, is_lst_str, is_lst_tuple, is_lst_list, tyN_non, tyN_bl, tyN_int, tyN_str, tyN_tup, tyN_lst, ρIx_tup, ρIx_lst, ρIx_str, ρIx_ref, ρSl_str, ρSl_lst, ρSl_tup, ρApp_ref, θLst_ref, θStr_str, ςLst_ref, ρJoin_lst, γTup_tup, atI_0, atI_1, atI_2, atI_3, atI_4, atI_5, atI_6, atI_7, ρEqR_eq, ρNeR_eq, resD_non, resD_bl, resD_int, resD_str, resD_tup, resD_lst, eqA_nn, eqA_ii, eqA_bb, eqA_ss, eqA_ni, eqA_in, eqA_nb, eqA_bn, eqA_ns, eqA_sn, eqA_is, eqA_si, eqA_tt, eqA_ll, eqA_tl, eqA_lt, eqA_tn, eqA_nt, eqA_ti', eqA_it, eqA_ts, eqA_st, shB_non, shB_bl, shB_int, shB_str, shB_t63, shB_t62, shB_t61, shB_t60, shB_t59, shB_l63, shB_l62, shB_l61, shB_l60, shBs_nil, shBs_cons, shBs_append, shBs_ints, eqDs_nil, eqDs_cons, eqDs_cn, eqDs_nc, eqDs_ints, eqDs_strs, eqD_ii, eqD_bb, eqD_ss, eqD_tt, eqD_ll, eqD_nn, ρLstO_seq, ρTupO_ref, Option.isSome_some, dNewK, dNewT, dGetK, dGetT, dInK, dInT, dPutK, dPutT, dAugK, dAugT, dGet2K, dGet2T, dPop1K, onRef_eq, dkAt_same, dtAt_same, dkW_same, dtW_same, keyOf_int, keyOf_str, keysOf_ii, keysOf_iii, ιEnum_eq, onSq_tup, onSq_lst, ρLtV_int, ρLtV_str, ρLtV_tup, ρPop_ref, ρIdx_lst, dFld, dSFld, dSFldAug, dMeth, dMake, dMethK, dMakeK, dEqI, insAt_same, lkF_cons, lkF_nil, putFD_cons, putFD_nil, ρIsC_non, ρIsC_ref, ρLenD_eq, dSortIt, ρSortD_eq, ρMinD_eq, ρMaxD_eq, dMet, dTm, mem_h, mem_h2, onBool_eq, insOrNon, ρCopy_ref, ιItems, ιVals, ιKeys, lkW_same, dLockE, dLockS, ρCopyT_ref, ρInX_eq, itsD_tup, itsD_lst, itsD_ref, dStar, ρSortKI_ref, ρRemX_ref, dForM, dLcR, Cs_shape, Cs__calls, ne___eq_____calls, ne___eq____shape, ne___init_____calls, ne___init____shape, ne__calls____eq__, ne__calls____init__, ne__calls__call, ne__calls__calls, ne__calls__demand_ends, ne__calls__end, ne__calls__free_outlets, ne__calls__has_outlet, ne__calls__is_behind_free, ne__calls__is_blocked, ne__calls__is_front_free, ne__calls__look_at_ends, ne__calls__middles, ne__calls__shape, ne__calls__twin, ne__calls__ways, ne_call___calls, ne_call__shape, ne_calls___calls, ne_calls__shape, ne_demand_ends___calls, ne_demand_ends__shape, ne_end___calls, ne_end__shape, ne_free_outlets___calls, ne_free_outlets__shape, ne_has_outlet___calls, ne_has_outlet__shape, ne_is_behind_free___calls, ne_is_behind_free__shape, ne_is_blocked___calls, ne_is_blocked__shape, ne_is_front_free___calls, ne_is_front_free__shape, ne_look_at_ends___calls, ne_look_at_ends__shape, ne_middles___calls, ne_middles__shape, ne_shape____eq__, ne_shape____init__, ne_shape___calls, ne_shape__call, ne_shape__calls, ne_shape__demand_ends, ne_shape__end, ne_shape__free_outlets, ne_shape__has_outlet, ne_shape__is_behind_free, ne_shape__is_blocked, ne_shape__is_front_free, ne_shape__look_at_ends, ne_shape__middles, ne_shape__twin, ne_shape__ways, ne_twin___calls, ne_twin__shape, ne_ways___calls, ne_ways__shape, sp_is_in_eq, sp_is_tuple_eq, sp_demand_eq]
  have hl := ok.len
  refine dSeq_step fun Z hZ => ?_
  try simp! only [true_and, h.ins]
  refine sp_Fabric_demand_ends_of ⟨h, ok, hv, fun e => FinX.same (h1 e), fun e => ⟨(h2 e).1, fun e2 => FinX.same ((h2 e).2.1 e2), fun e2 => hZ _ _ ?_⟩⟩
  clear hZ Z
  obtain ⟨i, rfl, hi⟩ := isInD_int e
  obtain ⟨o, rfl, ho⟩ := isInD_int e2
  obtain ⟨hx, h3, h4⟩ := (h2 e).2.2 e2
  refine dSeq_step fun Z hZ => ?_
  try simp! only [true_and, h.ins, ix1]
  refine ⟨hx, ?_⟩
  cases e3 : isInD x 0 (f.s.m - 1) with
  | false =>
    simp only [Bool.false_eq_true, if_false]
    exact FinX.same (h3 e3)
  | true =>
  simp only [if_true]
  obtain ⟨m, rfl, hm⟩ := isInD_int e3
  obtain ⟨h5, h6⟩ := h4 i o m rfl rfl rfl hm
  unfold canW at h5 h6
  refine hZ _ _ ?_
  clear hZ Z
  refine dSeq_step fun Z hZ => ?_
  try simp! only [true_and, h.ins]
  refine sp_Fabric_look_at_ends_of ⟨h, ok, fun u hu => FinX.same (h5 u ?_), fun hn => hZ _ _ ?_⟩
  · unfold endsW at hu
    split at hu
    · rename_i c; rw [if_pos c]; exact hu
    · rename_i c; rw [if_neg c]
      split at hu
      · rename_i c2; rw [if_pos c2]; exact hu
      · cases hu
  clear hZ Z
  unfold endsW at hn
  have c1 : i ∉ f.cs.map (·.1) := fun z => by rw [if_pos z] at hn; cases hn
  rw [if_neg c1] at hn
  have c2 : hasOut f.cs o = false := by
    cases e : hasOut f.cs o with
    | false => rfl
    | true => rw [if_pos e] at hn; cases hn
  rw [if_neg c1, c2, if_neg (by decide)] at h5 h6
  refine dSeq_step fun Z hZ => ?_
  try simp! only [true_and, h.ins]
  refine sp_Fabric_is_front_free_of ⟨h, ok, ?_⟩
  cases c3 : frontB f.s f.cs i m with
  | true =>
    rw [c3, if_pos rfl] at h5
    try simp! only [true_and]
    exact FinX.same (h5 _ rfl)
  | false =>
  rw [c3, if_neg (by decide)] at h5 h6
  try simp! only [true_and]
  refine hZ _ _ ?_
  clear hZ Z
  refine dSeq_step fun Z hZ => ?_
  try simp! only [true_and, h.ins]
  refine sp_Fabric_is_behind_free_of ⟨h, ok, ?_⟩
  cases c4 : behindB f.s f.cs o m with
  | true =>
    rw [c4, if_pos rfl] at h5
    try simp! only [true_and]
    exact FinX.same (h5 _ rfl)
  | false =>
  rw [c4, if_neg (by decide)] at h6
  try simp! only [true_and]
  refine hZ _ _ ?_
  clear hZ Z
  try simp! only [true_and, h.ins, dkW_of h.cs, len_c]
  refine ⟨szn, Nat.lt_of_lt_of_le (show f.cs.length < 1000 by omega) szn, Fin.same (h6 rfl _ ⟨?_, ?_⟩ ?_)⟩
  · rw [insAt_ne h.ne]; exact h.ins
  · rw [tset_same, put_c (c := (i, o, m)) c1]
  · exact SubX.refl.set (by simp)
/-! ### Fabric_end -/
theorem sc_Fabric_end : FnScope ["self", "inlet"] ["self", "inlet"] (defScope s_Fabric_end) := ⟨rfl, rfl, rfl, by decide +kernel, rfl, by decide +kernel, by decide +kernel⟩
theorem bn_Fabric_end (M : Mod K mg) : L2.Binds K M.f_Fabric_end.choose ["self", "inlet"] [] := fun_binds M.f_Fabric_end.choose_spec fun _ _ _ _ _ _ us hl => match us, hl with | [_, _], _ => rfl
theorem del_c (l : List C3) (i : Int) : delD (cKV l) (.inl i) = cKV (l.filter fun p => !decide (p.1 = i)) := by
  unfold delD cKV
  rw [List.filter_map]
  congr 2
  funext p
  simp
def sp_Fabric_end (K : PySem.W.Frag) : SpD := fun τ ds k KE => ∃ (a : Addr) (v : D) (q : Addr) (f : Fb), ds = [.ref a, v] ∧ (FabAt K τ a q f ∧ f.Ok ∧ (tyN v).isSome = true ∧ (isInD v 0 (f.s.ends - 1) = false → bad K KE τ "inlet") ∧ ∀ i : Int, v = .int i → (0 ≤ i ∧ i ≤ f.s.ends - 1) → (i ∉ f.cs.map (·.1) → KE τ (He.ga K "NotPossible") "word" (.str "inlet")) ∧ (i ∈ f.cs.map (·.1) → ∀ τ', FabAt K τ' a q { f with cs := f.cs.filter fun p => !decide (p.1 = i) } → SubX [a, q] τ τ' → k τ' .non))
theorem sp_Fabric_end_of {K : PySem.W.Frag} {τ : TD} {k : DK} {KE : XD} {a : Addr} {v : D} {q : Addr} {f : Fb} (h_ : FabAt K τ a q f ∧ f.Ok ∧ (tyN v).isSome = true ∧ (isInD v 0 (f.s.ends - 1) = false → bad K KE τ "inlet") ∧ ∀ i : Int, v = .int i → (0 ≤ i ∧ i ≤ f.s.ends - 1) → (i ∉ f.cs.map (·.1) → KE τ (He.ga K "NotPossible") "word" (.str "inlet")) ∧ (i ∈ f.cs.map (·.1) → ∀ τ', FabAt K τ' a q { f with cs := f.cs.filter fun p => !decide (p.1 = i) } → SubX [a, q] τ τ' → k τ' .non)) : sp_Fabric_end K τ [.ref a, v] k KE := ⟨_, _, _, _, rfl, h_⟩
theorem ok_Fabric_end (M : Mod K mg) : FnD prog w K mg base (TT K) 3 (He.fAd K ("Fabric", some "end")) M.f_Fabric_end.choose ["self", "inlet"] (sp_Fabric_end K) := by
  refine fnD_of M.f_Fabric_end.choose_spec sc_Fabric_end fun KE => ⟨_, fun cdv A outer s H E hr => (pdss_cons (pds_expr (pd_call (ok_demand M) (hr.mono (by decide)) rfl M.g_demand M.f_demand.choose_spec.kp (bn_demand M) .nil .nil passD (pda_cons (pd_call (ok_is_in M) (hr.mono (by decide)) rfl M.g_is_in M.f_is_in.choose_spec.kp (bn_is_in M) .nil .nil passD (pda_cons (pd_var (pv 1)) (pda_cons pd_int (pda_cons (pd_op op_sub ok_sub (pd_call (ok_ends_of M) (hr.mono (by decide)) rfl M.g_ends_of M.f_ends_of.choose_spec.kp (bn_ends_of M) .nil .nil passD (pda_cons (pd_fld (Cs := Cs_shape K) (fld_shape M) (pd_var (pv 0))) pda_nil)) pd_int) pda_nil)))) (pda_cons pd_str pda_nil)))) (pdss_cons (pds_if (pdt_ninK (room_eq hr) (pd_var (pv 1)) (pd_fld (Cs := Cs__calls K) (fld__calls M) (pd_var (pv 0)))) (pdss_one (pds_raise rfl .word M.e_NotPossible hr takeD rfl (pda_cons pd_str pda_nil))) pdss_nil) (pdss_one (pds_expr (pd_pop1K (pd_fld (Cs := Cs__calls K) (fld__calls M) (pd_var (pv 0))) (pd_var (pv 1))))))), ?_⟩
  intro τ ds k hl h
  unfold sp_Fabric_end at h
  obtain ⟨a, v, q, f, rfl, hh⟩ := h
  obtain ⟨h, ok, hv, h1, h2⟩ := hh
  refine dSeq_step fun Z hZ => ?_
  try simp! only [true_and, h.ins]
  refine sp_ends_of_of ⟨ok.s, ?_⟩
  try simp! only [true_and]
  refine ⟨hv, ?_⟩
  cases e1 : isInD v 0 (f.s.ends - 1) with
  | false =>
    simp only [Bool.false_eq_true, if_false]
    exact FinX.same (h1 e1)
  | true =>
  simp only [if_true]
  obtain ⟨i, rfl, hi⟩ := isInD_int e1
  obtain ⟨h3, h4⟩ := h2 i rfl hi
  refine hZ _ _ ?_
  clear hZ Z
  refine dSeq_step fun Z hZ => ?_
  try simp! only [true_and, h.ins, dkAt_of h.cs, look_in]
  by_cases c1 : i ∈ f.cs.map (·.1)
  · simp only [c1, decide_true, Bool.xor_true, Bool.not_true, Bool.false_eq_true, if_false]
    refine hZ _ _ ?_
    clear hZ Z
    obtain ⟨d, hd⟩ := Option.isSome_iff_exists.mp (look_in.trans (decide_eq_true c1))
    try simp! only [true_and, h.ins, dkAt_of h.cs, dkW_of h.cs, hd, del_c]
    refine Fin.same (h4 c1 _ ⟨?_, ?_⟩ ?_)
    · rw [insAt_ne h.ne]; exact h.ins
    · rw [tset_same]
    · exact SubX.refl.set (by simp)
  · simp only [c1, decide_false, Bool.xor_false, if_true]
    exact FinX.same (h3 c1)
/-! ### Fabric_ways -/
theorem sc_Fabric_ways : FnScope ["self", "inlet", "outlet", "found", "middle"] ["self", "inlet", "outlet"] (defScope s_Fabric_ways) := ⟨rfl, rfl, rfl, by decide +kernel, rfl, by decide +kernel, by decide +kernel⟩
theorem bn_Fabric_ways (M : Mod K mg) : L2.Binds K M.f_Fabric_ways.choose ["self", "inlet", "outlet"] [] := fun_binds M.f_Fabric_ways.choose_spec fun _ _ _ _ _ _ us hl => match us, hl with | [_, _, _], _ => rfl
def okM (s : Shp) (cs : List C3) (i o : Int) (m : Nat) : Bool := !frontB s cs i (m : Int) && !behindB s cs o (m : Int)
def waysL (s : Shp) (cs : List C3) (i o : Int) : List Int := ((List.range s.m.toNat).filter (okM s cs i o)).map fun (m : Nat) => (m : Int)
def sp_Fabric_ways (K : PySem.W.Frag) : SpD := fun τ ds k KE => ∃ (a : Addr) (i o : Int) (q : Addr) (f : Fb), ds = [.ref a, .int i, .int o] ∧ (FabAt K τ a q f ∧ f.Ok ∧ k τ (.tup ((waysL f.s f.cs i o).map D.int)))
theorem sp_Fabric_ways_of {K : PySem.W.Frag} {τ : TD} {k : DK} {KE : XD} {a : Addr} {i o : Int} {q : Addr} {f : Fb} (h_ : FabAt K τ a q f ∧ f.Ok ∧ k τ (.tup ((waysL f.s f.cs i o).map D.int))) : sp_Fabric_ways K τ [.ref a, .int i, .int o] k KE := ⟨_, _, _, _, _, rfl, h_⟩
theorem ok_Fabric_ways (M : Mod K mg) : FnD prog w K mg base (TT K) 3 (He.fAd K ("Fabric", some "ways")) M.f_Fabric_ways.choose ["self", "inlet", "outlet"] (sp_Fabric_ways K) := by
  refine fnD_of M.f_Fabric_ways.choose_spec sc_Fabric_ways fun KE => ⟨_, fun cdv A outer s H E hr => (pdss_cons (pds_set (i := 3) sc_Fabric_ways.nd rfl (by first | exact .inl rfl | exact .inr rfl) (pd_lstM pda_nil)) (pdss_cons (pds_for ownD rfl (pdi_range1 rfl M.b_range (pda_cons (pd_ix ix_seq ok_ix (pd_fld (Cs := Cs_shape K) (fld_shape M) (pd_var (pv 0))) pd_int) pda_nil)) (pdg_name (i := 4) sc_Fabric_ways.nd rfl (by first | exact .inl rfl | exact .inr rfl)) (pdss_one (pds_if (PDW.pt (pdw_and (pdt_val (pd_meth M.cl_Fabric M.me_Fabric_is_front_free (ok_Fabric_is_front_free M) (hr.mono (by decide)) (bn_Fabric_is_front_free M) .nil .nil passD (pd_var (pv 0)) (pda_cons (pd_var (pv 1)) (pda_cons (pd_var (pv 4)) pda_nil)))) (pdw_and1 (pdt_val (pd_meth M.cl_Fabric M.me_Fabric_is_behind_free (ok_Fabric_is_behind_free M) (hr.mono (by decide)) (bn_Fabric_is_behind_free M) .nil .nil passD (pd_var (pv 0)) (pda_cons (pd_var (pv 2)) (pda_cons (pd_var (pv 4)) pda_nil))))))) (pdss_one (pds_expr (pd_bm PySem.F.plainAttrs_list PySem.F.slot_list_append PySem.F.type_list_append mt_append ok_app ty_lst (pd_var (pv 3)) (pda_cons (pd_var (pv 4)) pda_nil)))) pdss_nil))) (pdss_one (pds_ret (pd_callTy cr_tupO ok_tupO rfl M.b_tuple boot_tuple (pda_cons (pd_var (pv 3)) pda_nil)))))), ?_⟩
  intro τ ds k hl h
  unfold sp_Fabric_ways at h
  obtain ⟨a, i, o, q, f, rfl, hh⟩ := h
  obtain ⟨h, ok, hk⟩ := hh
  have om := ok.s.m
  have ix1 : ∀ (τ : TD) (k : DK), ρIx τ (shD f.s) (.int 1) k = k τ (.int f.s.m) := fun τ k => by simp only [shD, dVar, dC, dOp, dUn, dTest_eq, dAnd, dOr, dNot, dAndV_eq, dOrV_eq, dNotV_eq, dIf, dChain_eq, dNil, dCons, dTup, dLst, dLstM, dCB, dBM, dNoPart, dPart_eq, dSl, dCall, dCallK, dNext, dBrk, dCnt, dSeq, dDrop, dRet, dRetN, dIfS, γName, γNil, γCons, γSub, dAsg, dPar, dPar3, dAug, ιSeq_eq, ιZip, ιRng1_eq, ιRng2_eq, dFor, dLc, dLcM, dYes, dT, dTold, onBl_eq, onInt_eq, onSeq_lst, onSeq_tup, onSeq_str, onSome_eq, lstAt_same, dRaise, startD, List.map_cons, List.map_nil, List.length_cons, List.length_nil, List.replicate_succ, List.replicate_zero, List.cons_append, List.nil_append, List.append_nil, List.getElem?_cons_zero, List.getElem?_cons_succ, List.set_cons_zero, List.set_cons_succ, Nat.reduceAdd, Nat.reduceSub, Nat.zero_add, Nat.sub_self, ρEq_int, ρEq_str, ρEq_bl, ρNe_int, ρNe_str, ρNe_bl, ρEq_t3, ρNe_t3, ρEq_t2, ρNe_t2, intsOf_mapf, strsOf_mapf, blsOf_mapf, gK_01_0, gK_02_01, gK_02_10, gK_03_012, gK_03_021, gK_03_102, gK_03_120, gK_03_201, gK_03_210, gK_11_0, gK_12_01, gK_12_10, gK_13_012, gK_13_021, gK_13_102, gK_13_120, gK_13_201, gK_13_210, dLstRg, ρLstOM_eq, seqAt_lst, seqAt_tup, seqAt_ref, ρMulT_int, ρMulT_str, ρMulT_tup, ρInU_one, ρPopAt_ref, eq_self, Bool.not_true, Bool.not_false, decide_true, decide_false, strsOf_c0, strsOf_c1, strsOf_c2, strsOf_c3, strsOf_c4, strsOf_c5, strsOf_c6, strsOf_c7, strsOf_c8, intsOf_c0, intsOf_c1, intsOf_c2, intsOf_c3, intsOf_c4, intsOf_c5, intsOf_c6, intsOf_c7, intsOf_c8, blsOf_c0, blsOf_c1, blsOf_c2, blsOf_c3, blsOf_c4, blsOf_c5, blsOf_c6, blsOf_c7, blsOf_c8, ixN_30, ixN_31, ixN_32, wipeD, if_true, if_false, Bool.false_eq_true, Bool.true_eq_false, true_and, and_true, ρAdd_int, ρAdd_str, ρAdd_tup, ρAdd_lst, ρAdd_rl, ρI_int, ρI0_int, ρMul_int, ρMul_str, ρNeg_int, ρCmp_int, ρCmp_str, ρIsN_eq, ρNotN_eq, isNonD_bl, isNonD_int, isNonD_str, isNonD_tup, isNonD_lst, isNonD_ref, isNonD_non, ρSgn_one, ρAbs_int, ρMax_two, ρMin_two, ρMax_lst, ρMin_lst, ρInt_int, ρInt_bl, ρStr_int, ρLen_str, ρLen_tup, ρLen_lst, ρLen_ref, ρSum_lst, ρAll_lst, ρAny_lst, ρTupO_tup, ρTupO_lst, ρIsi_eq, is_non_int, is_non_bool, is_non_str, is_non_tuple, is_non_list, is_bl_int, is_bl_bool, is_bl_str, is_bl_tuple, is_bl_list, is_int_int, is_int_bool, is_int_str, is_int_tuple, is_int_list, is_str_int, is_str_bool, is_str_str, is_str_tuple, is_str_list, is_tup_int, is_tup_bool, is_tup_str, is_tup_tuple, is_tup_list, is_lst_int, is_lst_bool, is_lst_str, is_lst_tuple, is_lst_list, tyN_non, tyN_bl, tyN_int, tyN_str, tyN_tup, tyN_lst, ρIx_tup, ρIx_lst, ρIx_str, ρIx_ref, ρSl_str, ρSl_lst, ρSl_tup, ρApp_ref, θLst_ref, θStr_str, ςLst_ref, ρJoin_lst, γTup_tup, atI_0, atI_1, atI_2, atI_3, atI_4, atI_5, atI_6, atI_7, ρEqR_eq, ρNeR_eq, resD_non, resD_bl, resD_int, resD_str, resD_tup, resD_lst, eqA_nn, eqA_ii, eqA_bb, eqA_ss, eqA_ni, eqA_in, eqA_nb, eqA_bn, eqA_ns, eqA_sn, eqA_is, eqA_si, eqA_tt, eqA_ll, eqA_tl, eqA_lt, eqA_tn, eqA_nt, eqA_ti', eqA_it, eqA_ts, eqA_st, shB_non, shB_bl, shB_int, shB_str, shB_t63, shB_t62, shB_t61, shB_t60, shB_t59, shB_l63, shB_l62, shB_l61, shB_l60, shBs_nil, shBs_cons, shBs_append, shBs_ints, eqDs_nil, eqDs_cons, eqDs_cn, eqDs_nc, eqDs_ints, eqDs_strs, eqD_ii, eqD_bb, eqD_ss, eqD_tt, eqD_ll, eqD_nn, ρLstO_seq, ρTupO_ref, Option.isSome_some, dNewK, dNewT, dGetK, dGetT, dInK, dInT, dPutK, dPutT, dAugK, dAugT, dGet2K, dGet2T, dPop1K, onRef_eq, dkAt_same, dtAt_same, dkW_same, dtW_same, keyOf_int, keyOf_str, keysOf_ii, keysOf_iii, ιEnum_eq, onSq_tup, onSq_lst, ρLtV_int, ρLtV_str, ρLtV_tup, ρPop_ref, ρIdx_lst, dFld, dSFld, dSFldAug, dMeth, dMake, dMethK, dMakeK, dEqI, insAt_same, lkF_cons, lkF_nil, putFD_cons, putFD_nil, ρIsC_non, ρIsC_ref, ρLenD_eq, dSortIt, ρSortD_eq, ρMinD_eq, ρMaxD_eq, dMet, dTm, mem_h, mem_h2, onBool_eq, insOrNon, ρCopy_ref, ιItems, ιVals, ιKeys, lkW_same, dLockE, dLockS, ρCopyT_ref, ρInX_eq, itsD_tup, itsD_lst, itsD_ref, dStar, ρSortKI_ref, ρRemX_ref, dForM, dLcR, Cs_shape, Cs__calls, ne___eq_____calls, ne___eq____shape, ne___init_____calls, ne___init____shape, ne__calls____eq__, ne__calls____init__, ne__calls__call, ne__calls__calls, ne__calls__demand_ends, ne__calls__end, ne__calls__free_outlets, ne__calls__has_outlet, ne__calls__is_behind_free, ne__calls__is_blocked, ne__calls__is_front_free, ne__calls__look_at_ends, ne__calls__middles, ne__calls__shape, ne__calls__twin, ne__calls__ways, ne_call___calls, ne_call__shape, ne_calls___calls, ne_calls__shape, ne_demand_ends___calls, ne_demand_ends__shape, ne_end___calls, ne_end__shape, ne_free_outlets___calls, ne_free_outlets__shape, ne_has_outlet___calls, ne_has_outlet__shape, ne_is_behind_free___calls, ne_is_behind_free__shape, ne_is_blocked___calls, ne_is_blocked__shape, ne_is_front_free___calls, ne_is_front_free__shape, ne_look_at_ends___calls, ne_look_at_ends__shape, ne_middles___calls, ne_middles__shape, ne_shape____eq__, ne_shape____init__, ne_shape___calls, ne_shape__call, ne_shape__calls, ne_shape__demand_ends, ne_shape__end, ne_shape__free_outlets, ne_shape__has_outlet, ne_shape__is_behind_free, ne_shape__is_blocked, ne_shape__is_front_free, ne_shape__look_at_ends, ne_shape__middles, ne_shape__twin, ne_shape__ways, ne_twin___calls, ne_twin__shape, ne_ways___calls, ne_ways__shape, sp_is_in_eq, sp_is_tuple_eq, sp_demand_eq]
  refine dSeq_step fun Z hZ => ?_
  try simp! only [true_and]
  refine ⟨szn, fun p hp => hZ _ _ ?_⟩
  clear hZ Z
  obtain ⟨na, nq⟩ := h.out hp
  refine dSeq_step fun Z hZ => ?_
  try simp! only [true_and, insAt_ne na, h.ins, ix1]
  refine ⟨⟨by omega, by omega⟩, ?_⟩
  refine loop_stn (α := Nat) (g := fun (i : Nat) => .int (0 + (i : Int))) (s0 := ()) (fun j _ τ' ds => τ' = tset τ p (.lst ((((List.range j).filter (okM f.s f.cs i o)).map fun (m : Nat) => (m : Int)).map D.int)) ∧ ∃ x, ds = [some (.ref a), some (.int i), some (.int o), some (.ref p), x]) (fun _ _ => ()) (List.range f.s.m.toNat) (fun j c hj hc _ τ' ds hI G hG => ?_) ⟨rfl, _, rfl⟩ (fun τ' ds hI => ?_)
  · obtain ⟨rfl, x, rfl⟩ := hI
    rw [List.length_range] at hj
    have hc : c = j := by
      rw [List.getElem?_range hj] at hc
      exact (Option.some.inj hc).symm
    subst hc
    have h1 := h.new (u := .lst ((((List.range c).filter (okM f.s f.cs i o)).map fun (m : Nat) => (m : Int)).map D.int)) hp
    try simp! only [true_and, h1.ins]
    refine sp_Fabric_is_front_free_of ⟨h1, ok, ?_⟩
    rw [Int.zero_add]
    cases c1 : frontB f.s f.cs i (c : Int) with
    | true =>
      try simp! only [true_and]
      refine hG _ _ ⟨?_, _, rfl⟩
      rw [List.range_succ, List.filter_append]
      simp [okM, c1]
    | false =>
      try simp! only [true_and, h1.ins]
      refine sp_Fabric_is_behind_free_of ⟨h1, ok, ?_⟩
      cases c2 : behindB f.s f.cs o (c : Int) with
      | true =>
        try simp! only [true_and]
        refine hG _ _ ⟨?_, _, rfl⟩
        rw [List.range_succ, List.filter_append]
        simp [okM, c1, c2]
      | false =>
        try simp! only [true_and, tset_tset]
        have := List.length_filter_le (okM f.s f.cs i o) (List.range c)
        rw [List.length_range] at this
        refine ⟨by rw [List.length_map, List.length_map]; exact Nat.lt_of_lt_of_le (show ((List.range c).filter (okM f.s f.cs i o)).length < 1000 by omega) szn, hG _ _ ⟨?_, _, rfl⟩⟩
        rw [List.range_succ, List.filter_append]
        simp [okM, c1, c2]
  · obtain ⟨rfl, x, rfl⟩ := hI
    rw [List.length_range]
    refine hZ _ _ ?_
    try simp! only [true_and]
    exact DL.Fin.sub (sub_tset hp) hk
/-! ### Fabric_middles -/
theorem sc_Fabric_middles : FnScope ["self", "inlet", "outlet"] ["self", "inlet", "outlet"] (defScope s_Fabric_middles) := ⟨rfl, rfl, rfl, by decide +kernel, rfl, by decide +kernel, by decide +kernel⟩
theorem bn_Fabric_middles (M : Mod K mg) : L2.Binds K M.f_Fabric_middles.choose ["self", "inlet", "outlet"] [] := fun_binds M.f_Fabric_middles.choose_spec fun _ _ _ _ _ _ us hl => match us, hl with | [_, _, _], _ => rfl
def sp_Fabric_middles (K : PySem.W.Frag) : SpD := fun τ ds k KE => ∃ (a : Addr) (v w : D) (q : Addr) (f : Fb), ds = [.ref a, v, w] ∧ (FabAt K τ a q f ∧ f.Ok ∧ (tyN v).isSome = true ∧ (isInD v 0 (f.s.ends - 1) = false → bad K KE τ "inlet") ∧ (isInD v 0 (f.s.ends - 1) = true → (tyN w).isSome = true ∧ (isInD w 0 (f.s.ends - 1) = false → bad K KE τ "outlet") ∧ ∀ i o : Int, v = .int i → w = .int o → (0 ≤ o ∧ o ≤ f.s.ends - 1) → (∀ u, endsW f.cs i o = some u → KE τ (He.ga K "NotPossible") "word" (.str u)) ∧ (endsW f.cs i o = none → k τ (.tup ((waysL f.s f.cs i o).map D.int)))))
theorem sp_Fabric_middles_of {K : PySem.W.Frag} {τ : TD} {k : DK} {KE : XD} {a : Addr} {v w : D} {q : Addr} {f : Fb} (h_ : FabAt K τ a q f ∧ f.Ok ∧ (tyN v).isSome = true ∧ (isInD v 0 (f.s.ends - 1) = false → bad K KE τ "inlet") ∧ (isInD v 0 (f.s.ends - 1) = true → (tyN w).isSome = true ∧ (isInD w 0 (f.s.ends - 1) = false → bad K KE τ "outlet") ∧ ∀ i o : Int, v = .int i → w = .int o → (0 ≤ o ∧ o ≤ f.s.ends - 1) → (∀ u, endsW f.cs i o = some u → KE τ (He.ga K "NotPossible") "word" (.str u)) ∧ (endsW f.cs i o = none → k τ (.tup ((waysL f.s f.cs i o).map D.int))))) : sp_Fabric_middles K τ [.ref a, v, w] k KE := ⟨_, _, _, _, _, rfl, h_⟩
theorem ok_Fabric_middles (M : Mod K mg) : FnD prog w K mg base (TT K) 4 (He.fAd K ("Fabric", some "middles")) M.f_Fabric_middles.choose ["self", "inlet", "outlet"] (sp_Fabric_middles K) := by
  refine fnD_of M.f_Fabric_middles.choose_spec sc_Fabric_middles fun KE => ⟨_, fun cdv A outer s H E hr => (pdss_cons (pds_expr (pd_meth M.cl_Fabric M.me_Fabric_demand_ends (ok_Fabric_demand_ends M) (hr.mono (by decide)) (bn_Fabric_demand_ends M) .nil .nil passD (pd_var (pv 0)) (pda_cons (pd_var (pv 1)) (pda_cons (pd_var (pv 2)) pda_nil)))) (pdss_cons (pds_expr (pd_meth M.cl_Fabric M.me_Fabric_look_at_ends (ok_Fabric_look_at_ends M) (hr.mono (by decide)) (bn_Fabric_look_at_ends M) .nil .nil passD (pd_var (pv 0)) (pda_cons (pd_var (pv 1)) (pda_cons (pd_var (pv 2)) pda_nil)))) (pdss_one (pds_ret (pd_meth M.cl_Fabric M.me_Fabric_ways (ok_Fabric_ways M) (hr.mono (by decide)) (bn_Fabric_ways M) .nil .nil passD (pd_var (pv 0)) (pda_cons (pd_var (pv 1)) (pda_cons (pd_var (pv 2)) pda_nil))))))), ?_⟩
  intro τ ds k hl h
  unfold sp_Fabric_middles at h
  obtain ⟨a, v, w, q, f, rfl, hh⟩ := h
  obtain ⟨h, ok, hv, h1, h2⟩ := hh
  refine dSeq_step fun Z hZ => ?_
  try simp! only [true_and, h.ins]
  refine sp_Fabric_demand_ends_of ⟨h, ok, hv, fun e => FinX.same (h1 e), fun e => ⟨(h2 e).1, fun e2 => FinX.same ((h2 e).2.1 e2), fun e2 => hZ _ _ ?_⟩⟩
  clear hZ Z
  obtain ⟨i, rfl, hi⟩ := isInD_int e
  obtain ⟨o, rfl, ho⟩ := isInD_int e2
  obtain ⟨h3, h4⟩ := (h2 e).2.2 i o rfl rfl ho
  refine dSeq_step fun Z hZ => ?_
  try simp! only [true_and, h.ins]
  refine sp_Fabric_look_at_ends_of ⟨h, ok, fun u hu => FinX.same (h3 u hu), fun hn => hZ _ _ ?_⟩
  clear hZ Z
  try simp! only [true_and, h.ins]
  refine sp_Fabric_ways_of ⟨h, ok, Fin.same (h4 hn)⟩
/-! ### Fabric_free_outlets -/
theorem sc_Fabric_free_outlets : FnScope ["self", "outlet"] ["self"] (defScope s_Fabric_free_outlets) := ⟨rfl, rfl, rfl, by decide +kernel, rfl, by decide +kernel, by decide +kernel⟩
theorem bn_Fabric_free_outlets (M : Mod K mg) : L2.Binds K M.f_Fabric_free_outlets.choose ["self"] [] := fun_binds M.f_Fabric_free_outlets.choose_spec fun _ _ _ _ _ _ us hl => match us, hl with | [_], _ => rfl
def freeO (s : Shp) (cs : List C3) : List Int := ((List.range s.ends.toNat).filter fun (o : Nat) => !hasOut cs (o : Int)).map fun (o : Nat) => (o : Int)
def sp_Fabric_free_outlets (K : PySem.W.Frag) : SpD := fun τ ds k KE => ∃ (a : Addr) (q : Addr) (f : Fb), ds = [.ref a] ∧ (FabAt K τ a q f ∧ f.Ok ∧ k τ (.lst ((freeO f.s f.cs).map D.int)))
theorem sp_Fabric_free_outlets_of {K : PySem.W.Frag} {τ : TD} {k : DK} {KE : XD} {a : Addr} {q : Addr} {f : Fb} (h_ : FabAt K τ a q f ∧ f.Ok ∧ k τ (.lst ((freeO f.s f.cs).map D.int))) : sp_Fabric_free_outlets K τ [.ref a] k KE := ⟨_, _, _, rfl, h_⟩
theorem ok_Fabric_free_outlets (M : Mod K mg) : FnD prog w K mg base (TT K) 3 (He.fAd K ("Fabric", some "free_outlets")) M.f_Fabric_free_outlets.choose ["self"] (sp_Fabric_free_outlets K) := by
  refine fnD_of M.f_Fabric_free_outlets.choose_spec sc_Fabric_free_outlets fun KE => ⟨_, fun cdv A outer s H E hr => (pdss_one (pds_ret (pd_lc rfl sc_Fabric_free_outlets.nd (pdi_range1 rfl M.b_range (pda_cons (pd_call (ok_ends_of M) (hr.mono (by decide)) rfl M.g_ends_of M.f_ends_of.choose_spec.kp (bn_ends_of M) .nil .nil passD (pda_cons (pd_fld (Cs := Cs_shape K) (fld_shape M) (pd_var (pv 0))) pda_nil)) pda_nil)) (show BlkOk ["self", "outlet"] (defScope s_Fabric_free_outlets) _ [("outlet", 1)] from blk_of (by decide +kernel)) (fun _ _ _ _ _ => pdn_name (i := 1) sc_Fabric_free_outlets.nd rfl (by first | exact .inl rfl | exact .inr rfl) (by decide)) (fun _ _ _ _ _ => pdts_one (pdt_not (pdt_val (pd_meth M.cl_Fabric M.me_Fabric_has_outlet (ok_Fabric_has_outlet M) (hr.mono (by decide)) (bn_Fabric_has_outlet M) .nil .nil passL (pd_var (pv 0)) (pda_cons (pd_var (pv 1)) pda_nil))))) (fun _ _ _ _ _ => (pd_var (pv 1)))))), ?_⟩
  intro τ ds k hl h
  unfold sp_Fabric_free_outlets at h
  obtain ⟨a, q, f, rfl, hh⟩ := h
  obtain ⟨h, ok, hk⟩ := hh
  have oe := ok.s.e
  try simp! only [true_and, h.ins]
  refine sp_ends_of_of ⟨ok.s, ?_⟩
  try simp! only [true_and]
  refine ⟨⟨by omega, by omega⟩, fun L hL => ?_⟩
  refine lc_fmT (l := List.range f.s.ends.toNat) (g := fun (i : Nat) => .int (0 + (i : Int))) (fun o => if (!hasOut f.cs (o : Int)) = true then some (.int (o : Int)) else none) (sz1000 (by rw [List.length_range]; omega)) (fun o ho acc k' hk' => ?_) ?_
  · have h1 := h.new (u := .lst acc) hL
    try simp! only [true_and, h1.ins]
    refine sp_Fabric_has_outlet_of ⟨h1, ok, ?_⟩
    rw [Int.zero_add]
    cases c : hasOut f.cs (o : Int) with
    | true =>
      rw [c] at hk'
      try simp! only [true_and]
      exact hk'
    | false =>
      rw [c] at hk'
      try simp! only [true_and]
      exact hk'
  · rw [fm_filter, tset_del hL]
    unfold freeO at hk
    rw [List.map_map] at hk
    exact Fin.same hk
end
end LW

set_option Elab.async false
set_option linter.all false
set_option maxRecDepth 100000
set_option maxHeartbeats 0
namespace LW
open PySem PySem.Spec PyProof.Rows L2 DL DX
section
variable {w : World} {K : PySem.W.Frag} {mg : Str → Option Value} {base : Heap}
local macro_rules | `(tactic| simp! only [$xs,*]) => `(tactic| simp only [dVar, dC, dOp, dUn, dTest_eq, dAnd, dOr, dNot, dAndV_eq, dOrV_eq, dNotV_eq, dIf, dChain_eq, dNil, dCons, dTup, dLst, dLstM, dCB, dBM, dNoPart, dPart_eq, dSl, dCall, dCallK, dNext, dBrk, dCnt, dSeq, dDrop, dRet, dRetN, dIfS, γName, γNil, γCons, γSub, dAsg, dPar, dPar3, dAug, ιSeq_eq, ιZip, ιRng1_eq, ιRng2_eq, dFor, dLc, dLcM, dYes, dT, dTold, onBl_eq, onInt_eq, onSeq_lst, onSeq_tup, onSeq_str, onSome_eq, lstAt_same, dRaise, startD, List.map_cons, List.map_nil, List.length_cons, List.length_nil, List.replicate_succ, List.replicate_zero, List.cons_append, List.nil_append, List.append_nil, List.getElem?_cons_zero, List.getElem?_cons_succ, List.set_cons_zero, List.set_cons_succ, Nat.reduceAdd, Nat.reduceSub, Nat.zero_add, Nat.sub_self, ρEq_int, ρEq_str, ρEq_bl, ρNe_int, ρNe_str, ρNe_bl, ρEq_t3, ρNe_t3, ρEq_t2, ρNe_t2, intsOf_mapf, strsOf_mapf, blsOf_mapf, gK_01_0, gK_02_01, gK_02_10, gK_03_012, gK_03_021, gK_03_102, gK_03_120, gK_03_201, gK_03_210, gK_11_0, gK_12_01, gK_12_10, gK_13_012, gK_13_021, gK_13_102, gK_13_120, gK_13_201, gK_13_210, dLstRg, ρLstOM_eq, seqAt_lst, seqAt_tup, seqAt_ref, ρMulT_int, ρMulT_str, ρMulT_tup, ρInU_one, ρPopAt_ref, eq_self, Bool.not_true, Bool.not_false, decide_true, decide_false, strsOf_c0, strsOf_c1, strsOf_c2, strsOf_c3, strsOf_c4, strsOf_c5, strsOf_c6, strsOf_c7, strsOf_c8, intsOf_c0, intsOf_c1, intsOf_c2, intsOf_c3, intsOf_c4, intsOf_c5, intsOf_c6, intsOf_c7, intsOf_c8, blsOf_c0, blsOf_c1, blsOf_c2, blsOf_c3, blsOf_c4, blsOf_c5, blsOf_c6, blsOf_c7, blsOf_c8, ixN_30, ixN_31, ixN_32, wipeD, if_true, if_false, Bool.false_eq_true, Bool.true_eq_false, true_and, and_true, ρAdd_int, ρAdd_str, ρAdd_tup, ρAdd_lst, ρAdd_rl, ρI_int, ρI0_int, ρMul_int, ρMul_str, ρNeg_int, ρCmp_int, ρCmp_str, ρIsN_eq, ρNotN_eq, isNonD_bl, isNonD_int, isNonD_str, isNonD_tup, isNonD_lst, isNonD_ref, isNonD_non, ρSgn_one, ρAbs_int, ρMax_two, ρMin_two, ρMax_lst, ρMin_lst, ρInt_int, ρInt_bl, ρStr_int, ρLen_str, ρLen_tup, ρLen_lst, ρLen_ref, ρSum_lst, ρAll_lst, ρAny_lst, ρTupO_tup, ρTupO_lst, ρIsi_eq, is_non_int, is_non_bool, is_non_str, is_non_tuple, is_non_list, is_bl_int, is_bl_bool, is_bl_str, is_bl_tuple, is_bl_list, is_int_int, is_int_bool, is_int_str, is_int_tuple, is_int_list, is_str_int, is_str_bool, is_str_str, is_str_tuple, is_str_list, is_tup_int, is_tup_bool, is_tup_str, is_tup_tuple, is_tup_list, is_lst_int, is_lst_bool, is_lst_str, is_lst_tuple, is_lst_list, tyN_non, tyN_bl, tyN_int, tyN_str, tyN_tup, tyN_lst, ρIx_tup, ρIx_lst, ρIx_str, ρIx_ref, ρSl_str, ρSl_lst, ρSl_tup, ρApp_ref, θLst_ref, θStr_str, ςLst_ref, ρJoin_lst, γTup_tup, atI_0, atI_1, atI_2, atI_3, atI_4, atI_5, atI_6, atI_7, ρEqR_eq, ρNeR_eq, resD_non, resD_bl, resD_int, resD_str, resD_tup, resD_lst, eqA_nn, eqA_ii, eqA_bb, eqA_ss, eqA_ni, eqA_in, eqA_nb, eqA_bn, eqA_ns, eqA_sn, eqA_is, eqA_si, eqA_tt, eqA_ll, eqA_tl, eqA_lt, eqA_tn, eqA_nt, eqA_ti', eqA_it, eqA_ts, eqA_st, shB_non, shB_bl, shB_int, shB_str, shB_t63, shB_t62, shB_t61, shB_t60, shB_t59, shB_l63, shB_l62, shB_l61, shB_l60, shBs_nil, shBs_cons, shBs_append, shBs_ints, eqDs_nil, eqDs_cons, eqDs_cn, eqDs_nc, eqDs_ints, eqDs_strs, eqD_ii, eqD_bb, eqD_ss, eqD_tt, eqD_ll, eqD_nn, ρLstO_seq, ρTupO_ref, Option.isSome_some, dNewK, dNewT, dGetK, dGetT, dInK, dInT, dPutK, dPutT, dAugK, dAugT, dGet2K, dGet2T, dPop1K, onRef_eq, dkAt_same, dtAt_same, dkW_same, dtW_same, keyOf_int, keyOf_str, keysOf_ii, keysOf_iii, ιEnum_eq, onSq_tup, onSq_lst, ρLtV_int, ρLtV_str, ρLtV_tup, ρPop_ref, ρIdx_lst, dFld, dSFld, dSFldAug, dMeth, dMake, dMethK, dMakeK, dEqI, insAt_same, lkF_cons, lkF_nil, putFD_cons, putFD_nil, ρIsC_non, ρIsC_ref, ρLenD_eq, dSortIt, ρSortD_eq, ρMinD_eq, ρMaxD_eq, dMet, dTm, mem_h, mem_h2, onBool_eq, insOrNon, ρCopy_ref, ιItems, ιVals, ιKeys, lkW_same, dLockE, dLockS, ρCopyT_ref, ρInX_eq, itsD_tup, itsD_lst, itsD_ref, dStar, ρSortKI_ref, ρRemX_ref, dForM, dLcR, Cs_shape, Cs__calls, ne___eq_____calls, ne___eq____shape, ne___init_____calls, ne___init____shape, ne__calls____eq__, ne__calls____init__, ne__calls__call, ne__calls__calls, ne__calls__demand_ends, ne__calls__end, ne__calls__free_outlets, ne__calls__has_outlet, ne__calls__is_behind_free, ne__calls__is_blocked, ne__calls__is_front_free, ne__calls__look_at_ends, ne__calls__middles, ne__calls__shape, ne__calls__twin, ne__calls__ways, ne_call___calls, ne_call__shape, ne_calls___calls, ne_calls__shape, ne_demand_ends___calls, ne_demand_ends__shape, ne_end___calls, ne_end__shape, ne_free_outlets___calls, ne_free_outlets__shape, ne_has_outlet___calls, ne_has_outlet__shape, ne_is_behind_free___calls, ne_is_behind_free__shape, ne_is_blocked___calls, ne_is_blocked__shape, ne_is_front_free___calls, ne_is_front_free__shape, ne_look_at_ends___calls, ne_look_at_ends__shape, ne_middles___calls, ne_middles__shape, ne_shape____eq__, ne_shape____init__, ne_shape___calls, ne_shape__call, ne_shape__calls, ne_shape__demand_ends, ne_shape__end, ne_shape__free_outlets, ne_shape__has_outlet, ne_shape__is_behind_free, ne_shape__is_blocked, ne_shape__is_front_free, ne_shape__look_at_ends, ne_shape__middles, ne_shape__twin, ne_shape__ways, ne_twin___calls, ne_twin__shape, ne_ways___calls, ne_ways__shape, sp_is_in_eq, sp_is_tuple_eq, sp_demand_eq, $xs,*])
local macro_rules | `(tactic| dsimp! only [$xs,*]) => `(tactic| simp only [dVar, dC, dOp, dUn, dTest_eq, dAnd, dOr, dNot, dAndV_eq, dOrV_eq, dNotV_eq, dIf, dChain_eq, dNil, dCons, dTup, dLst, dLstM, dCB, dBM, dNoPart, dPart_eq, dSl, dCall, dCallK, dNext, dBrk, dCnt, dDrop, dRet, dRetN, dIfS, γName, γNil, γCons, γSub, dAsg, dPar, dPar3, dAug, ιSeq_eq, ιZip, ιRng1_eq, ιRng2_eq, dFor, dLc, dLcM, dYes, dT, dTold, onBl_eq, onInt_eq, onSeq_lst, onSeq_tup, onSeq_str, onSome_eq, lstAt_same, dRaise, startD, List.map_cons, List.map_nil, List.length_cons, List.length_nil, List.replicate_succ, List.replicate_zero, List.cons_append, List.nil_append, List.append_nil, List.getElem?_cons_zero, List.getElem?_cons_succ, List.set_cons_zero, List.set_cons_succ, Nat.reduceAdd, Nat.reduceSub, Nat.zero_add, Nat.sub_self, ρEq_int, ρEq_str, ρEq_bl, ρNe_int, ρNe_str, ρNe_bl, ρEq_t3, ρNe_t3, ρEq_t2, ρNe_t2, intsOf_mapf, strsOf_mapf, blsOf_mapf, gK_01_0, gK_02_01, gK_02_10, gK_03_012, gK_03_021, gK_03_102, gK_03_120, gK_03_201, gK_03_210, gK_11_0, gK_12_01, gK_12_10, gK_13_012, gK_13_021, gK_13_102, gK_13_120, gK_13_201, gK_13_210, dLstRg, ρLstOM_eq, seqAt_lst, seqAt_tup, seqAt_ref, ρMulT_int, ρMulT_str, ρMulT_tup, ρInU_one, ρPopAt_ref, eq_self, Bool.not_true, Bool.not_false, decide_true, decide_false, strsOf_c0, strsOf_c1, strsOf_c2, strsOf_c3, strsOf_c4, strsOf_c5, strsOf_c6, strsOf_c7, strsOf_c8, intsOf_c0, intsOf_c1, intsOf_c2, intsOf_c3, intsOf_c4, intsOf_c5, intsOf_c6, intsOf_c7, intsOf_c8, blsOf_c0, blsOf_c1, blsOf_c2, blsOf_c3, blsOf_c4, blsOf_c5, blsOf_c6, blsOf_c7, blsOf_c8, ixN_30, ixN_31, ixN_32, wipeD, if_true, if_false, Bool.false_eq_true, Bool.true_eq_false, true_and, and_true, ρAdd_int, ρAdd_str, ρAdd_tup, ρAdd_lst, ρAdd_rl, ρI_int, ρI0_int, ρMul_int, ρMul_str, ρNeg_int, ρCmp_int, ρCmp_str, ρIsN_eq, ρNotN_eq, isNonD_bl, isNonD_int, isNonD_str, isNonD_tup, isNonD_lst, isNonD_ref, isNonD_non, ρSgn_one, ρAbs_int, ρMax_two, ρMin_two, ρMax_lst, ρMin_lst, ρInt_int, ρInt_bl, ρStr_int, ρLen_str, ρLen_tup, ρLen_lst, ρLen_ref, ρSum_lst, ρAll_lst, ρAny_lst, ρTupO_tup, ρTupO_lst, ρIsi_eq, is_non_int, is_non_bool, is_non_str, is_non_tuple, is_non_list, is_bl_int, is_bl_bool, is_bl_str, is_bl_tuple, is_bl_list, is_int_int, is_int_bool, is_int_str, is_int_tuple, is_int_list, is_str_int, is_str_bool, is_str_str, is_str_tuple, is_str_list, is_tup_int, is_tup_bool, is_tup_str, is_tup_tuple, is_tup_list, is_lst_int, is_lst_bool, is_lst_str, is_lst_tuple, is_lst_list, tyN_non, tyN_bl, tyN_int, tyN_str, tyN_tup, tyN_lst, ρIx_tup, ρIx_lst, ρIx_str, ρIx_ref, ρSl_str, ρSl_lst, ρSl_tup, ρApp_ref, θLst_ref, θStr_str, ςLst_ref, ρJoin_lst, γTup_tup, atI_0, atI_1, atI_2, atI_3, atI_4, atI_5, atI_6, atI_7, ρEqR_eq, ρNeR_eq, resD_non, resD_bl, resD_int, resD_str, resD_tup, resD_lst, eqA_nn, eqA_ii, eqA_bb, eqA_ss, eqA_ni, eqA_in, eqA_nb, eqA_bn, eqA_ns, eqA_sn, eqA_is, eqA_si, eqA_tt, eqA_ll, eqA_tl, eqA_lt, eqA_tn, eqA_nt, eqA_ti', eqA_it, eqA_ts, eqA_st, shB_non, shB_bl, shB_int, shB_str, shB_t63, shB_t62, shB_t61, shB_t60, shB_t59, shB_l63, shB_l62, shB_l61, shB_l60, shBs_nil, shBs_cons, shBs_append, shBs_ints, eqDs_nil, eqDs_cons, eqDs_cn, eqDs_nc, eqDs_ints, eqDs_strs, eqD_ii, eqD_bb, eqD_ss, eqD_tt, eqD_ll, eqD_nn, ρLstO_seq, ρTupO_ref, Option.isSome_some, dNewK, dNewT, dGetK, dGetT, dInK, dInT, dPutK, dPutT, dAugK, dAugT, dGet2K, dGet2T, dPop1K, onRef_eq, dkAt_same, dtAt_same, dkW_same, dtW_same, keyOf_int, keyOf_str, keysOf_ii, keysOf_iii, ιEnum_eq, onSq_tup, onSq_lst, ρLtV_int, ρLtV_str, ρLtV_tup, ρPop_ref, ρIdx_lst, dFld, dSFld, dSFldAug, dMeth, dMake, dMethK, dMakeK, dEqI, insAt_same, lkF_cons, lkF_nil, putFD_cons, putFD_nil, ρIsC_non, ρIsC_ref, ρLenD_eq, dSortIt, ρSortD_eq, ρMinD_eq, ρMaxD_eq, dMet, dTm, mem_h, mem_h2, onBool_eq, insOrNon, ρCopy_ref, ιItems, ιVals, ιKeys, lkW_same, dLockE, dLockS, ρCopyT_ref, ρInX_eq, itsD_tup, itsD_lst, itsD_ref, dStar, ρSortKI_ref, ρRemX_ref, dForM, dLcR, Cs_shape, Cs__calls, ne___eq_____calls, ne___eq____shape, ne___init_____calls, ne___init____shape, ne__calls____eq__, ne__calls____init__, ne__calls__call, ne__calls__calls, ne__calls__demand_ends, ne__calls__end, ne__calls__free_outlets, ne__calls__has_outlet, ne__calls__is_behind_free, ne__calls__is_blocked, ne__calls__is_front_free, ne__calls__look_at_ends, ne__calls__middles, ne__calls__shape, ne__calls__twin, ne__calls__ways, ne_call___calls, ne_call__shape, ne_calls___calls, ne_calls__shape, ne_demand_ends___calls, ne_demand_ends__shape, ne_end___calls, ne_end__shape, ne_free_outlets___calls, ne_free_outlets__shape, ne_has_outlet___calls, ne_has_outlet__shape, ne_is_behind_free___calls, ne_is_behind_free__shape, ne_is_blocked___calls, ne_is_blocked__shape, ne_is_front_free___calls, ne_is_front_free__shape, ne_look_at_ends___calls, ne_look_at_ends__shape, ne_middles___calls, ne_middles__shape, ne_shape____eq__, ne_shape____init__, ne_shape___calls, ne_shape__call, ne_shape__calls, ne_shape__demand_ends, ne_shape__end, ne_shape__free_outlets, ne_shape__has_outlet, ne_shape__is_behind_free, ne_shape__is_blocked, ne_shape__is_front_free, ne_shape__look_at_ends, ne_shape__middles, ne_shape__twin, ne_shape__ways, ne_twin___calls, ne_twin__shape, ne_ways___calls, ne_ways__shape, sp_is_in_eq, sp_is_tuple_eq, sp_demand_eq, $xs,*])
/-! ### Fabric_is_blocked -/
theorem sc_Fabric_is_blocked : FnScope ["self", "outlets", "inlet", "outlet"] ["self"] (defScope s_Fabric_is_blocked) := ⟨rfl, rfl, rfl, by decide +kernel, rfl, by decide +kernel, by decide +kernel⟩
theorem bn_Fabric_is_blocked (M : Mod K mg) : L2.Binds K M.f_Fabric_is_blocked.choose ["self"] [] := fun_binds M.f_Fabric_is_blocked.choose_spec fun _ _ _ _ _ _ us hl => match us, hl with | [_], _ => rfl
def blockedB (s : Shp) (cs : List C3) : Bool := (List.range s.ends.toNat).any fun (i : Nat) => !decide ((i : Int) ∈ cs.map (·.1)) && (freeO s cs).any fun o => decide (waysL s cs (i : Int) o = [])
theorem freeO_len (s : Shp) (ok : s.Ok) (cs : List C3) : (freeO s cs).length ≤ 64 := by
  unfold freeO
  have := List.length_filter_le (fun (o : Nat) => !hasOut cs (o : Int)) (List.range s.ends.toNat)
  rw [List.length_range] at this
  have := ok.e
  rw [List.length_map]
  omega
def sp_Fabric_is_blocked (K : PySem.W.Frag) : SpD := fun τ ds k KE => ∃ (a : Addr) (q : Addr) (f : Fb), ds = [.ref a] ∧ (FabAt K τ a q f ∧ f.Ok ∧ k τ (.bl (blockedB f.s f.cs)))
theorem sp_Fabric_is_blocked_of {K : PySem.W.Frag} {τ : TD} {k : DK} {KE : XD} {a : Addr} {q : Addr} {f : Fb} (h_ : FabAt K τ a q f ∧ f.Ok ∧ k τ (.bl (blockedB f.s f.cs))) : sp_Fabric_is_blocked K τ [.ref a] k KE := ⟨_, _, _, rfl, h_⟩
theorem ok_Fabric_is_blocked (M : Mod K mg) : FnD prog w K mg base (TT K) 4 (He.fAd K ("Fabric", some "is_blocked")) M.f_Fabric_is_blocked.choose ["self"] (sp_Fabric_is_blocked K) := by
  refine fnD_of M.f_Fabric_is_blocked.choose_spec sc_Fabric_is_blocked fun KE => ⟨_, fun cdv A outer s H E hr => (pdss_cons (pds_set (i := 1) sc_Fabric_is_blocked.nd rfl (by first | exact .inl rfl | exact .inr rfl) (pd_meth0 M.cl_Fabric M.me_Fabric_free_outlets (ok_Fabric_free_outlets M) (hr.mono (by decide)) (bn_Fabric_free_outlets M) .nil .nil passD (pd_var (pv 0)))) (pdss_cons (pds_for ownD rfl (pdi_range1 rfl M.b_range (pda_cons (pd_call (ok_ends_of M) (hr.mono (by decide)) rfl M.g_ends_of M.f_ends_of.choose_spec.kp (bn_ends_of M) .nil .nil passD (pda_cons (pd_fld (Cs := Cs_shape K) (fld_shape M) (pd_var (pv 0))) pda_nil)) pda_nil)) (pdg_name (i := 2) sc_Fabric_is_blocked.nd rfl (by first | exact .inl rfl | exact .inr rfl)) (pdss_one (pds_if (PDW.pt (pdw_and (pdt_ninK (room_eq hr) (pd_var (pv 2)) (pd_fld (Cs := Cs__calls K) (fld__calls M) (pd_var (pv 0)))) (pdw_and1 (pdt_val (pd_callB (cr_any rfl) ok_any rfl M.b_any boot_any (pda_cons (pd_lc rfl sc_Fabric_is_blocked.nd (pdi_seq (pd_var (pv 1))) (show BlkOk ["self", "outlets", "inlet", "outlet"] (defScope s_Fabric_is_blocked) _ [("outlet", 3)] from blk_of (by decide +kernel)) (fun _ _ _ _ _ => pdn_name (i := 3) sc_Fabric_is_blocked.nd rfl (by first | exact .inl rfl | exact .inr rfl) (by decide)) (fun _ _ _ _ _ => pdts_nil) (fun _ _ _ _ _ => (pd_cmp (op_eqU (room_eq hr)) ok_eqR (pd_meth M.cl_Fabric M.me_Fabric_ways (ok_Fabric_ways M) (hr.mono (by decide)) (bn_Fabric_ways M) .nil .nil passL (pd_var (pv 0)) (pda_cons (pd_var (pv 2)) (pda_cons (pd_var (pv 3)) pda_nil))) (pd_tup pda_nil) (nomark _)))) pda_nil)))))) (pdss_one (pds_ret pd_bl)) pdss_nil))) (pdss_one (pds_ret pd_bl)))), ?_⟩
  intro τ ds k hl h
  unfold sp_Fabric_is_blocked at h
  obtain ⟨a, q, f, rfl, hh⟩ := h
  obtain ⟨h, ok, hk⟩ := hh
  have oe := ok.s.e
  have ofl := freeO_len f.s ok.s f.cs
  refine dSeq_step fun Z hZ => ?_
  try simp! only [true_and, h.ins]
  refine sp_Fabric_free_outlets_of ⟨h, ok, hZ _ _ ?_⟩
  clear hZ Z
  refine dSeq_step fun Z hZ => ?_
  try simp! only [true_and, h.ins]
  refine sp_ends_of_of ⟨ok.s, ?_⟩
  try simp! only [true_and]
  refine ⟨⟨by omega, by omega⟩, ?_⟩
  refine loop_stn (α := Nat) (g := fun (i : Nat) => .int (0 + (i : Int))) (s0 := ()) (fun j _ τ' ds => τ' = τ ∧ ((List.range j).any fun (i : Nat) => !decide ((i : Int) ∈ f.cs.map (·.1)) && (freeO f.s f.cs).any fun o => decide (waysL f.s f.cs (i : Int) o = [])) = false ∧ ∃ x y, ds = [some (.ref a), some (.lst ((freeO f.s f.cs).map D.int)), x, y]) (fun _ _ => ()) (List.range f.s.ends.toNat) (fun j c hj hc _ τ' ds hI G hG => ?_) ⟨rfl, rfl, _, _, rfl⟩ (fun τ' ds hI => ?_)
  · obtain ⟨rfl, hb, x, y, rfl⟩ := hI
    rw [List.length_range] at hj
    have hc : c = j := by
      rw [List.getElem?_range hj] at hc
      exact (Option.some.inj hc).symm
    subst hc
    try simp! only [true_and, h.ins, dkAt_of h.cs, look_in]
    rw [Int.zero_add]
    by_cases c1 : (c : Int) ∈ f.cs.map (·.1)
    · simp only [c1, decide_true, Bool.xor_true, Bool.not_true, Bool.false_eq_true, if_false]
      refine hG _ _ ⟨rfl, ?_, _, _, rfl⟩
      rw [List.range_succ, List.any_append, hb]
      simp [c1]
    · simp only [c1, decide_false, Bool.xor_false, if_true]
      intro L hL
      refine lc_fmT (l := freeO f.s f.cs) (g := D.int) (fun o => some (.bl (decide (waysL f.s f.cs (c : Int) o = [])))) (sz1000 (by omega)) (fun o ho acc k' hk' => ?_) ?_
      · have h1 := h.new (u := .lst acc) hL
        try simp! only [true_and, h1.ins]
        refine sp_Fabric_ways_of ⟨h1, ok, ?_⟩
        have ew : eqDs ((waysL f.s f.cs (c : Int) o).map D.int) [] = decide (waysL f.s f.cs (c : Int) o = []) := eqDs_ints (m := [])
        try simp! only [true_and, resD]
        rw [ew]
        exact ⟨szn, hk'⟩
      · rw [fm_some]
        try simp! only [true_and, tset_del hL]
        rw [List.any_map]
        cases c2 : (freeO f.s f.cs).any (id ∘ fun o => decide (waysL f.s f.cs (c : Int) o = [])) with
        | true =>
          have : blockedB f.s f.cs = true := by
            unfold blockedB
            rw [List.any_eq_true]
            refine ⟨c, List.mem_range.mpr hj, ?_⟩
            simp only [c1, decide_false, Bool.not_false, Bool.true_and]
            exact c2
          rw [this] at hk
          simp only [if_true]
          exact Fin.same hk
        | false =>
          simp only [Bool.false_eq_true, if_false]
          refine hG _ _ ⟨rfl, ?_, _, _, rfl⟩
          rw [List.range_succ, List.any_append, hb, List.any_cons, List.any_nil]
          simp only [c1, decide_false, Bool.not_false, Bool.true_and, Bool.false_or, Bool.or_false]
          exact c2
  · obtain ⟨rfl, hb, x, y, rfl⟩ := hI
    rw [List.length_range] at hb
    refine hZ _ _ ?_
    try simp! only [true_and]
    have : blockedB f.s f.cs = false := hb
    rw [this] at hk
    exact Fin.same hk
end
end LW

set_option Elab.async false
set_option linter.all false
set_option maxRecDepth 100000
set_option maxHeartbeats 0
namespace LW
open PySem PySem.Spec PyProof.Rows L2 DL DX
section
variable {w : World} {K : PySem.W.Frag} {mg : Str → Option Value} {base : Heap}
local macro_rules | `(tactic| simp! only [$xs,*]) => `(tactic| simp only [dVar, dC, dOp, dUn, dTest_eq, dAnd, dOr, dNot, dAndV_eq, dOrV_eq, dNotV_eq, dIf, dChain_eq, dNil, dCons, dTup, dLst, dLstM, dCB, dBM, dNoPart, dPart_eq, dSl, dCall, dCallK, dNext, dBrk, dCnt, dSeq, dDrop, dRet, dRetN, dIfS, γName, γNil, γCons, γSub, dAsg, dPar, dPar3, dAug, ιSeq_eq, ιZip, ιRng1_eq, ιRng2_eq, dFor, dLc, dLcM, dYes, dT, dTold, onBl_eq, onInt_eq, onSeq_lst, onSeq_tup, onSeq_str, onSome_eq, lstAt_same, dRaise, startD, List.map_cons, List.map_nil, List.length_cons, List.length_nil, List.replicate_succ, List.replicate_zero, List.cons_append, List.nil_append, List.append_nil, List.getElem?_cons_zero, List.getElem?_cons_succ, List.set_cons_zero, List.set_cons_succ, Nat.reduceAdd, Nat.reduceSub, Nat.zero_add, Nat.sub_self, ρEq_int, ρEq_str, ρEq_bl, ρNe_int, ρNe_str, ρNe_bl, ρEq_t3, ρNe_t3, ρEq_t2, ρNe_t2, intsOf_mapf, strsOf_mapf, blsOf_mapf, gK_01_0, gK_02_01, gK_02_10, gK_03_012, gK_03_021, gK_03_102, gK_03_120, gK_03_201, gK_03_210, gK_11_0, gK_12_01, gK_12_10, gK_13_012, gK_13_021, gK_13_102, gK_13_120, gK_13_201, gK_13_210, dLstRg, ρLstOM_eq, seqAt_lst, seqAt_tup, seqAt_ref, ρMulT_int, ρMulT_str, ρMulT_tup, ρInU_one, ρPopAt_ref, eq_self, Bool.not_true, Bool.not_false, decide_true, decide_false, strsOf_c0, strsOf_c1, strsOf_c2, strsOf_c3, strsOf_c4, strsOf_c5, strsOf_c6, strsOf_c7, strsOf_c8, intsOf_c0, intsOf_c1, intsOf_c2, intsOf_c3, intsOf_c4, intsOf_c5, intsOf_c6, intsOf_c7, intsOf_c8, blsOf_c0, blsOf_c1, blsOf_c2, blsOf_c3, blsOf_c4, blsOf_c5, blsOf_c6, blsOf_c7, blsOf_c8, ixN_30, ixN_31, ixN_32, wipeD, if_true, if_false, Bool.false_eq_true, Bool.true_eq_false, true_and, and_true, ρAdd_int, ρAdd_str, ρAdd_tup, ρAdd_lst, ρAdd_rl, ρI_int, ρI0_int, ρMul_int, ρMul_str, ρNeg_int, ρCmp_int, ρCmp_str, ρIsN_eq, ρNotN_eq, isNonD_bl, isNonD_int, isNonD_str, isNonD_tup, isNonD_lst, isNonD_ref, isNonD_non, ρSgn_one, ρAbs_int, ρMax_two, ρMin_two, ρMax_lst, ρMin_lst, ρInt_int, ρInt_bl, ρStr_int, ρLen_str, ρLen_tup, ρLen_lst, ρLen_ref, ρSum_lst, ρAll_lst, ρAny_lst, ρTupO_tup, ρTupO_lst, ρIsi_eq, is_non_int, is_non_bool, is_non_str, is_non_tuple, is_non_list, is_bl_int, is_bl_bool, is_bl_str, is_bl_tuple, is_bl_list, is_int_int, is_int_bool, is_int_str, is_int_tuple, is_int_list, is_str_int, is_str_bool, is_str_str, is_str_tuple, is_str_list, is_tup_int, is_tup_bool, is_tup_str, is_tup_tuple, is_tup_list, is_lst_int, is_lst_bool, is_lst_str, is_lst_tuple, is_lst_list, tyN_non, tyN_bl, tyN_int, tyN_str, tyN_tup, tyN_lst, ρIx_tup, ρIx_lst, ρIx_str, ρIx_ref, ρSl_str, ρSl_lst, ρSl_tup, ρApp_ref, θLst_ref, θStr_str, ςLst_ref, ρJoin_lst, γTup_tup, atI_0, atI_1, atI_2, atI_3, atI_4, atI_5, atI_6, atI_7, ρEqR_eq, ρNeR_eq, resD_non, resD_bl, resD_int, resD_str, resD_tup, resD_lst, eqA_nn, eqA_ii, eqA_bb, eqA_ss, eqA_ni, eqA_in, eqA_nb, eqA_bn, eqA_ns, eqA_sn, eqA_is, eqA_si, eqA_tt, eqA_ll, eqA_tl, eqA_lt, eqA_tn, eqA_nt, eqA_ti', eqA_it, eqA_ts, eqA_st, shB_non, shB_bl, shB_int, shB_str, shB_t63, shB_t62, shB_t61, shB_t60, shB_t59, shB_l63, shB_l62, shB_l61, shB_l60, shBs_nil, shBs_cons, shBs_append, shBs_ints, eqDs_nil, eqDs_cons, eqDs_cn, eqDs_nc, eqDs_ints, eqDs_strs, eqD_ii, eqD_bb, eqD_ss, eqD_tt, eqD_ll, eqD_nn, ρLstO_seq, ρTupO_ref, Option.isSome_some, dNewK, dNewT, dGetK, dGetT, dInK, dInT, dPutK, dPutT, dAugK, dAugT, dGet2K, dGet2T, dPop1K, onRef_eq, dkAt_same, dtAt_same, dkW_same, dtW_same, keyOf_int, keyOf_str, keysOf_ii, keysOf_iii, ιEnum_eq, onSq_tup, onSq_lst, ρLtV_int, ρLtV_str, ρLtV_tup, ρPop_ref, ρIdx_lst, dFld, dSFld, dSFldAug, dMeth, dMake, dMethK, dMakeK, dEqI, insAt_same, lkF_cons, lkF_nil, putFD_cons, putFD_nil, ρIsC_non, ρIsC_ref, ρLenD_eq, dSortIt, ρSortD_eq, ρMinD_eq, ρMaxD_eq, dMet, dTm, mem_h, mem_h2, onBool_eq, insOrNon, ρCopy_ref, ιItems, ιVals, ιKeys, lkW_same, dLockE, dLockS, ρCopyT_ref, ρInX_eq, itsD_tup, itsD_lst, itsD_ref, dStar, ρSortKI_ref, ρRemX_ref, dForM, dLcR, Cs_shape, Cs__calls, ne___eq_____calls, ne___eq____shape, ne___init_____calls, ne___init____shape, ne__calls____eq__, ne__calls____init__, ne__calls__call, ne__calls__calls, ne__calls__demand_ends, ne__calls__end, ne__calls__free_outlets, ne__calls__has_outlet, ne__calls__is_behind_free, ne__calls__is_blocked, ne__calls__is_front_free, ne__calls__look_at_ends, ne__calls__middles, ne__calls__shape, ne__calls__twin, ne__calls__ways, ne_call___calls, ne_call__shape, ne_calls___calls, ne_calls__shape, ne_demand_ends___calls, ne_demand_ends__shape, ne_end___calls, ne_end__shape, ne_free_outlets___calls, ne_free_outlets__shape, ne_has_outlet___calls, ne_has_outlet__shape, ne_is_behind_free___calls, ne_is_behind_free__shape, ne_is_blocked___calls, ne_is_blocked__shape, ne_is_front_free___calls, ne_is_front_free__shape, ne_look_at_ends___calls, ne_look_at_ends__shape, ne_middles___calls, ne_middles__shape, ne_shape____eq__, ne_shape____init__, ne_shape___calls, ne_shape__call, ne_shape__calls, ne_shape__demand_ends, ne_shape__end, ne_shape__free_outlets, ne_shape__has_outlet, ne_shape__is_behind_free, ne_shape__is_blocked, ne_shape__is_front_free, ne_shape__look_at_ends, ne_shape__middles, ne_shape__twin, ne_shape__ways, ne_twin___calls, ne_twin__shape, ne_ways___calls, ne_ways__shape, sp_is_in_eq, sp_is_tuple_eq, sp_demand_eq, $xs,*])
local macro_rules | `(tactic| dsimp! only [$xs,*]) => `(tactic| simp only [dVar, dC, dOp, dUn, dTest_eq, dAnd, dOr, dNot, dAndV_eq, dOrV_eq, dNotV_eq, dIf, dChain_eq, dNil, dCons, dTup, dLst, dLstM, dCB, dBM, dNoPart, dPart_eq, dSl, dCall, dCallK, dNext, dBrk, dCnt, dDrop, dRet, dRetN, dIfS, γName, γNil, γCons, γSub, dAsg, dPar, dPar3, dAug, ιSeq_eq, ιZip, ιRng1_eq, ιRng2_eq, dFor, dLc, dLcM, dYes, dT, dTold, onBl_eq, onInt_eq, onSeq_lst, onSeq_tup, onSeq_str, onSome_eq, lstAt_same, dRaise, startD, List.map_cons, List.map_nil, List.length_cons, List.length_nil, List.replicate_succ, List.replicate_zero, List.cons_append, List.nil_append, List.append_nil, List.getElem?_cons_zero, List.getElem?_cons_succ, List.set_cons_zero, List.set_cons_succ, Nat.reduceAdd, Nat.reduceSub, Nat.zero_add, Nat.sub_self, ρEq_int, ρEq_str, ρEq_bl, ρNe_int, ρNe_str, ρNe_bl, ρEq_t3, ρNe_t3, ρEq_t2, ρNe_t2, intsOf_mapf, strsOf_mapf, blsOf_mapf, gK_01_0, gK_02_01, gK_02_10, gK_03_012, gK_03_021, gK_03_102, gK_03_120, gK_03_201, gK_03_210, gK_11_0, gK_12_01, gK_12_10, gK_13_012, gK_13_021, gK_13_102, gK_13_120, gK_13_201, gK_13_210, dLstRg, ρLstOM_eq, seqAt_lst, seqAt_tup, seqAt_ref, ρMulT_int, ρMulT_str, ρMulT_tup, ρInU_one, ρPopAt_ref, eq_self, Bool.not_true, Bool.not_false, decide_true, decide_false, strsOf_c0, strsOf_c1, strsOf_c2, strsOf_c3, strsOf_c4, strsOf_c5, strsOf_c6, strsOf_c7, strsOf_c8, intsOf_c0, intsOf_c1, intsOf_c2, intsOf_c3, intsOf_c4, intsOf_c5, intsOf_c6, intsOf_c7, intsOf_c8, blsOf_c0, blsOf_c1, blsOf_c2, blsOf_c3, blsOf_c4, blsOf_c5, blsOf_c6, blsOf_c7, blsOf_c8, ixN_30, ixN_31, ixN_32, wipeD, if_true, if_false, Bool.false_eq_true, Bool.true_eq_false, true_and, and_true, ρAdd_int, ρAdd_str, ρAdd_tup, ρAdd_lst, ρAdd_rl, ρI_int, ρI0_int, ρMul_int, ρMul_str, ρNeg_int, ρCmp_int, ρCmp_str, ρIsN_eq, ρNotN_eq, isNonD_bl, isNonD_int, isNonD_str, isNonD_tup, isNonD_lst, isNonD_ref, isNonD_non, ρSgn_one, ρAbs_int, ρMax_two, ρMin_two, ρMax_lst, ρMin_lst, ρInt_int, ρInt_bl, ρStr_int, ρLen_str, ρLen_tup, ρLen_lst, ρLen_ref, ρSum_lst, ρAll_lst, ρAny_lst, ρTupO_tup, ρTupO_lst, ρIsi_eq, is_non_int, is_non_bool, is_non_str, is_non_tuple, is_non_list, is_bl_int, is_bl_bool, is_bl_str, is_bl_tuple, is_bl_list, is_int_int, is_int_bool, is_int_str, is_int_tuple, is_int_list, is_str_int, is_str_bool, is_str_str, is_str_tuple, is_str_list, is_tup_int, is_tup_bool, is_tup_str, is_tup_tuple, is_tup_list, is_lst_int, is_lst_bool, is_lst_str, is_lst_tuple, is_lst_list, tyN_non, tyN_bl, tyN_int, tyN_str, tyN_tup, tyN_lst, ρIx_tup, ρIx_lst, ρIx_str, ρIx_ref, ρSl_str, ρSl_lst, ρSl_tup, ρApp_ref, θLst_ref, θStr_str, ςLst_ref, ρJoin_lst, γTup_tup, atI_0, atI_1, atI_2, atI_3, atI_4, atI_5, atI_6, atI_7, ρEqR_eq, ρNeR_eq, resD_non, resD_bl, resD_int, resD_str, resD_tup, resD_lst, eqA_nn, eqA_ii, eqA_bb, eqA_ss, eqA_ni, eqA_in, eqA_nb, eqA_bn, eqA_ns, eqA_sn, eqA_is, eqA_si, eqA_tt, eqA_ll, eqA_tl, eqA_lt, eqA_tn, eqA_nt, eqA_ti', eqA_it, eqA_ts, eqA_st, shB_non, shB_bl, shB_int, shB_str, shB_t63, shB_t62, shB_t61, shB_t60, shB_t59, shB_l63, shB_l62, shB_l61, shB_l60, shBs_nil, shBs_cons, shBs_append, shBs_ints, eqDs_nil, eqDs_cons, eqDs_cn, eqDs_nc, eqDs_ints, eqDs_strs, eqD_ii, eqD_bb, eqD_ss, eqD_tt, eqD_ll, eqD_nn, ρLstO_seq, ρTupO_ref, Option.isSome_some, dNewK, dNewT, dGetK, dGetT, dInK, dInT, dPutK, dPutT, dAugK, dAugT, dGet2K, dGet2T, dPop1K, onRef_eq, dkAt_same, dtAt_same, dkW_same, dtW_same, keyOf_int, keyOf_str, keysOf_ii, keysOf_iii, ιEnum_eq, onSq_tup, onSq_lst, ρLtV_int, ρLtV_str, ρLtV_tup, ρPop_ref, ρIdx_lst, dFld, dSFld, dSFldAug, dMeth, dMake, dMethK, dMakeK, dEqI, insAt_same, lkF_cons, lkF_nil, putFD_cons, putFD_nil, ρIsC_non, ρIsC_ref, ρLenD_eq, dSortIt, ρSortD_eq, ρMinD_eq, ρMaxD_eq, dMet, dTm, mem_h, mem_h2, onBool_eq, insOrNon, ρCopy_ref, ιItems, ιVals, ιKeys, lkW_same, dLockE, dLockS, ρCopyT_ref, ρInX_eq, itsD_tup, itsD_lst, itsD_ref, dStar, ρSortKI_ref, ρRemX_ref, dForM, dLcR, Cs_shape, Cs__calls, ne___eq_____calls, ne___eq____shape, ne___init_____calls, ne___init____shape, ne__calls____eq__, ne__calls____init__, ne__calls__call, ne__calls__calls, ne__calls__demand_ends, ne__calls__end, ne__calls__free_outlets, ne__calls__has_outlet, ne__calls__is_behind_free, ne__calls__is_blocked, ne__calls__is_front_free, ne__calls__look_at_ends, ne__calls__middles, ne__calls__shape, ne__calls__twin, ne__calls__ways, ne_call___calls, ne_call__shape, ne_calls___calls, ne_calls__shape, ne_demand_ends___calls, ne_demand_ends__shape, ne_end___calls, ne_end__shape, ne_free_outlets___calls, ne_free_outlets__shape, ne_has_outlet___calls, ne_has_outlet__shape, ne_is_behind_free___calls, ne_is_behind_free__shape, ne_is_blocked___calls, ne_is_blocked__shape, ne_is_front_free___calls, ne_is_front_free__shape, ne_look_at_ends___calls, ne_look_at_ends__shape, ne_middles___calls, ne_middles__shape, ne_shape____eq__, ne_shape____init__, ne_shape___calls, ne_shape__call, ne_shape__calls, ne_shape__demand_ends, ne_shape__end, ne_shape__free_outlets, ne_shape__has_outlet, ne_shape__is_behind_free, ne_shape__is_blocked, ne_shape__is_front_free, ne_shape__look_at_ends, ne_shape__middles, ne_shape__twin, ne_shape__ways, ne_twin___calls, ne_twin__shape, ne_ways___calls, ne_ways__shape, sp_is_in_eq, sp_is_tuple_eq, sp_demand_eq, $xs,*])
/-! ### _law_dice -/
theorem sc__law_dice : FnScope ["script", "spot", "own", "mixed", "cell"] ["script", "spot"] (defScope s__law_dice) := ⟨rfl, rfl, rfl, by decide +kernel, rfl, by decide +kernel, by decide +kernel⟩
theorem bn__law_dice (M : Mod K mg) : L2.Binds K M.f__law_dice.choose ["script", "spot"] [] := fun_binds M.f__law_dice.choose_spec fun _ _ _ _ _ _ us hl => match us, hl with | [_, _], _ => rfl
def mixS (a c : Int) : Int := (a * 48271 + c % 2147480009) % 2147480009
def sp__law_dice : SpD := fun τ ds k KE => match ds with
  | [.lst ns, .int i] => ∃ zs : List Int, ns = zs.map D.int ∧ zs.length ≤ 63 ∧ 0 ≤ i ∧ i ≤ 1000 ∧ ∀ p xs, Dc 0 xs → τ p = none → k (tset τ p (.lst xs)) (.ref p)
  | _ => False
theorem sp__law_dice_eq {τ : TD} {k : DK} {KE : XD} {ns : List D} {i : Int} : sp__law_dice τ [.lst ns, .int i] k KE = (∃ zs : List Int, ns = zs.map D.int ∧ zs.length ≤ 63 ∧ 0 ≤ i ∧ i ≤ 1000 ∧ ∀ p xs, Dc 0 xs → τ p = none → k (tset τ p (.lst xs)) (.ref p)) := rfl
theorem ok__law_dice (M : Mod K mg) : FnD prog w K mg base (TT K) 2 (He.fAd K ("_law_dice", none)) M.f__law_dice.choose ["script", "spot"] sp__law_dice := by
  refine fnD_of M.f__law_dice.choose_spec sc__law_dice fun KE => ⟨_, fun cdv A outer s H E hr => (pdss_cons (pds_set (i := 2) sc__law_dice.nd rfl (by first | exact .inl rfl | exact .inr rfl) (pd_if (pdt_cmp (op_ltV (room_eq hr)) ok_ltV (pd_var (pv 1)) (pd_callB cr_len ok_len rfl M.b_len boot_len (pda_cons (pd_var (pv 0)) pda_nil)) (nomark _)) (pd_ix ix_seq ok_ix (pd_var (pv 0)) (pd_var (pv 1))) (pd_op op_addU ok_add (pd_op op_mulT ok_mulT pd_int (pd_var (pv 1))) pd_int))) (pdss_cons (pds_set (i := 3) sc__law_dice.nd rfl (by first | exact .inl rfl | exact .inr rfl) (pd_op op_addU ok_add pd_int (pd_op op_mulT ok_mulT pd_int (pd_var (pv 1))))) (pdss_cons (pds_for ownD rfl (pdi_seq (pd_op op_addU ok_add (pd_slice sl_U ok_sl (pd_var (pv 0)) pdo_none (pdo_some pd_int)) (pd_lst (pda_cons (pd_var (pv 2)) pda_nil)))) (pdg_name (i := 4) sc__law_dice.nd rfl (by first | exact .inl rfl | exact .inr rfl)) (pdss_one (pds_set (i := 3) sc__law_dice.nd rfl (by first | exact .inl rfl | exact .inr rfl) (pd_op op_mod ok_mod (pd_callTy cr_int ok_int rfl M.b_int boot_int (pda_cons (pd_op op_addU ok_add (pd_op op_mulT ok_mulT (pd_var (pv 3)) pd_int) (pd_op op_mod ok_mod (pd_callTy cr_int ok_int rfl M.b_int boot_int (pda_cons (pd_var (pv 4)) pda_nil)) pd_int)) pda_nil)) pd_int)))) (pdss_one (pds_ret (pd_lstM (pda_cons (pd_if (PDW.pt (pdw_or (pdt_cmp (op_ltV (room_eq hr)) ok_ltV (pd_var (pv 2)) pd_int (nomark _)) (pdw_or1 (pdt_cmp op_geU ok_cmp (pd_var (pv 2)) (pd_op op_pow ok_pow pd_int pd_int) (nomark _))))) (pd_callB cr_abs ok_abs rfl M.b_abs boot_abs (pda_cons (pd_var (pv 2)) pda_nil)) pd_int) (pda_cons (pd_var (pv 3)) (pda_cons pd_int pda_nil))))))))), ?_⟩
  intro τ ds k hl h
  unfold sp__law_dice at h
  split at h
  case h_2 => exact h.elim
  rename_i ns i
  obtain ⟨zs, rfl, hz, h0, h1, hk⟩ := h
  have hsz : ∀ own : Int, (List.take (HT.sIx zs.length zs.length (some 6) - HT.sIx zs.length 0 none) (List.drop (HT.sIx zs.length 0 none) zs) ++ [own]).length ≤ 1000 := fun own => by
    have := List.length_take_le (HT.sIx zs.length zs.length (some 6) - HT.sIx zs.length 0 none) (List.drop (HT.sIx zs.length 0 none) zs)
    simp only [List.length_append, List.length_take, List.length_drop, List.length_cons, List.length_nil] at this ⊢
    omega
  have e : ∀ (l : List Int) (own : Int), l.map D.int ++ [D.int own] = (l ++ [own]).map D.int := fun l own => by simp
  have one : 1 ≤ sizeLine := by rw [sizeLine_eq]; decide
  have three : 3 ≤ sizeLine := by rw [sizeLine_eq]; decide
  simp! only [true_and, sp__law_dice_eq, cutD_map, e, List.length_map]
  by_cases c0 : i < ((zs.length : Nat) : Int)
  · obtain ⟨n, rfl⟩ := Int.eq_ofNat_of_zero_le h0
    have hn : n < zs.length := by omega
    have e1 : atI (zs.map D.int) (n : Int) = some (.int zs[n]) := by rw [atI_nat (by simpa using hn)]; simp [hn]
    simp only [c0, decide_true, if_true, e1, onSome_eq]
    generalize zs[n] = own
    generalize ((n : Nat) : Int) = i at *
    refine ⟨mul_ok ⟨by decide, by decide⟩, one, ?_, ?_⟩
    · have := hsz own
      simp only [List.length_append, List.length_cons, List.length_nil] at this
      exact sz6 this
    try rw [e]
    refine loop_st (α := Int) (g := D.int) (s0 := 910003 + 7907 * i) (fun (s : Int) τ' ds => τ' = τ ∧ 0 ≤ s ∧ ∃ x, ds = [some (.lst (zs.map D.int)), some (.int i), some (.int own), some (.int s), x]) mixS _ (fun c _ s τ' ds hI G hG => ?_) ⟨rfl, by omega, none, rfl⟩ (fun τ' ds hI => ?_)
    · obtain ⟨rfl, hs, x, rfl⟩ := hI
      simp! only [true_and, sp__law_dice_eq]
      exact ⟨.inr ⟨by decide, by decide⟩, by decide, by decide, hG _ _ ⟨rfl, by unfold mixS; omega, _, rfl⟩⟩
    · obtain ⟨rfl, hs, x, rfl⟩ := hI
      simp! only [true_and, sp__law_dice_eq]
      by_cases c1 : own < 0
      · simp only [c1, decide_true, if_true]
        exact ⟨three, fun p hp => Fin.same (hk p _ ⟨_, _, _, rfl, by omega, hs, by decide, by decide⟩ hp)⟩
      · simp only [c1, decide_false, Bool.false_eq_true, if_false]
        refine ⟨⟨by decide, by decide, by decide⟩, ?_⟩
        split
        · exact ⟨three, fun p hp => Fin.same (hk p _ ⟨_, _, _, rfl, by omega, hs, by decide, by decide⟩ hp)⟩
        · exact ⟨three, fun p hp => Fin.same (hk p _ ⟨_, _, _, rfl, by decide, hs, by decide, by decide⟩ hp)⟩
  · simp only [c0, decide_false, Bool.false_eq_true, if_false]
    refine ⟨mul_ok ⟨by decide, by decide⟩, ?_⟩
    generalize 733 * i + 29 = own
    refine ⟨mul_ok ⟨by decide, by decide⟩, one, ?_, ?_⟩
    · have := hsz own
      simp only [List.length_append, List.length_cons, List.length_nil] at this
      exact sz6 this
    try rw [e]
    refine loop_st (α := Int) (g := D.int) (s0 := 910003 + 7907 * i) (fun (s : Int) τ' ds => τ' = τ ∧ 0 ≤ s ∧ ∃ x, ds = [some (.lst (zs.map D.int)), some (.int i), some (.int own), some (.int s), x]) mixS _ (fun c _ s τ' ds hI G hG => ?_) ⟨rfl, by omega, none, rfl⟩ (fun τ' ds hI => ?_)
    · obtain ⟨rfl, hs, x, rfl⟩ := hI
      simp! only [true_and, sp__law_dice_eq]
      exact ⟨.inr ⟨by decide, by decide⟩, by decide, by decide, hG _ _ ⟨rfl, by unfold mixS; omega, _, rfl⟩⟩
    · obtain ⟨rfl, hs, x, rfl⟩ := hI
      simp! only [true_and, sp__law_dice_eq]
      by_cases c1 : own < 0
      · simp only [c1, decide_true, if_true]
        exact ⟨three, fun p hp => Fin.same (hk p _ ⟨_, _, _, rfl, by omega, hs, by decide, by decide⟩ hp)⟩
      · simp only [c1, decide_false, Bool.false_eq_true, if_false]
        refine ⟨⟨by decide, by decide, by decide⟩, ?_⟩
        split
        · exact ⟨three, fun p hp => Fin.same (hk p _ ⟨_, _, _, rfl, by omega, hs, by decide, by decide⟩ hp)⟩
        · exact ⟨three, fun p hp => Fin.same (hk p _ ⟨_, _, _, rfl, by decide, hs, by decide, by decide⟩ hp)⟩
/-! ### _law_roll -/
theorem sc__law_roll : FnScope ["dice", "total", "found"] ["dice", "total"] (defScope s__law_roll) := ⟨rfl, rfl, rfl, by decide +kernel, rfl, by decide +kernel, by decide +kernel⟩
theorem bn__law_roll (M : Mod K mg) : L2.Binds K M.f__law_roll.choose ["dice", "total"] [] := fun_binds M.f__law_roll.choose_spec fun _ _ _ _ _ _ us hl => match us, hl with | [_, _], _ => rfl
def sp__law_roll : SpD := fun τ ds k KE => match ds with
  | [.ref p, .int n] => ∃ m xs, lstAt τ p = some xs ∧ Dc m xs ∧ m ≤ 1000000 ∧ (0 < n ∧ n ≤ 1000000) ∧ ∀ ys r, Dc (m + 1) ys → 0 ≤ r → r < n → k (tset τ p (.lst ys)) (.int r)
  | _ => False
theorem sp__law_roll_eq {τ : TD} {k : DK} {KE : XD} {p : Addr} {n : Int} : sp__law_roll τ [.ref p, .int n] k KE = (∃ m xs, lstAt τ p = some xs ∧ Dc m xs ∧ m ≤ 1000000 ∧ (0 < n ∧ n ≤ 1000000) ∧ ∀ ys r, Dc (m + 1) ys → 0 ≤ r → r < n → k (tset τ p (.lst ys)) (.int r)) := rfl
theorem ok__law_roll (M : Mod K mg) : FnD prog w K mg base (TT K) 2 (He.fAd K ("_law_roll", none)) M.f__law_roll.choose ["dice", "total"] sp__law_roll := by
  refine fnD_of M.f__law_roll.choose_spec sc__law_roll fun KE => ⟨_, fun cdv A outer s H E hr => (pdss_cons (pds_if (pdt_cmp op_gtU ok_cmp (pd_ix ix_seq ok_ix (pd_var (pv 0)) pd_int) pd_int (nomark _)) (pdss_cons (pds_set (i := 2) sc__law_roll.nd rfl (by first | exact .inl rfl | exact .inr rfl) (pd_op op_mod ok_mod (pd_callTy cr_int ok_int rfl M.b_int boot_int (pda_cons (pd_ix ix_seq ok_ix (pd_var (pv 0)) pd_int) pda_nil)) (pd_var (pv 1)))) (pdss_cons (pds_asg (pd_op op_fdiv ok_div (pd_ix ix_seq ok_ix (pd_var (pv 0)) pd_int) (pd_var (pv 1))) (pdg_sub (pd_var (pv 0)) pd_int set_list ok_setL)) (pdss_one (pds_ret (pd_var (pv 2)))))) pdss_nil) (pdss_cons (pds_asg (pd_op op_addU ok_add (pd_ix ix_seq ok_ix (pd_var (pv 0)) pd_int) pd_int) (pdg_sub (pd_var (pv 0)) pd_int set_list ok_setL)) (pdss_cons (pds_asg (pd_op op_mod ok_mod (pd_callTy cr_int ok_int rfl M.b_int boot_int (pda_cons (pd_op op_addU ok_add (pd_op op_addU ok_add (pd_op op_mulT ok_mulT (pd_ix ix_seq ok_ix (pd_var (pv 0)) pd_int) pd_int) (pd_op op_mulT ok_mulT (pd_op op_mulT ok_mulT (pd_ix ix_seq ok_ix (pd_var (pv 0)) pd_int) (pd_ix ix_seq ok_ix (pd_var (pv 0)) pd_int)) pd_int)) pd_int) pda_nil)) pd_int) (pdg_sub (pd_var (pv 0)) pd_int set_list ok_setL)) (pdss_one (pds_ret (pd_op op_mod ok_mod (pd_callTy cr_int ok_int rfl M.b_int boot_int (pda_cons (pd_op op_fdiv ok_div (pd_ix ix_seq ok_ix (pd_var (pv 0)) pd_int) pd_int) pda_nil)) (pd_var (pv 1)))))))), ?_⟩
  intro τ ds k hl h
  unfold sp__law_roll at h
  split at h
  case h_2 => exact h.elim
  rename_i p n
  obtain ⟨m, xs, hx, ⟨a, b, c, rfl, ha, hb, hc, hc2⟩, hm, ⟨hn, hn2⟩, hk⟩ := h
  simp! only [true_and, sp__law_dice_eq, sp__law_roll_eq, hx, tset_tset]
  by_cases e : 0 < a
  · simp only [e, decide_true, if_true]
    exact ⟨hn, ⟨hn, by omega⟩, Fin.same (hk _ _ ⟨_, _, _, rfl, Int.ediv_nonneg ha (by omega), hb, hc, by omega⟩ (Int.emod_nonneg _ (by omega)) (Int.emod_lt_of_pos _ hn))⟩
  · simp only [e, decide_false, Bool.false_eq_true, if_false]
    refine ⟨.inr ⟨by decide, by decide⟩, .inl ⟨by omega, by omega⟩, .inr ⟨by decide, by decide⟩, by decide, ⟨by decide, by decide⟩, hn, Fin.same (hk _ _ ⟨_, _, _, rfl, ha, Int.emod_nonneg _ (by decide), by omega, by omega⟩ (Int.emod_nonneg _ (by omega)) (Int.emod_lt_of_pos _ hn))⟩
/-! ### _law_pick -/
theorem sc__law_pick : FnScope ["dice", "things"] ["dice", "things"] (defScope s__law_pick) := ⟨rfl, rfl, rfl, by decide +kernel, rfl, by decide +kernel, by decide +kernel⟩
theorem bn__law_pick (M : Mod K mg) : L2.Binds K M.f__law_pick.choose ["dice", "things"] [] := fun_binds M.f__law_pick.choose_spec fun _ _ _ _ _ _ us hl => match us, hl with | [_, _], _ => rfl
def seqOf (v : D) : List D := match v with
  | .lst xs => xs
  | .tup xs => xs
  | _ => []
def sp__law_pick : SpD := fun τ ds k KE => match ds with
  | [.ref p, v] => ∃ m xs, lstAt τ p = some xs ∧ Dc m xs ∧ m ≤ 1000000 ∧ (0 < (seqOf v).length ∧ (seqOf v).length ≤ 1000000) ∧ ∀ ys d, Dc (m + 1) ys → d ∈ seqOf v → k (tset τ p (.lst ys)) d
  | _ => False
theorem sp__law_pick_eq {τ : TD} {k : DK} {KE : XD} {p : Addr} {v : D} : sp__law_pick τ [.ref p, v] k KE = (∃ m xs, lstAt τ p = some xs ∧ Dc m xs ∧ m ≤ 1000000 ∧ (0 < (seqOf v).length ∧ (seqOf v).length ≤ 1000000) ∧ ∀ ys d, Dc (m + 1) ys → d ∈ seqOf v → k (tset τ p (.lst ys)) d) := rfl
theorem ok__law_pick (M : Mod K mg) : FnD prog w K mg base (TT K) 3 (He.fAd K ("_law_pick", none)) M.f__law_pick.choose ["dice", "things"] sp__law_pick := by
  refine fnD_of M.f__law_pick.choose_spec sc__law_pick fun KE => ⟨_, fun cdv A outer s H E hr => (pdss_one (pds_ret (pd_ix ix_seq ok_ix (pd_var (pv 1)) (pd_call (ok__law_roll M) (hr.mono (by decide)) rfl M.g__law_roll M.f__law_roll.choose_spec.kp (bn__law_roll M) .nil .nil passD (pda_cons (pd_var (pv 0)) (pda_cons (pd_callB cr_len ok_len rfl M.b_len boot_len (pda_cons (pd_var (pv 1)) pda_nil)) pda_nil)))))), ?_⟩
  intro τ ds k hl h
  unfold sp__law_pick at h
  split at h
  case h_2 => exact h.elim
  rename_i p v
  obtain ⟨m, xs, hx, hd, hm, ⟨hn, hn2⟩, hk⟩ := h
  have key : ∀ l : List D, 0 < l.length → ∀ r : Int, 0 ≤ r → r < ((l.length : Nat) : Int) → ∃ d, atI l r = some d ∧ d ∈ l := fun l hl r h1 h2 => by
    obtain ⟨n, rfl⟩ := Int.eq_ofNat_of_zero_le h1
    have hn : n < l.length := by omega
    exact ⟨l[n], by rw [atI_nat hn]; simp [hn], List.getElem_mem hn⟩
  cases v with
  | lst l =>
    simp! only [true_and, sp__law_dice_eq, sp__law_roll_eq, sp__law_pick_eq]
    refine ⟨m, xs, hx, hd, hm, ⟨by simp only [seqOf] at hn; omega, by simp only [seqOf] at hn2; omega⟩, fun ys r hy h1 h2 => ?_⟩
    obtain ⟨d, e1, e2⟩ := key l (by simpa only [seqOf] using hn) r h1 h2
    simp! only [true_and, sp__law_dice_eq, sp__law_roll_eq, sp__law_pick_eq, e1]
    exact Fin.same (hk ys d hy e2)
  | tup l =>
    simp! only [true_and, sp__law_dice_eq, sp__law_roll_eq, sp__law_pick_eq]
    refine ⟨m, xs, hx, hd, hm, ⟨by simp only [seqOf] at hn; omega, by simp only [seqOf] at hn2; omega⟩, fun ys r hy h1 h2 => ?_⟩
    obtain ⟨d, e1, e2⟩ := key l (by simpa only [seqOf] using hn) r h1 h2
    simp! only [true_and, sp__law_dice_eq, sp__law_roll_eq, sp__law_pick_eq, e1]
    exact Fin.same (hk ys d hy e2)
  | _ => exact absurd hn (by simp [seqOf])
end
end LW

set_option Elab.async false
set_option linter.all false
set_option maxRecDepth 100000
set_option maxHeartbeats 0
namespace LW
open PySem PySem.Spec PyProof.Rows L2 DL DX
section
variable {w : World} {K : PySem.W.Frag} {mg : Str → Option Value} {base : Heap}
local macro_rules | `(tactic| simp! only [$xs,*]) => `(tactic| simp only [dVar, dC, dOp, dUn, dTest_eq, dAnd, dOr, dNot, dAndV_eq, dOrV_eq, dNotV_eq, dIf, dChain_eq, dNil, dCons, dTup, dLst, dLstM, dCB, dBM, dNoPart, dPart_eq, dSl, dCall, dCallK, dNext, dBrk, dCnt, dSeq, dDrop, dRet, dRetN, dIfS, γName, γNil, γCons, γSub, dAsg, dPar, dPar3, dAug, ιSeq_eq, ιZip, ιRng1_eq, ιRng2_eq, dFor, dLc, dLcM, dYes, dT, dTold, onBl_eq, onInt_eq, onSeq_lst, onSeq_tup, onSeq_str, onSome_eq, lstAt_same, dRaise, startD, List.map_cons, List.map_nil, List.length_cons, List.length_nil, List.replicate_succ, List.replicate_zero, List.cons_append, List.nil_append, List.append_nil, List.getElem?_cons_zero, List.getElem?_cons_succ, List.set_cons_zero, List.set_cons_succ, Nat.reduceAdd, Nat.reduceSub, Nat.zero_add, Nat.sub_self, ρEq_int, ρEq_str, ρEq_bl, ρNe_int, ρNe_str, ρNe_bl, ρEq_t3, ρNe_t3, ρEq_t2, ρNe_t2, intsOf_mapf, strsOf_mapf, blsOf_mapf, gK_01_0, gK_02_01, gK_02_10, gK_03_012, gK_03_021, gK_03_102, gK_03_120, gK_03_201, gK_03_210, gK_11_0, gK_12_01, gK_12_10, gK_13_012, gK_13_021, gK_13_102, gK_13_120, gK_13_201, gK_13_210, dLstRg, ρLstOM_eq, seqAt_lst, seqAt_tup, seqAt_ref, ρMulT_int, ρMulT_str, ρMulT_tup, ρInU_one, ρPopAt_ref, eq_self, Bool.not_true, Bool.not_false, decide_true, decide_false, strsOf_c0, strsOf_c1, strsOf_c2, strsOf_c3, strsOf_c4, strsOf_c5, strsOf_c6, strsOf_c7, strsOf_c8, intsOf_c0, intsOf_c1, intsOf_c2, intsOf_c3, intsOf_c4, intsOf_c5, intsOf_c6, intsOf_c7, intsOf_c8, blsOf_c0, blsOf_c1, blsOf_c2, blsOf_c3, blsOf_c4, blsOf_c5, blsOf_c6, blsOf_c7, blsOf_c8, ixN_30, ixN_31, ixN_32, wipeD, if_true, if_false, Bool.false_eq_true, Bool.true_eq_false, true_and, and_true, ρAdd_int, ρAdd_str, ρAdd_tup, ρAdd_lst, ρAdd_rl, ρI_int, ρI0_int, ρMul_int, ρMul_str, ρNeg_int, ρCmp_int, ρCmp_str, ρIsN_eq, ρNotN_eq, isNonD_bl, isNonD_int, isNonD_str, isNonD_tup, isNonD_lst, isNonD_ref, isNonD_non, ρSgn_one, ρAbs_int, ρMax_two, ρMin_two, ρMax_lst, ρMin_lst, ρInt_int, ρInt_bl, ρStr_int, ρLen_str, ρLen_tup, ρLen_lst, ρLen_ref, ρSum_lst, ρAll_lst, ρAny_lst, ρTupO_tup, ρTupO_lst, ρIsi_eq, is_non_int, is_non_bool, is_non_str, is_non_tuple, is_non_list, is_bl_int, is_bl_bool, is_bl_str, is_bl_tuple, is_bl_list, is_int_int, is_int_bool, is_int_str, is_int_tuple, is_int_list, is_str_int, is_str_bool, is_str_str, is_str_tuple, is_str_list, is_tup_int, is_tup_bool, is_tup_str, is_tup_tuple, is_tup_list, is_lst_int, is_lst_bool, is_lst_str, is_lst_tuple, is_lst_list, tyN_non, tyN_bl, tyN_int, tyN_str, tyN_tup, tyN_lst, ρIx_tup, ρIx_lst, ρIx_str, ρIx_ref, ρSl_str, ρSl_lst, ρSl_tup, ρApp_ref, θLst_ref, θStr_str, ςLst_ref, ρJoin_lst, γTup_tup, atI_0, atI_1, atI_2, atI_3, atI_4, atI_5, atI_6, atI_7, ρEqR_eq, ρNeR_eq, resD_non, resD_bl, resD_int, resD_str, resD_tup, resD_lst, eqA_nn, eqA_ii, eqA_bb, eqA_ss, eqA_ni, eqA_in, eqA_nb, eqA_bn, eqA_ns, eqA_sn, eqA_is, eqA_si, eqA_tt, eqA_ll, eqA_tl, eqA_lt, eqA_tn, eqA_nt, eqA_ti', eqA_it, eqA_ts, eqA_st, shB_non, shB_bl, shB_int, shB_str, shB_t63, shB_t62, shB_t61, shB_t60, shB_t59, shB_l63, shB_l62, shB_l61, shB_l60, shBs_nil, shBs_cons, shBs_append, shBs_ints, eqDs_nil, eqDs_cons, eqDs_cn, eqDs_nc, eqDs_ints, eqDs_strs, eqD_ii, eqD_bb, eqD_ss, eqD_tt, eqD_ll, eqD_nn, ρLstO_seq, ρTupO_ref, Option.isSome_some, dNewK, dNewT, dGetK, dGetT, dInK, dInT, dPutK, dPutT, dAugK, dAugT, dGet2K, dGet2T, dPop1K, onRef_eq, dkAt_same, dtAt_same, dkW_same, dtW_same, keyOf_int, keyOf_str, keysOf_ii, keysOf_iii, ιEnum_eq, onSq_tup, onSq_lst, ρLtV_int, ρLtV_str, ρLtV_tup, ρPop_ref, ρIdx_lst, dFld, dSFld, dSFldAug, dMeth, dMake, dMethK, dMakeK, dEqI, insAt_same, lkF_cons, lkF_nil, putFD_cons, putFD_nil, ρIsC_non, ρIsC_ref, ρLenD_eq, dSortIt, ρSortD_eq, ρMinD_eq, ρMaxD_eq, dMet, dTm, mem_h, mem_h2, onBool_eq, insOrNon, ρCopy_ref, ιItems, ιVals, ιKeys, lkW_same, dLockE, dLockS, ρCopyT_ref, ρInX_eq, itsD_tup, itsD_lst, itsD_ref, dStar, ρSortKI_ref, ρRemX_ref, dForM, dLcR, Cs_shape, Cs__calls, ne___eq_____calls, ne___eq____shape, ne___init_____calls, ne___init____shape, ne__calls____eq__, ne__calls____init__, ne__calls__call, ne__calls__calls, ne__calls__demand_ends, ne__calls__end, ne__calls__free_outlets, ne__calls__has_outlet, ne__calls__is_behind_free, ne__calls__is_blocked, ne__calls__is_front_free, ne__calls__look_at_ends, ne__calls__middles, ne__calls__shape, ne__calls__twin, ne__calls__ways, ne_call___calls, ne_call__shape, ne_calls___calls, ne_calls__shape, ne_demand_ends___calls, ne_demand_ends__shape, ne_end___calls, ne_end__shape, ne_free_outlets___calls, ne_free_outlets__shape, ne_has_outlet___calls, ne_has_outlet__shape, ne_is_behind_free___calls, ne_is_behind_free__shape, ne_is_blocked___calls, ne_is_blocked__shape, ne_is_front_free___calls, ne_is_front_free__shape, ne_look_at_ends___calls, ne_look_at_ends__shape, ne_middles___calls, ne_middles__shape, ne_shape____eq__, ne_shape____init__, ne_shape___calls, ne_shape__call, ne_shape__calls, ne_shape__demand_ends, ne_shape__end, ne_shape__free_outlets, ne_shape__has_outlet, ne_shape__is_behind_free, ne_shape__is_blocked, ne_shape__is_front_free, ne_shape__look_at_ends, ne_shape__middles, ne_shape__twin, ne_shape__ways, ne_twin___calls, ne_twin__shape, ne_ways___calls, ne_ways__shape, sp_is_in_eq, sp_is_tuple_eq, sp_demand_eq, sp__law_dice_eq, sp__law_roll_eq, sp__law_pick_eq, $xs,*])
local macro_rules | `(tactic| dsimp! only [$xs,*]) => `(tactic| simp only [dVar, dC, dOp, dUn, dTest_eq, dAnd, dOr, dNot, dAndV_eq, dOrV_eq, dNotV_eq, dIf, dChain_eq, dNil, dCons, dTup, dLst, dLstM, dCB, dBM, dNoPart, dPart_eq, dSl, dCall, dCallK, dNext, dBrk, dCnt, dDrop, dRet, dRetN, dIfS, γName, γNil, γCons, γSub, dAsg, dPar, dPar3, dAug, ιSeq_eq, ιZip, ιRng1_eq, ιRng2_eq, dFor, dLc, dLcM, dYes, dT, dTold, onBl_eq, onInt_eq, onSeq_lst, onSeq_tup, onSeq_str, onSome_eq, lstAt_same, dRaise, startD, List.map_cons, List.map_nil, List.length_cons, List.length_nil, List.replicate_succ, List.replicate_zero, List.cons_append, List.nil_append, List.append_nil, List.getElem?_cons_zero, List.getElem?_cons_succ, List.set_cons_zero, List.set_cons_succ, Nat.reduceAdd, Nat.reduceSub, Nat.zero_add, Nat.sub_self, ρEq_int, ρEq_str, ρEq_bl, ρNe_int, ρNe_str, ρNe_bl, ρEq_t3, ρNe_t3, ρEq_t2, ρNe_t2, intsOf_mapf, strsOf_mapf, blsOf_mapf, gK_01_0, gK_02_01, gK_02_10, gK_03_012, gK_03_021, gK_03_102, gK_03_120, gK_03_201, gK_03_210, gK_11_0, gK_12_01, gK_12_10, gK_13_012, gK_13_021, gK_13_102, gK_13_120, gK_13_201, gK_13_210, dLstRg, ρLstOM_eq, seqAt_lst, seqAt_tup, seqAt_ref, ρMulT_int, ρMulT_str, ρMulT_tup, ρInU_one, ρPopAt_ref, eq_self, Bool.not_true, Bool.not_false, decide_true, decide_false, strsOf_c0, strsOf_c1, strsOf_c2, strsOf_c3, strsOf_c4, strsOf_c5, strsOf_c6, strsOf_c7, strsOf_c8, intsOf_c0, intsOf_c1, intsOf_c2, intsOf_c3, intsOf_c4, intsOf_c5, intsOf_c6, intsOf_c7, intsOf_c8, blsOf_c0, blsOf_c1, blsOf_c2, blsOf_c3, blsOf_c4, blsOf_c5, blsOf_c6, blsOf_c7, blsOf_c8, ixN_30, ixN_31, ixN_32, wipeD, if_true, if_false, Bool.false_eq_true, Bool.true_eq_false, true_and, and_true, ρAdd_int, ρAdd_str, ρAdd_tup, ρAdd_lst, ρAdd_rl, ρI_int, ρI0_int, ρMul_int, ρMul_str, ρNeg_int, ρCmp_int, ρCmp_str, ρIsN_eq, ρNotN_eq, isNonD_bl, isNonD_int, isNonD_str, isNonD_tup, isNonD_lst, isNonD_ref, isNonD_non, ρSgn_one, ρAbs_int, ρMax_two, ρMin_two, ρMax_lst, ρMin_lst, ρInt_int, ρInt_bl, ρStr_int, ρLen_str, ρLen_tup, ρLen_lst, ρLen_ref, ρSum_lst, ρAll_lst, ρAny_lst, ρTupO_tup, ρTupO_lst, ρIsi_eq, is_non_int, is_non_bool, is_non_str, is_non_tuple, is_non_list, is_bl_int, is_bl_bool, is_bl_str, is_bl_tuple, is_bl_list, is_int_int, is_int_bool, is_int_str, is_int_tuple, is_int_list, is_str_int, is_str_bool, is_str_str, is_str_tuple, is_str_list, is_tup_int, is_tup_bool, is_tup_str, is_tup_tuple, is_tup_list, is_lst_int, is_lst_bool, is_lst_str, is_lst_tuple, is_lst_list, tyN_non, tyN_bl, tyN_int, tyN_str, tyN_tup, tyN_lst, ρIx_tup, ρIx_lst, ρIx_str, ρIx_ref, ρSl_str, ρSl_lst, ρSl_tup, ρApp_ref, θLst_ref, θStr_str, ςLst_ref, ρJoin_lst, γTup_tup, atI_0, atI_1, atI_2, atI_3, atI_4, atI_5, atI_6, atI_7, ρEqR_eq, ρNeR_eq, resD_non, resD_bl, resD_int, resD_str, resD_tup, resD_lst, eqA_nn, eqA_ii, eqA_bb, eqA_ss, eqA_ni, eqA_in, eqA_nb, eqA_bn, eqA_ns, eqA_sn, eqA_is, eqA_si, eqA_tt, eqA_ll, eqA_tl, eqA_lt, eqA_tn, eqA_nt, eqA_ti', eqA_it, eqA_ts, eqA_st, shB_non, shB_bl, shB_int, shB_str, shB_t63, shB_t62, shB_t61, shB_t60, shB_t59, shB_l63, shB_l62, shB_l61, shB_l60, shBs_nil, shBs_cons, shBs_append, shBs_ints, eqDs_nil, eqDs_cons, eqDs_cn, eqDs_nc, eqDs_ints, eqDs_strs, eqD_ii, eqD_bb, eqD_ss, eqD_tt, eqD_ll, eqD_nn, ρLstO_seq, ρTupO_ref, Option.isSome_some, dNewK, dNewT, dGetK, dGetT, dInK, dInT, dPutK, dPutT, dAugK, dAugT, dGet2K, dGet2T, dPop1K, onRef_eq, dkAt_same, dtAt_same, dkW_same, dtW_same, keyOf_int, keyOf_str, keysOf_ii, keysOf_iii, ιEnum_eq, onSq_tup, onSq_lst, ρLtV_int, ρLtV_str, ρLtV_tup, ρPop_ref, ρIdx_lst, dFld, dSFld, dSFldAug, dMeth, dMake, dMethK, dMakeK, dEqI, insAt_same, lkF_cons, lkF_nil, putFD_cons, putFD_nil, ρIsC_non, ρIsC_ref, ρLenD_eq, dSortIt, ρSortD_eq, ρMinD_eq, ρMaxD_eq, dMet, dTm, mem_h, mem_h2, onBool_eq, insOrNon, ρCopy_ref, ιItems, ιVals, ιKeys, lkW_same, dLockE, dLockS, ρCopyT_ref, ρInX_eq, itsD_tup, itsD_lst, itsD_ref, dStar, ρSortKI_ref, ρRemX_ref, dForM, dLcR, Cs_shape, Cs__calls, ne___eq_____calls, ne___eq____shape, ne___init_____calls, ne___init____shape, ne__calls____eq__, ne__calls____init__, ne__calls__call, ne__calls__calls, ne__calls__demand_ends, ne__calls__end, ne__calls__free_outlets, ne__calls__has_outlet, ne__calls__is_behind_free, ne__calls__is_blocked, ne__calls__is_front_free, ne__calls__look_at_ends, ne__calls__middles, ne__calls__shape, ne__calls__twin, ne__calls__ways, ne_call___calls, ne_call__shape, ne_calls___calls, ne_calls__shape, ne_demand_ends___calls, ne_demand_ends__shape, ne_end___calls, ne_end__shape, ne_free_outlets___calls, ne_free_outlets__shape, ne_has_outlet___calls, ne_has_outlet__shape, ne_is_behind_free___calls, ne_is_behind_free__shape, ne_is_blocked___calls, ne_is_blocked__shape, ne_is_front_free___calls, ne_is_front_free__shape, ne_look_at_ends___calls, ne_look_at_ends__shape, ne_middles___calls, ne_middles__shape, ne_shape____eq__, ne_shape____init__, ne_shape___calls, ne_shape__call, ne_shape__calls, ne_shape__demand_ends, ne_shape__end, ne_shape__free_outlets, ne_shape__has_outlet, ne_shape__is_behind_free, ne_shape__is_blocked, ne_shape__is_front_free, ne_shape__look_at_ends, ne_shape__middles, ne_shape__twin, ne_shape__ways, ne_twin___calls, ne_twin__shape, ne_ways___calls, ne_ways__shape, sp_is_in_eq, sp_is_tuple_eq, sp_demand_eq, sp__law_dice_eq, sp__law_roll_eq, sp__law_pick_eq, $xs,*])
/-! ### _law_r_shape -/
theorem sc__law_r_shape : FnScope ["dice", "most", "n"] ["dice", "most"] (defScope s__law_r_shape) := ⟨rfl, rfl, rfl, by decide +kernel, rfl, by decide +kernel, by decide +kernel⟩
theorem bn__law_r_shape (M : Mod K mg) : L2.Binds K M.f__law_r_shape.choose ["dice", "most"] [] := fun_binds M.f__law_r_shape.choose_spec fun _ _ _ _ _ _ us hl => match us, hl with | [_, _], _ => rfl
def sp__law_r_shape : SpD := fun τ ds k KE => ∃ (p : Addr) (n : Int), ds = [.ref p, .int n] ∧ (∃ m xs, lstAt τ p = some xs ∧ Dc m xs ∧ m ≤ 100000 ∧ n = 4 ∧ ∀ ys s, Dc (m + 4) ys → s.Ok → s.ends ≤ 16 → s.m ≤ 7 → k (tset τ p (.lst ys)) (shD s))
theorem sp__law_r_shape_of {τ : TD} {k : DK} {KE : XD} {p : Addr} {n : Int} (h_ : ∃ m xs, lstAt τ p = some xs ∧ Dc m xs ∧ m ≤ 100000 ∧ n = 4 ∧ ∀ ys s, Dc (m + 4) ys → s.Ok → s.ends ≤ 16 → s.m ≤ 7 → k (tset τ p (.lst ys)) (shD s)) : sp__law_r_shape τ [.ref p, .int n] k KE := ⟨_, _, rfl, h_⟩
theorem ok__law_r_shape (M : Mod K mg) : FnD prog w K mg base (TT K) 4 (He.fAd K ("_law_r_shape", none)) M.f__law_r_shape.choose ["dice", "most"] sp__law_r_shape := by
  refine fnD_of M.f__law_r_shape.choose_spec sc__law_r_shape fun KE => ⟨_, fun cdv A outer s H E hr => (pdss_cons (pds_set (i := 2) sc__law_r_shape.nd rfl (by first | exact .inl rfl | exact .inr rfl) (pd_op op_addU ok_add pd_int (pd_call (ok__law_roll M) (hr.mono (by decide)) rfl M.g__law_roll M.f__law_roll.choose_spec.kp (bn__law_roll M) .nil .nil passD (pda_cons (pd_var (pv 0)) (pda_cons (pd_var (pv 1)) pda_nil))))) (pdss_one (pds_ret (pd_tup (pda_cons (pd_var (pv 2)) (pda_cons (pd_callB (cr_maxU rfl) ok_max rfl M.b_max boot_max (pda_cons pd_int (pda_cons (pd_call (ok__law_pick M) (hr.mono (by decide)) rfl M.g__law_pick M.f__law_pick.choose_spec.kp (bn__law_pick M) .nil .nil passD (pda_cons (pd_var (pv 0)) (pda_cons (pd_lst (pda_cons (pd_var (pv 2)) (pda_cons (pd_var (pv 2)) (pda_cons (pd_op op_sub ok_sub (pd_op op_mulT ok_mulT pd_int (pd_var (pv 2))) pd_int) (pda_cons (pd_op op_sub ok_sub (pd_op op_mulT ok_mulT pd_int (pd_var (pv 2))) pd_int) (pda_cons (pd_op op_sub ok_sub (pd_var (pv 2)) pd_int) (pda_cons (pd_op op_addU ok_add pd_int (pd_call (ok__law_roll M) (hr.mono (by decide)) rfl M.g__law_roll M.f__law_roll.choose_spec.kp (bn__law_roll M) .nil .nil passD (pda_cons (pd_var (pv 0)) (pda_cons pd_int pda_nil)))) pda_nil))))))) pda_nil))) pda_nil))) (pda_cons (pd_op op_addU ok_add pd_int (pd_call (ok__law_roll M) (hr.mono (by decide)) rfl M.g__law_roll M.f__law_roll.choose_spec.kp (bn__law_roll M) .nil .nil passD (pda_cons (pd_var (pv 0)) (pda_cons (pd_var (pv 1)) pda_nil)))) pda_nil))))))), ?_⟩
  intro τ ds k hl h
  unfold sp__law_r_shape at h
  obtain ⟨p, n, rfl, hh⟩ := h
  obtain ⟨m, xs, hx, hd, hm, rfl, hk⟩ := hh
  refine dSeq_step fun Z hZ => ?_
  try simp! only [true_and]
  refine ⟨m, xs, hx, hd, by omega, by decide, fun y1 r1 d1 a1 b1 => hZ _ _ ?_⟩
  clear hZ Z
  try simp! only [true_and]
  refine ⟨mul_ok ⟨by decide, by decide⟩, mul_ok ⟨by decide, by decide⟩, _, y1, rfl, d1, by omega, by decide, fun y2 r2 d2 a2 b2 => ?_⟩
  refine ⟨szn, ?_⟩
  try simp! only [true_and]
  refine ⟨_, y2, rfl, d2, by omega, ⟨by decide, by decide⟩, fun y3 v d3 m3 => ?_⟩
  obtain ⟨i, rfl, hi⟩ : ∃ i, v = .int i ∧ i ≤ 7 := by
    simp only [seqOf, List.mem_cons, List.not_mem_nil, or_false] at m3
    rcases m3 with rfl | rfl | rfl | rfl | rfl | rfl <;> exact ⟨_, rfl, by omega⟩
  try simp! only [true_and]
  refine ⟨_, y3, rfl, d3, by omega, by decide, fun y4 r4 d4 a4 b4 => ?_⟩
  try simp! only [true_and, tset_tset]
  have e16 : (1 + r1) * (1 + r4) ≤ 16 := Int.le_trans (Int.mul_le_mul (show 1 + r1 ≤ 4 by omega) (show 1 + r4 ≤ 4 by omega) (by omega) (by decide)) (by decide)
  refine ⟨szn, Fin.same (hk y4 ⟨1 + r1, if i > 1 then i else 1, 1 + r4⟩ d4 ⟨by simp only; omega, ?_, by simp only; omega⟩ e16 ?_)⟩
  · simp only
    split <;> omega
  · simp only
    split <;> omega
/-! ### _law_r_can -/
theorem sc__law_r_can : FnScope ["shape", "calls", "inlet", "outlet", "middle", "size", "call"] ["shape", "calls", "inlet", "outlet", "middle"] (defScope s__law_r_can) := ⟨rfl, rfl, rfl, by decide +kernel, rfl, by decide +kernel, by decide +kernel⟩
theorem bn__law_r_can (M : Mod K mg) : L2.Binds K M.f__law_r_can.choose ["shape", "calls", "inlet", "outlet", "middle"] [] := fun_binds M.f__law_r_can.choose_spec fun _ _ _ _ _ _ us hl => match us, hl with | [_, _, _, _, _], _ => rfl
def canS (s : Shp) (cs : List C3) (i o m : Int) : Str := (canW s cs i o m).getD ""
theorem fm_ones {α : Type} {p : α → Bool} {l : List α} : eqDs (l.filterMap fun c => if p c = true then some (D.int 1) else none) [] = !(l.any p) := by
  rw [fm_filter p (fun _ => D.int 1)]
  induction l with
  | nil => rfl
  | cons a l ih =>
    rw [List.filter_cons, List.any_cons]
    cases p a with
    | true => rfl
    | false => exact ih
theorem sh_ones {α : Type} {p : α → Bool} {l : List α} {n : Nat} : shBs n (l.filterMap fun c => if p c = true then some (D.int 1) else none) = true := by
  rw [fm_filter p (fun _ => D.int 1)]
  exact shBs_map fun _ _ => shB_int
theorem any_in {cs : List C3} {i : Int} : (cs.any fun c => decide (c.1 = i)) = decide (i ∈ cs.map (·.1)) := by
  induction cs with
  | nil => rfl
  | cons c cs ih =>
    rw [List.any_cons, ih, List.map_cons, Bool.eq_iff_iff]
    simp only [Bool.or_eq_true, decide_eq_true_eq, List.mem_cons]
    constructor
    · rintro (h | h)
      · exact .inl h.symm
      · exact .inr h
    · rintro (h | h)
      · exact .inl h.symm
      · exact .inr h
theorem lstAt_out {τ : TD} {c L : Addr} {xs : List D} {u : DO} (h : lstAt τ c = some xs) (hL : τ L = none) : lstAt (tset τ L u) c = some xs := by
  have : c ≠ L := sub_ne' (lstAt_iff h) hL
  unfold lstAt at h ⊢
  rw [tset_ne this]; exact h
theorem lcR_ones {cs : List C3} {c L : Addr} {γ : DG} {η : DT} {δ : DE} {ws : List Nat} {ds : Sl} {τ : TD} {k : TD → List D → Prop} (p : C3 → Bool) (hc : lstAt τ c = some (cs.map c3D)) (hz : cs.length ≤ 1000) (hL : τ L = none)
    (step : ∀ x ∈ cs, ∀ (acc : List D) (k : TD → Option D → Prop), (if p x = true then k (tset τ L (.lst acc)) (some (.int 1)) else k (tset τ L (.lst acc)) none) → γ (c3D x) (tset τ L (.lst acc)) (wipeD ds ws) fun τ1 ds1 => η τ1 ds1 fun τ2 b => if b = true then δ τ2 ds1 fun τ3 d => k τ3 (some d) else k τ2 none)
    (hk : k (tset τ L (.lst (cs.filterMap fun x => if p x = true then some (.int 1) else none))) (cs.filterMap fun x => if p x = true then some (.int 1) else none)) : dLcLM c (cs.map c3D) γ η δ ws ds L k (cs.map c3D) [] (tset τ L (.lst [])) :=
  lcR_fmT (l := cs) (g := c3D) _ (sz1000 hz) (lstAt_iff hc) hL (fun x hx acc k' hk' => step x hx acc k' (by
    cases e : p x with
    | true => rw [e, if_pos rfl] at hk'; rw [if_pos rfl]; exact hk'
    | false => rw [e, if_neg (by decide)] at hk'; rw [if_neg (by decide)]; exact hk')) hk
def sp__law_r_can : SpD := fun τ ds k KE => ∃ (c : Addr) (i o m : Int) (s : Shp) (cs : List C3), ds = [shD s, .ref c, .int i, .int o, .int m] ∧ (lstAt τ c = some (cs.map c3D) ∧ cs.length ≤ 1000 ∧ s.Ok ∧ k τ (.str (canS s cs i o m)))
theorem sp__law_r_can_of {τ : TD} {k : DK} {KE : XD} {c : Addr} {i o m : Int} {s : Shp} {cs : List C3} (h_ : lstAt τ c = some (cs.map c3D) ∧ cs.length ≤ 1000 ∧ s.Ok ∧ k τ (.str (canS s cs i o m))) : sp__law_r_can τ [shD s, .ref c, .int i, .int o, .int m] k KE := ⟨_, _, _, _, _, _, rfl, h_⟩
theorem ok__law_r_can (M : Mod K mg) : FnD prog w K mg base (TT K) 2 (He.fAd K ("_law_r_can", none)) M.f__law_r_can.choose ["shape", "calls", "inlet", "outlet", "middle"] sp__law_r_can := by
  refine fnD_of M.f__law_r_can.choose_spec sc__law_r_can fun KE => ⟨_, fun cdv A outer s H E hr => (pdss_cons (pds_set (i := 5) sc__law_r_can.nd rfl (by first | exact .inl rfl | exact .inr rfl) (pd_ix ix_seq ok_ix (pd_var (pv 0)) pd_int)) (pdss_cons (pds_if (pdt_cmp (op_neU (room_eq hr)) ok_neR (pd_lcR rfl sc__law_r_can.nd (pd_var (pv 1)) (show BlkOk ["shape", "calls", "inlet", "outlet", "middle", "size", "call"] (defScope s__law_r_can) _ [("call", 6)] from blk_of (by decide +kernel)) (fun _ _ _ _ _ => pdn_name (i := 6) sc__law_r_can.nd rfl (by first | exact .inl rfl | exact .inr rfl) (by decide)) (fun _ _ _ _ _ => pdts_one (pdt_cmp (op_eqU (room_eq hr)) ok_eqR (pd_ix ix_seq ok_ix (pd_var (pv 6)) pd_int) (pd_var (pv 2)) (nomark _))) (fun _ _ _ _ _ => pd_int)) (pd_lst pda_nil) (nomark _)) (pdss_one (pds_ret pd_str)) pdss_nil) (pdss_cons (pds_if (pdt_cmp (op_neU (room_eq hr)) ok_neR (pd_lcR rfl sc__law_r_can.nd (pd_var (pv 1)) (show BlkOk ["shape", "calls", "inlet", "outlet", "middle", "size", "call"] (defScope s__law_r_can) _ [("call", 6)] from blk_of (by decide +kernel)) (fun _ _ _ _ _ => pdn_name (i := 6) sc__law_r_can.nd rfl (by first | exact .inl rfl | exact .inr rfl) (by decide)) (fun _ _ _ _ _ => pdts_one (pdt_cmp (op_eqU (room_eq hr)) ok_eqR (pd_ix ix_seq ok_ix (pd_var (pv 6)) pd_int) (pd_var (pv 3)) (nomark _))) (fun _ _ _ _ _ => pd_int)) (pd_lst pda_nil) (nomark _)) (pdss_one (pds_ret pd_str)) pdss_nil) (pdss_cons (pds_if (pdt_cmp (op_neU (room_eq hr)) ok_neR (pd_lcR rfl sc__law_r_can.nd (pd_var (pv 1)) (show BlkOk ["shape", "calls", "inlet", "outlet", "middle", "size", "call"] (defScope s__law_r_can) _ [("call", 6)] from blk_of (by decide +kernel)) (fun _ _ _ _ _ => pdn_name (i := 6) sc__law_r_can.nd rfl (by first | exact .inl rfl | exact .inr rfl) (by decide)) (fun _ _ _ _ _ => pdts_one (PDW.pt (pdw_and (pdt_cmp (op_eqU (room_eq hr)) ok_eqR (pd_op op_fdiv ok_div (pd_ix ix_seq ok_ix (pd_var (pv 6)) pd_int) (pd_var (pv 5))) (pd_op op_fdiv ok_div (pd_var (pv 2)) (pd_var (pv 5))) (nomark _)) (pdw_and1 (pdt_cmp (op_eqU (room_eq hr)) ok_eqR (pd_ix ix_seq ok_ix (pd_var (pv 6)) pd_int) (pd_var (pv 4)) (nomark _)))))) (fun _ _ _ _ _ => pd_int)) (pd_lst pda_nil) (nomark _)) (pdss_one (pds_ret pd_str)) pdss_nil) (pdss_one (pds_ret (pd_if (pdt_cmp (op_neU (room_eq hr)) ok_neR (pd_lcR rfl sc__law_r_can.nd (pd_var (pv 1)) (show BlkOk ["shape", "calls", "inlet", "outlet", "middle", "size", "call"] (defScope s__law_r_can) _ [("call", 6)] from blk_of (by decide +kernel)) (fun _ _ _ _ _ => pdn_name (i := 6) sc__law_r_can.nd rfl (by first | exact .inl rfl | exact .inr rfl) (by decide)) (fun _ _ _ _ _ => pdts_one (PDW.pt (pdw_and (pdt_cmp (op_eqU (room_eq hr)) ok_eqR (pd_op op_fdiv ok_div (pd_ix ix_seq ok_ix (pd_var (pv 6)) pd_int) (pd_var (pv 5))) (pd_op op_fdiv ok_div (pd_var (pv 3)) (pd_var (pv 5))) (nomark _)) (pdw_and1 (pdt_cmp (op_eqU (room_eq hr)) ok_eqR (pd_ix ix_seq ok_ix (pd_var (pv 6)) pd_int) (pd_var (pv 4)) (nomark _)))))) (fun _ _ _ _ _ => pd_int)) (pd_lst pda_nil) (nomark _)) pd_str pd_str))))))), ?_⟩
  intro τ ds k hl h
  unfold sp__law_r_can at h
  obtain ⟨c, i, o, m, s, cs, rfl, hh⟩ := h
  obtain ⟨hc, hl, ok, hk⟩ := hh
  have on := ok.n
  have ix0 : ∀ (τ : TD) (k : DK), ρIx τ (shD s) (.int 0) k = k τ (.int s.n) := fun τ k => by simp only [shD, dVar, dC, dOp, dUn, dTest_eq, dAnd, dOr, dNot, dAndV_eq, dOrV_eq, dNotV_eq, dIf, dChain_eq, dNil, dCons, dTup, dLst, dLstM, dCB, dBM, dNoPart, dPart_eq, dSl, dCall, dCallK, dNext, dBrk, dCnt, dSeq, dDrop, dRet, dRetN, dIfS, γName, γNil, γCons, γSub, dAsg, dPar, dPar3, dAug, ιSeq_eq, ιZip, ιRng1_eq, ιRng2_eq, dFor, dLc, dLcM, dYes, dT, dTold, onBl_eq, onInt_eq, onSeq_lst, onSeq_tup, onSeq_str, onSome_eq, lstAt_same, dRaise, startD, List.map_cons, List.map_nil, List.length_cons, List.length_nil, List.replicate_succ, List.replicate_zero, List.cons_append, List.nil_append, List.append_nil, List.getElem?_cons_zero, List.getElem?_cons_succ, List.set_cons_zero, List.set_cons_succ, Nat.reduceAdd, Nat.reduceSub, Nat.zero_add, Nat.sub_self, ρEq_int, ρEq_str, ρEq_bl, ρNe_int, ρNe_str, ρNe_bl, ρEq_t3, ρNe_t3, ρEq_t2, ρNe_t2, intsOf_mapf, strsOf_mapf, blsOf_mapf, gK_01_0, gK_02_01, gK_02_10, gK_03_012, gK_03_021, gK_03_102, gK_03_120, gK_03_201, gK_03_210, gK_11_0, gK_12_01, gK_12_10, gK_13_012, gK_13_021, gK_13_102, gK_13_120, gK_13_201, gK_13_210, dLstRg, ρLstOM_eq, seqAt_lst, seqAt_tup, seqAt_ref, ρMulT_int, ρMulT_str, ρMulT_tup, ρInU_one, ρPopAt_ref, eq_self, Bool.not_true, Bool.not_false, decide_true, decide_false, strsOf_c0, strsOf_c1, strsOf_c2, strsOf_c3, strsOf_c4, strsOf_c5, strsOf_c6, strsOf_c7, strsOf_c8, intsOf_c0, intsOf_c1, intsOf_c2, intsOf_c3, intsOf_c4, intsOf_c5, intsOf_c6, intsOf_c7, intsOf_c8, blsOf_c0, blsOf_c1, blsOf_c2, blsOf_c3, blsOf_c4, blsOf_c5, blsOf_c6, blsOf_c7, blsOf_c8, ixN_30, ixN_31, ixN_32, wipeD, if_true, if_false, Bool.false_eq_true, Bool.true_eq_false, true_and, and_true, ρAdd_int, ρAdd_str, ρAdd_tup, ρAdd_lst, ρAdd_rl, ρI_int, ρI0_int, ρMul_int, ρMul_str, ρNeg_int, ρCmp_int, ρCmp_str, ρIsN_eq, ρNotN_eq, isNonD_bl, isNonD_int, isNonD_str, isNonD_tup, isNonD_lst, isNonD_ref, isNonD_non, ρSgn_one, ρAbs_int, ρMax_two, ρMin_two, ρMax_lst, ρMin_lst, ρInt_int, ρInt_bl, ρStr_int, ρLen_str, ρLen_tup, ρLen_lst, ρLen_ref, ρSum_lst, ρAll_lst, ρAny_lst, ρTupO_tup, ρTupO_lst, ρIsi_eq, is_non_int, is_non_bool, is_non_str, is_non_tuple, is_non_list, is_bl_int, is_bl_bool, is_bl_str, is_bl_tuple, is_bl_list, is_int_int, is_int_bool, is_int_str, is_int_tuple, is_int_list, is_str_int, is_str_bool, is_str_str, is_str_tuple, is_str_list, is_tup_int, is_tup_bool, is_tup_str, is_tup_tuple, is_tup_list, is_lst_int, is_lst_bool, is_lst_str, is_lst_tuple, is_lst_list, tyN_non, tyN_bl, tyN_int, tyN_str, tyN_tup, tyN_lst, ρIx_tup, ρIx_lst, ρIx_str, ρIx_ref, ρSl_str, ρSl_lst, ρSl_tup, ρApp_ref, θLst_ref, θStr_str, ςLst_ref, ρJoin_lst, γTup_tup, atI_0, atI_1, atI_2, atI_3, atI_4, atI_5, atI_6, atI_7, ρEqR_eq, ρNeR_eq, resD_non, resD_bl, resD_int, resD_str, resD_tup, resD_lst, eqA_nn, eqA_ii, eqA_bb, eqA_ss, eqA_ni, eqA_in, eqA_nb, eqA_bn, eqA_ns, eqA_sn, eqA_is, eqA_si, eqA_tt, eqA_ll, eqA_tl, eqA_lt, eqA_tn, eqA_nt, eqA_ti', eqA_it, eqA_ts, eqA_st, shB_non, shB_bl, shB_int, shB_str, shB_t63, shB_t62, shB_t61, shB_t60, shB_t59, shB_l63, shB_l62, shB_l61, shB_l60, shBs_nil, shBs_cons, shBs_append, shBs_ints, eqDs_nil, eqDs_cons, eqDs_cn, eqDs_nc, eqDs_ints, eqDs_strs, eqD_ii, eqD_bb, eqD_ss, eqD_tt, eqD_ll, eqD_nn, ρLstO_seq, ρTupO_ref, Option.isSome_some, dNewK, dNewT, dGetK, dGetT, dInK, dInT, dPutK, dPutT, dAugK, dAugT, dGet2K, dGet2T, dPop1K, onRef_eq, dkAt_same, dtAt_same, dkW_same, dtW_same, keyOf_int, keyOf_str, keysOf_ii, keysOf_iii, ιEnum_eq, onSq_tup, onSq_lst, ρLtV_int, ρLtV_str, ρLtV_tup, ρPop_ref, ρIdx_lst, dFld, dSFld, dSFldAug, dMeth, dMake, dMethK, dMakeK, dEqI, insAt_same, lkF_cons, lkF_nil, putFD_cons, putFD_nil, ρIsC_non, ρIsC_ref, ρLenD_eq, dSortIt, ρSortD_eq, ρMinD_eq, ρMaxD_eq, dMet, dTm, mem_h, mem_h2, onBool_eq, insOrNon, ρCopy_ref, ιItems, ιVals, ιKeys, lkW_same, dLockE, dLockS, ρCopyT_ref, ρInX_eq, itsD_tup, itsD_lst, itsD_ref, dStar, ρSortKI_ref, ρRemX_ref, dForM, dLcR, Cs_shape, Cs__calls, ne___eq_____calls, ne___eq____shape, ne___init_____calls, ne___init____shape, ne__calls____eq__, ne__calls____init__, ne__calls__call, ne__calls__calls, ne__calls__demand_ends, ne__calls__end, ne__calls__free_outlets, ne__calls__has_outlet, ne__calls__is_behind_free, ne__calls__is_blocked, ne__calls__is_front_free, ne__calls__look_at_ends, ne__calls__middles, ne__calls__shape, ne__calls__twin, ne__calls__ways, ne_call___calls, ne_call__shape, ne_calls___calls, ne_calls__shape, ne_demand_ends___calls, ne_demand_ends__shape, ne_end___calls, ne_end__shape, ne_free_outlets___calls, ne_free_outlets__shape, ne_has_outlet___calls, ne_has_outlet__shape, ne_is_behind_free___calls, ne_is_behind_free__shape, ne_is_blocked___calls, ne_is_blocked__shape, ne_is_front_free___calls, ne_is_front_free__shape, ne_look_at_ends___calls, ne_look_at_ends__shape, ne_middles___calls, ne_middles__shape, ne_shape____eq__, ne_shape____init__, ne_shape___calls, ne_shape__call, ne_shape__calls, ne_shape__demand_ends, ne_shape__end, ne_shape__free_outlets, ne_shape__has_outlet, ne_shape__is_behind_free, ne_shape__is_blocked, ne_shape__is_front_free, ne_shape__look_at_ends, ne_shape__middles, ne_shape__twin, ne_shape__ways, ne_twin___calls, ne_twin__shape, ne_ways___calls, ne_ways__shape, sp_is_in_eq, sp_is_tuple_eq, sp_demand_eq, sp__law_dice_eq, sp__law_roll_eq, sp__law_pick_eq]
  unfold canS canW at hk
  refine dSeq_step fun Z hZ => ?_
  try simp! only [true_and, ix0]
  refine hZ _ _ ?_
  clear hZ Z
  have ii0 : ∀ (x : C3) (τ : TD) (k : DK), ρIx τ (c3D x) (.int 0) k = k τ (.int x.1) := fun x τ k => by simp only [c3D, dVar, dC, dOp, dUn, dTest_eq, dAnd, dOr, dNot, dAndV_eq, dOrV_eq, dNotV_eq, dIf, dChain_eq, dNil, dCons, dTup, dLst, dLstM, dCB, dBM, dNoPart, dPart_eq, dSl, dCall, dCallK, dNext, dBrk, dCnt, dSeq, dDrop, dRet, dRetN, dIfS, γName, γNil, γCons, γSub, dAsg, dPar, dPar3, dAug, ιSeq_eq, ιZip, ιRng1_eq, ιRng2_eq, dFor, dLc, dLcM, dYes, dT, dTold, onBl_eq, onInt_eq, onSeq_lst, onSeq_tup, onSeq_str, onSome_eq, lstAt_same, dRaise, startD, List.map_cons, List.map_nil, List.length_cons, List.length_nil, List.replicate_succ, List.replicate_zero, List.cons_append, List.nil_append, List.append_nil, List.getElem?_cons_zero, List.getElem?_cons_succ, List.set_cons_zero, List.set_cons_succ, Nat.reduceAdd, Nat.reduceSub, Nat.zero_add, Nat.sub_self, ρEq_int, ρEq_str, ρEq_bl, ρNe_int, ρNe_str, ρNe_bl, ρEq_t3, ρNe_t3, ρEq_t2, ρNe_t2, intsOf_mapf, strsOf_mapf, blsOf_mapf, gK_01_0, gK_02_01, gK_02_10, gK_03_012, gK_03_021, gK_03_102, gK_03_120, gK_03_201, gK_03_210, gK_11_0, gK_12_01, gK_12_10, gK_13_012, gK_13_021, gK_13_102, gK_13_120, gK_13_201, gK_13_210, dLstRg, ρLstOM_eq, seqAt_lst, seqAt_tup, seqAt_ref, ρMulT_int, ρMulT_str, ρMulT_tup, ρInU_one, ρPopAt_ref, eq_self, Bool.not_true, Bool.not_false, decide_true, decide_false, strsOf_c0, strsOf_c1, strsOf_c2, strsOf_c3, strsOf_c4, strsOf_c5, strsOf_c6, strsOf_c7, strsOf_c8, intsOf_c0, intsOf_c1, intsOf_c2, intsOf_c3, intsOf_c4, intsOf_c5, intsOf_c6, intsOf_c7, intsOf_c8, blsOf_c0, blsOf_c1, blsOf_c2, blsOf_c3, blsOf_c4, blsOf_c5, blsOf_c6, blsOf_c7, blsOf_c8, ixN_30, ixN_31, ixN_32, wipeD, if_true, if_false, Bool.false_eq_true, Bool.true_eq_false, true_and, and_true, ρAdd_int, ρAdd_str, ρAdd_tup, ρAdd_lst, ρAdd_rl, ρI_int, ρI0_int, ρMul_int, ρMul_str, ρNeg_int, ρCmp_int, ρCmp_str, ρIsN_eq, ρNotN_eq, isNonD_bl, isNonD_int, isNonD_str, isNonD_tup, isNonD_lst, isNonD_ref, isNonD_non, ρSgn_one, ρAbs_int, ρMax_two, ρMin_two, ρMax_lst, ρMin_lst, ρInt_int, ρInt_bl, ρStr_int, ρLen_str, ρLen_tup, ρLen_lst, ρLen_ref, ρSum_lst, ρAll_lst, ρAny_lst, ρTupO_tup, ρTupO_lst, ρIsi_eq, is_non_int, is_non_bool, is_non_str, is_non_tuple, is_non_list, is_bl_int, is_bl_bool, is_bl_str, is_bl_tuple, is_bl_list, is_int_int, is_int_bool, is_int_str, is_int_tuple, is_int_list, is_str_int, is_str_bool, is_str_str, is_str_tuple, is_str_list, is_tup_int, is_tup_bool, is_tup_str, is_tup_tuple, is_tup_list, is_lst_int, is_lst_bool, is_lst_str, is_lst_tuple, is_lst_list, tyN_non, tyN_bl, tyN_int, tyN_str, tyN_tup, tyN_lst, ρIx_tup, ρIx_lst, ρIx_str, ρIx_ref, ρSl_str, ρSl_lst, ρSl_tup, ρApp_ref, θLst_ref, θStr_str, ςLst_ref, ρJoin_lst, γTup_tup, atI_0, atI_1, atI_2, atI_3, atI_4, atI_5, atI_6, atI_7, ρEqR_eq, ρNeR_eq, resD_non, resD_bl, resD_int, resD_str, resD_tup, resD_lst, eqA_nn, eqA_ii, eqA_bb, eqA_ss, eqA_ni, eqA_in, eqA_nb, eqA_bn, eqA_ns, eqA_sn, eqA_is, eqA_si, eqA_tt, eqA_ll, eqA_tl, eqA_lt, eqA_tn, eqA_nt, eqA_ti', eqA_it, eqA_ts, eqA_st, shB_non, shB_bl, shB_int, shB_str, shB_t63, shB_t62, shB_t61, shB_t60, shB_t59, shB_l63, shB_l62, shB_l61, shB_l60, shBs_nil, shBs_cons, shBs_append, shBs_ints, eqDs_nil, eqDs_cons, eqDs_cn, eqDs_nc, eqDs_ints, eqDs_strs, eqD_ii, eqD_bb, eqD_ss, eqD_tt, eqD_ll, eqD_nn, ρLstO_seq, ρTupO_ref, Option.isSome_some, dNewK, dNewT, dGetK, dGetT, dInK, dInT, dPutK, dPutT, dAugK, dAugT, dGet2K, dGet2T, dPop1K, onRef_eq, dkAt_same, dtAt_same, dkW_same, dtW_same, keyOf_int, keyOf_str, keysOf_ii, keysOf_iii, ιEnum_eq, onSq_tup, onSq_lst, ρLtV_int, ρLtV_str, ρLtV_tup, ρPop_ref, ρIdx_lst, dFld, dSFld, dSFldAug, dMeth, dMake, dMethK, dMakeK, dEqI, insAt_same, lkF_cons, lkF_nil, putFD_cons, putFD_nil, ρIsC_non, ρIsC_ref, ρLenD_eq, dSortIt, ρSortD_eq, ρMinD_eq, ρMaxD_eq, dMet, dTm, mem_h, mem_h2, onBool_eq, insOrNon, ρCopy_ref, ιItems, ιVals, ιKeys, lkW_same, dLockE, dLockS, ρCopyT_ref, ρInX_eq, itsD_tup, itsD_lst, itsD_ref, dStar, ρSortKI_ref, ρRemX_ref, dForM, dLcR, Cs_shape, Cs__calls, ne___eq_____calls, ne___eq____shape, ne___init_____calls, ne___init____shape, ne__calls____eq__, ne__calls____init__, ne__calls__call, ne__calls__calls, ne__calls__demand_ends, ne__calls__end, ne__calls__free_outlets, ne__calls__has_outlet, ne__calls__is_behind_free, ne__calls__is_blocked, ne__calls__is_front_free, ne__calls__look_at_ends, ne__calls__middles, ne__calls__shape, ne__calls__twin, ne__calls__ways, ne_call___calls, ne_call__shape, ne_calls___calls, ne_calls__shape, ne_demand_ends___calls, ne_demand_ends__shape, ne_end___calls, ne_end__shape, ne_free_outlets___calls, ne_free_outlets__shape, ne_has_outlet___calls, ne_has_outlet__shape, ne_is_behind_free___calls, ne_is_behind_free__shape, ne_is_blocked___calls, ne_is_blocked__shape, ne_is_front_free___calls, ne_is_front_free__shape, ne_look_at_ends___calls, ne_look_at_ends__shape, ne_middles___calls, ne_middles__shape, ne_shape____eq__, ne_shape____init__, ne_shape___calls, ne_shape__call, ne_shape__calls, ne_shape__demand_ends, ne_shape__end, ne_shape__free_outlets, ne_shape__has_outlet, ne_shape__is_behind_free, ne_shape__is_blocked, ne_shape__is_front_free, ne_shape__look_at_ends, ne_shape__middles, ne_shape__twin, ne_shape__ways, ne_twin___calls, ne_twin__shape, ne_ways___calls, ne_ways__shape, sp_is_in_eq, sp_is_tuple_eq, sp_demand_eq, sp__law_dice_eq, sp__law_roll_eq, sp__law_pick_eq]
  have ii1 : ∀ (x : C3) (τ : TD) (k : DK), ρIx τ (c3D x) (.int 1) k = k τ (.int x.2.1) := fun x τ k => by simp only [c3D, dVar, dC, dOp, dUn, dTest_eq, dAnd, dOr, dNot, dAndV_eq, dOrV_eq, dNotV_eq, dIf, dChain_eq, dNil, dCons, dTup, dLst, dLstM, dCB, dBM, dNoPart, dPart_eq, dSl, dCall, dCallK, dNext, dBrk, dCnt, dSeq, dDrop, dRet, dRetN, dIfS, γName, γNil, γCons, γSub, dAsg, dPar, dPar3, dAug, ιSeq_eq, ιZip, ιRng1_eq, ιRng2_eq, dFor, dLc, dLcM, dYes, dT, dTold, onBl_eq, onInt_eq, onSeq_lst, onSeq_tup, onSeq_str, onSome_eq, lstAt_same, dRaise, startD, List.map_cons, List.map_nil, List.length_cons, List.length_nil, List.replicate_succ, List.replicate_zero, List.cons_append, List.nil_append, List.append_nil, List.getElem?_cons_zero, List.getElem?_cons_succ, List.set_cons_zero, List.set_cons_succ, Nat.reduceAdd, Nat.reduceSub, Nat.zero_add, Nat.sub_self, ρEq_int, ρEq_str, ρEq_bl, ρNe_int, ρNe_str, ρNe_bl, ρEq_t3, ρNe_t3, ρEq_t2, ρNe_t2, intsOf_mapf, strsOf_mapf, blsOf_mapf, gK_01_0, gK_02_01, gK_02_10, gK_03_012, gK_03_021, gK_03_102, gK_03_120, gK_03_201, gK_03_210, gK_11_0, gK_12_01, gK_12_10, gK_13_012, gK_13_021, gK_13_102, gK_13_120, gK_13_201, gK_13_210, dLstRg, ρLstOM_eq, seqAt_lst, seqAt_tup, seqAt_ref, ρMulT_int, ρMulT_str, ρMulT_tup, ρInU_one, ρPopAt_ref, eq_self, Bool.not_true, Bool.not_false, decide_true, decide_false, strsOf_c0, strsOf_c1, strsOf_c2, strsOf_c3, strsOf_c4, strsOf_c5, strsOf_c6, strsOf_c7, strsOf_c8, intsOf_c0, intsOf_c1, intsOf_c2, intsOf_c3, intsOf_c4, intsOf_c5, intsOf_c6, intsOf_c7, intsOf_c8, blsOf_c0, blsOf_c1, blsOf_c2, blsOf_c3, blsOf_c4, blsOf_c5, blsOf_c6, blsOf_c7, blsOf_c8, ixN_30, ixN_31, ixN_32, wipeD, if_true, if_false, Bool.false_eq_true, Bool.true_eq_false, true_and, and_true, ρAdd_int, ρAdd_str, ρAdd_tup, ρAdd_lst, ρAdd_rl, ρI_int, ρI0_int, ρMul_int, ρMul_str, ρNeg_int, ρCmp_int, ρCmp_str, ρIsN_eq, ρNotN_eq, isNonD_bl, isNonD_int, isNonD_str, isNonD_tup, isNonD_lst, isNonD_ref, isNonD_non, ρSgn_one, ρAbs_int, ρMax_two, ρMin_two, ρMax_lst, ρMin_lst, ρInt_int, ρInt_bl, ρStr_int, ρLen_str, ρLen_tup, ρLen_lst, ρLen_ref, ρSum_lst, ρAll_lst, ρAny_lst, ρTupO_tup, ρTupO_lst, ρIsi_eq, is_non_int, is_non_bool, is_non_str, is_non_tuple, is_non_list, is_bl_int, is_bl_bool, is_bl_str, is_bl_tuple, is_bl_list, is_int_int, is_int_bool, is_int_str, is_int_tuple, is_int_list, is_str_int, is_str_bool, is_str_str, is_str_tuple, is_str_list, is_tup_int, is_tup_bool, is_tup_str, is_tup_tuple, is_tup_list, is_lst_int, is_lst_bool, is_lst_str, is_lst_tuple, is_lst_list, tyN_non, tyN_bl, tyN_int, tyN_str, tyN_tup, tyN_lst, ρIx_tup, ρIx_lst, ρIx_str, ρIx_ref, ρSl_str, ρSl_lst, ρSl_tup, ρApp_ref, θLst_ref, θStr_str, ςLst_ref, ρJoin_lst, γTup_tup, atI_0, atI_1, atI_2, atI_3, atI_4, atI_5, atI_6, atI_7, ρEqR_eq, ρNeR_eq, resD_non, resD_bl, resD_int, resD_str, resD_tup, resD_lst, eqA_nn, eqA_ii, eqA_bb, eqA_ss, eqA_ni, eqA_in, eqA_nb, eqA_bn, eqA_ns, eqA_sn, eqA_is, eqA_si, eqA_tt, eqA_ll, eqA_tl, eqA_lt, eqA_tn, eqA_nt, eqA_ti', eqA_it, eqA_ts, eqA_st, shB_non, shB_bl, shB_int, shB_str, shB_t63, shB_t62, shB_t61, shB_t60, shB_t59, shB_l63, shB_l62, shB_l61, shB_l60, shBs_nil, shBs_cons, shBs_append, shBs_ints, eqDs_nil, eqDs_cons, eqDs_cn, eqDs_nc, eqDs_ints, eqDs_strs, eqD_ii, eqD_bb, eqD_ss, eqD_tt, eqD_ll, eqD_nn, ρLstO_seq, ρTupO_ref, Option.isSome_some, dNewK, dNewT, dGetK, dGetT, dInK, dInT, dPutK, dPutT, dAugK, dAugT, dGet2K, dGet2T, dPop1K, onRef_eq, dkAt_same, dtAt_same, dkW_same, dtW_same, keyOf_int, keyOf_str, keysOf_ii, keysOf_iii, ιEnum_eq, onSq_tup, onSq_lst, ρLtV_int, ρLtV_str, ρLtV_tup, ρPop_ref, ρIdx_lst, dFld, dSFld, dSFldAug, dMeth, dMake, dMethK, dMakeK, dEqI, insAt_same, lkF_cons, lkF_nil, putFD_cons, putFD_nil, ρIsC_non, ρIsC_ref, ρLenD_eq, dSortIt, ρSortD_eq, ρMinD_eq, ρMaxD_eq, dMet, dTm, mem_h, mem_h2, onBool_eq, insOrNon, ρCopy_ref, ιItems, ιVals, ιKeys, lkW_same, dLockE, dLockS, ρCopyT_ref, ρInX_eq, itsD_tup, itsD_lst, itsD_ref, dStar, ρSortKI_ref, ρRemX_ref, dForM, dLcR, Cs_shape, Cs__calls, ne___eq_____calls, ne___eq____shape, ne___init_____calls, ne___init____shape, ne__calls____eq__, ne__calls____init__, ne__calls__call, ne__calls__calls, ne__calls__demand_ends, ne__calls__end, ne__calls__free_outlets, ne__calls__has_outlet, ne__calls__is_behind_free, ne__calls__is_blocked, ne__calls__is_front_free, ne__calls__look_at_ends, ne__calls__middles, ne__calls__shape, ne__calls__twin, ne__calls__ways, ne_call___calls, ne_call__shape, ne_calls___calls, ne_calls__shape, ne_demand_ends___calls, ne_demand_ends__shape, ne_end___calls, ne_end__shape, ne_free_outlets___calls, ne_free_outlets__shape, ne_has_outlet___calls, ne_has_outlet__shape, ne_is_behind_free___calls, ne_is_behind_free__shape, ne_is_blocked___calls, ne_is_blocked__shape, ne_is_front_free___calls, ne_is_front_free__shape, ne_look_at_ends___calls, ne_look_at_ends__shape, ne_middles___calls, ne_middles__shape, ne_shape____eq__, ne_shape____init__, ne_shape___calls, ne_shape__call, ne_shape__calls, ne_shape__demand_ends, ne_shape__end, ne_shape__free_outlets, ne_shape__has_outlet, ne_shape__is_behind_free, ne_shape__is_blocked, ne_shape__is_front_free, ne_shape__look_at_ends, ne_shape__middles, ne_shape__twin, ne_shape__ways, ne_twin___calls, ne_twin__shape, ne_ways___calls, ne_ways__shape, sp_is_in_eq, sp_is_tuple_eq, sp_demand_eq, sp__law_dice_eq, sp__law_roll_eq, sp__law_pick_eq]
  have ii2 : ∀ (x : C3) (τ : TD) (k : DK), ρIx τ (c3D x) (.int 2) k = k τ (.int x.2.2) := fun x τ k => by simp only [c3D, dVar, dC, dOp, dUn, dTest_eq, dAnd, dOr, dNot, dAndV_eq, dOrV_eq, dNotV_eq, dIf, dChain_eq, dNil, dCons, dTup, dLst, dLstM, dCB, dBM, dNoPart, dPart_eq, dSl, dCall, dCallK, dNext, dBrk, dCnt, dSeq, dDrop, dRet, dRetN, dIfS, γName, γNil, γCons, γSub, dAsg, dPar, dPar3, dAug, ιSeq_eq, ιZip, ιRng1_eq, ιRng2_eq, dFor, dLc, dLcM, dYes, dT, dTold, onBl_eq, onInt_eq, onSeq_lst, onSeq_tup, onSeq_str, onSome_eq, lstAt_same, dRaise, startD, List.map_cons, List.map_nil, List.length_cons, List.length_nil, List.replicate_succ, List.replicate_zero, List.cons_append, List.nil_append, List.append_nil, List.getElem?_cons_zero, List.getElem?_cons_succ, List.set_cons_zero, List.set_cons_succ, Nat.reduceAdd, Nat.reduceSub, Nat.zero_add, Nat.sub_self, ρEq_int, ρEq_str, ρEq_bl, ρNe_int, ρNe_str, ρNe_bl, ρEq_t3, ρNe_t3, ρEq_t2, ρNe_t2, intsOf_mapf, strsOf_mapf, blsOf_mapf, gK_01_0, gK_02_01, gK_02_10, gK_03_012, gK_03_021, gK_03_102, gK_03_120, gK_03_201, gK_03_210, gK_11_0, gK_12_01, gK_12_10, gK_13_012, gK_13_021, gK_13_102, gK_13_120, gK_13_201, gK_13_210, dLstRg, ρLstOM_eq, seqAt_lst, seqAt_tup, seqAt_ref, ρMulT_int, ρMulT_str, ρMulT_tup, ρInU_one, ρPopAt_ref, eq_self, Bool.not_true, Bool.not_false, decide_true, decide_false, strsOf_c0, strsOf_c1, strsOf_c2, strsOf_c3, strsOf_c4, strsOf_c5, strsOf_c6, strsOf_c7, strsOf_c8, intsOf_c0, intsOf_c1, intsOf_c2, intsOf_c3, intsOf_c4, intsOf_c5, intsOf_c6, intsOf_c7, intsOf_c8, blsOf_c0, blsOf_c1, blsOf_c2, blsOf_c3, blsOf_c4, blsOf_c5, blsOf_c6, blsOf_c7, blsOf_c8, ixN_30, ixN_31, ixN_32, wipeD, if_true, if_false, Bool.false_eq_true, Bool.true_eq_false, true_and, and_true, ρAdd_int, ρAdd_str, ρAdd_tup, ρAdd_lst, ρAdd_rl, ρI_int, ρI0_int, ρMul_int, ρMul_str, ρNeg_int, ρCmp_int, ρCmp_str, ρIsN_eq, ρNotN_eq, isNonD_bl, isNonD_int, isNonD_str, isNonD_tup, isNonD_lst, isNonD_ref, isNonD_non, ρSgn_one, ρAbs_int, ρMax_two, ρMin_two, ρMax_lst, ρMin_lst, ρInt_int, ρInt_bl, ρStr_int, ρLen_str, ρLen_tup, ρLen_lst, ρLen_ref, ρSum_lst, ρAll_lst, ρAny_lst, ρTupO_tup, ρTupO_lst, ρIsi_eq, is_non_int, is_non_bool, is_non_str, is_non_tuple, is_non_list, is_bl_int, is_bl_bool, is_bl_str, is_bl_tuple, is_bl_list, is_int_int, is_int_bool, is_int_str, is_int_tuple, is_int_list, is_str_int, is_str_bool, is_str_str, is_str_tuple, is_str_list, is_tup_int, is_tup_bool, is_tup_str, is_tup_tuple, is_tup_list, is_lst_int, is_lst_bool, is_lst_str, is_lst_tuple, is_lst_list, tyN_non, tyN_bl, tyN_int, tyN_str, tyN_tup, tyN_lst, ρIx_tup, ρIx_lst, ρIx_str, ρIx_ref, ρSl_str, ρSl_lst, ρSl_tup, ρApp_ref, θLst_ref, θStr_str, ςLst_ref, ρJoin_lst, γTup_tup, atI_0, atI_1, atI_2, atI_3, atI_4, atI_5, atI_6, atI_7, ρEqR_eq, ρNeR_eq, resD_non, resD_bl, resD_int, resD_str, resD_tup, resD_lst, eqA_nn, eqA_ii, eqA_bb, eqA_ss, eqA_ni, eqA_in, eqA_nb, eqA_bn, eqA_ns, eqA_sn, eqA_is, eqA_si, eqA_tt, eqA_ll, eqA_tl, eqA_lt, eqA_tn, eqA_nt, eqA_ti', eqA_it, eqA_ts, eqA_st, shB_non, shB_bl, shB_int, shB_str, shB_t63, shB_t62, shB_t61, shB_t60, shB_t59, shB_l63, shB_l62, shB_l61, shB_l60, shBs_nil, shBs_cons, shBs_append, shBs_ints, eqDs_nil, eqDs_cons, eqDs_cn, eqDs_nc, eqDs_ints, eqDs_strs, eqD_ii, eqD_bb, eqD_ss, eqD_tt, eqD_ll, eqD_nn, ρLstO_seq, ρTupO_ref, Option.isSome_some, dNewK, dNewT, dGetK, dGetT, dInK, dInT, dPutK, dPutT, dAugK, dAugT, dGet2K, dGet2T, dPop1K, onRef_eq, dkAt_same, dtAt_same, dkW_same, dtW_same, keyOf_int, keyOf_str, keysOf_ii, keysOf_iii, ιEnum_eq, onSq_tup, onSq_lst, ρLtV_int, ρLtV_str, ρLtV_tup, ρPop_ref, ρIdx_lst, dFld, dSFld, dSFldAug, dMeth, dMake, dMethK, dMakeK, dEqI, insAt_same, lkF_cons, lkF_nil, putFD_cons, putFD_nil, ρIsC_non, ρIsC_ref, ρLenD_eq, dSortIt, ρSortD_eq, ρMinD_eq, ρMaxD_eq, dMet, dTm, mem_h, mem_h2, onBool_eq, insOrNon, ρCopy_ref, ιItems, ιVals, ιKeys, lkW_same, dLockE, dLockS, ρCopyT_ref, ρInX_eq, itsD_tup, itsD_lst, itsD_ref, dStar, ρSortKI_ref, ρRemX_ref, dForM, dLcR, Cs_shape, Cs__calls, ne___eq_____calls, ne___eq____shape, ne___init_____calls, ne___init____shape, ne__calls____eq__, ne__calls____init__, ne__calls__call, ne__calls__calls, ne__calls__demand_ends, ne__calls__end, ne__calls__free_outlets, ne__calls__has_outlet, ne__calls__is_behind_free, ne__calls__is_blocked, ne__calls__is_front_free, ne__calls__look_at_ends, ne__calls__middles, ne__calls__shape, ne__calls__twin, ne__calls__ways, ne_call___calls, ne_call__shape, ne_calls___calls, ne_calls__shape, ne_demand_ends___calls, ne_demand_ends__shape, ne_end___calls, ne_end__shape, ne_free_outlets___calls, ne_free_outlets__shape, ne_has_outlet___calls, ne_has_outlet__shape, ne_is_behind_free___calls, ne_is_behind_free__shape, ne_is_blocked___calls, ne_is_blocked__shape, ne_is_front_free___calls, ne_is_front_free__shape, ne_look_at_ends___calls, ne_look_at_ends__shape, ne_middles___calls, ne_middles__shape, ne_shape____eq__, ne_shape____init__, ne_shape___calls, ne_shape__call, ne_shape__calls, ne_shape__demand_ends, ne_shape__end, ne_shape__free_outlets, ne_shape__has_outlet, ne_shape__is_behind_free, ne_shape__is_blocked, ne_shape__is_front_free, ne_shape__look_at_ends, ne_shape__middles, ne_shape__twin, ne_shape__ways, ne_twin___calls, ne_twin__shape, ne_ways___calls, ne_ways__shape, sp_is_in_eq, sp_is_tuple_eq, sp_demand_eq, sp__law_dice_eq, sp__law_roll_eq, sp__law_pick_eq]
  refine dSeq_step fun Z hZ => ?_
  try simp! only [true_and, hc]
  intro L hL
  refine lcR_ones (fun x => decide (x.1 = i)) hc hl hL (fun x hx acc k' hk' => ?_) ?_
  · try simp! only [true_and, ii0]
    exact hk'
  try simp! only [true_and, tset_del hL, fm_ones, sh_ones, any_in, Bool.not_not]
  refine ⟨szn, ?_⟩
  by_cases c1 : i ∈ cs.map (·.1)
  · rw [if_pos c1] at hk
    simp only [c1, decide_true, if_true]
    exact Fin.same hk
  rw [if_neg c1] at hk
  simp only [c1, decide_false, Bool.false_eq_true, if_false]
  refine hZ _ _ ?_
  clear hZ Z hL L
  refine dSeq_step fun Z hZ => ?_
  try simp! only [true_and, hc]
  intro L hL
  refine lcR_ones (fun x => decide (x.2.1 = o)) hc hl hL (fun x hx acc k' hk' => ?_) ?_
  · try simp! only [true_and, ii1]
    exact hk'
  try simp! only [true_and, tset_del hL, fm_ones, sh_ones, Bool.not_not]
  refine ⟨szn, ?_⟩
  rw [show (cs.any fun x => decide (x.2.1 = o)) = hasOut cs o from rfl]
  by_cases c2 : hasOut cs o = true
  · rw [if_pos c2] at hk
    simp only [c2, if_true]
    exact Fin.same hk
  rw [if_neg c2] at hk
  simp only [c2, if_false]
  refine hZ _ _ ?_
  clear hZ Z hL L
  refine dSeq_step fun Z hZ => ?_
  try simp! only [true_and, hc]
  intro L hL
  refine lcR_ones (fun x => decide (x.1 / s.n = i / s.n) && decide (x.2.2 = m)) hc hl hL (fun x hx acc k' hk' => ?_) ?_
  · try simp! only [true_and, ii0, ii2]
    refine ⟨div_ok ⟨by omega, by omega⟩, div_ok ⟨by omega, by omega⟩, ?_⟩
    by_cases d1 : x.1 / s.n = i / s.n
    · simp only [d1, decide_true, Bool.true_and, if_true] at hk' ⊢
      exact hk'
    · simp only [d1, decide_false, Bool.false_and, Bool.false_eq_true, if_false] at hk' ⊢
      exact hk'
  try simp! only [true_and, tset_del hL, fm_ones, sh_ones, Bool.not_not]
  refine ⟨szn, ?_⟩
  rw [show (cs.any fun x => decide (x.1 / s.n = i / s.n) && decide (x.2.2 = m)) = frontB s cs i m from rfl]
  by_cases c3 : frontB s cs i m = true
  · rw [if_pos c3] at hk
    simp only [c3, if_true]
    exact Fin.same hk
  rw [if_neg c3] at hk
  simp only [c3, if_false]
  refine hZ _ _ ?_
  clear hZ Z hL L
  try simp! only [true_and, hc]
  intro L hL
  refine lcR_ones (fun x => decide (x.2.1 / s.n = o / s.n) && decide (x.2.2 = m)) hc hl hL (fun x hx acc k' hk' => ?_) ?_
  · try simp! only [true_and, ii1, ii2]
    refine ⟨div_ok ⟨by omega, by omega⟩, div_ok ⟨by omega, by omega⟩, ?_⟩
    by_cases d1 : x.2.1 / s.n = o / s.n
    · simp only [d1, decide_true, Bool.true_and, if_true] at hk' ⊢
      exact hk'
    · simp only [d1, decide_false, Bool.false_and, Bool.false_eq_true, if_false] at hk' ⊢
      exact hk'
  try simp! only [true_and, tset_del hL, fm_ones, sh_ones, Bool.not_not]
  refine ⟨szn, ?_⟩
  rw [show (cs.any fun x => decide (x.2.1 / s.n = o / s.n) && decide (x.2.2 = m)) = behindB s cs o m from rfl]
  by_cases c4 : behindB s cs o m = true
  · rw [if_pos c4] at hk
    simp only [c4, if_true]
    exact Fin.same hk
  rw [if_neg c4] at hk
  simp only [c4, if_false]
  exact Fin.same hk
/-! ### _law_r_blocked -/
theorem sc__law_r_blocked : FnScope ["shape", "calls", "ends", "inlets", "one", "call", "outlets", "inlet", "outlet", "middle"] ["shape", "calls"] (defScope s__law_r_blocked) := ⟨rfl, rfl, rfl, by decide +kernel, rfl, by decide +kernel, by decide +kernel⟩
theorem bn__law_r_blocked (M : Mod K mg) : L2.Binds K M.f__law_r_blocked.choose ["shape", "calls"] [] := fun_binds M.f__law_r_blocked.choose_spec fun _ _ _ _ _ _ us hl => match us, hl with | [_, _], _ => rfl
theorem if_push {T : TD} {k : TD → Option D → Prop} {b : Bool} {d : D} (h : k T (if b = true then some d else none)) : if b = true then k T (some d) else k T none := by cases b <;> exact h
theorem canS_free {s : Shp} {cs : List C3} {i o : Int} (h1 : i ∉ cs.map (·.1)) (h2 : hasOut cs o = false) {m : Nat} : decide (canS s cs i o (m : Int) = "") = okM s cs i o m := by
  unfold canS canW okM
  rw [if_neg h1, h2, if_neg (by decide)]
  cases frontB s cs i (m : Int) <;> cases behindB s cs o (m : Int) <;> rfl
theorem fold_or {α : Type} {p : α → Bool} : ∀ {l : List α} {b : Bool}, l.foldl (fun b c => b || p c) b = (b || l.any p)
  | [], b => by simp
  | a :: l, b => by rw [List.foldl_cons, fold_or, List.any_cons, Bool.or_assoc]
def sp__law_r_blocked : SpD := fun τ ds k KE => ∃ (c : Addr) (s : Shp) (cs : List C3), ds = [shD s, .ref c] ∧ (lstAt τ c = some (cs.map c3D) ∧ cs.length ≤ 1000 ∧ s.Ok ∧ k τ (.bl (blockedB s cs)))
theorem sp__law_r_blocked_of {τ : TD} {k : DK} {KE : XD} {c : Addr} {s : Shp} {cs : List C3} (h_ : lstAt τ c = some (cs.map c3D) ∧ cs.length ≤ 1000 ∧ s.Ok ∧ k τ (.bl (blockedB s cs))) : sp__law_r_blocked τ [shD s, .ref c] k KE := ⟨_, _, _, rfl, h_⟩
theorem ok__law_r_blocked (M : Mod K mg) : FnD prog w K mg base (TT K) 3 (He.fAd K ("_law_r_blocked", none)) M.f__law_r_blocked.choose ["shape", "calls"] sp__law_r_blocked := by
  refine fnD_of M.f__law_r_blocked.choose_spec sc__law_r_blocked fun KE => ⟨_, fun cdv A outer s H E hr => (pdss_cons (pds_set (i := 2) sc__law_r_blocked.nd rfl (by first | exact .inl rfl | exact .inr rfl) (pd_op op_mulT ok_mulT (pd_ix ix_seq ok_ix (pd_var (pv 0)) pd_int) (pd_ix ix_seq ok_ix (pd_var (pv 0)) pd_int))) (pdss_cons (pds_setLc (i := 3) rfl sc__law_r_blocked.nd rfl rfl rfl (pdi_range1 rfl M.b_range (pda_cons (pd_var (pv 2)) pda_nil)) (show BlkOk ["shape", "calls", "ends", "inlets", "one", "call", "outlets", "inlet", "outlet", "middle"] (defScope s__law_r_blocked) _ [("one", 4)] from blk_of (by decide +kernel)) (fun _ _ _ _ _ => pdn_name (i := 4) sc__law_r_blocked.nd rfl (by first | exact .inl rfl | exact .inr rfl) (by decide)) (fun _ _ _ _ _ => pdts_one (pdt_cmp (op_eqU (room_eq hr)) ok_eqR (pd_lcR rfl sc__law_r_blocked.nd (pd_var (pv 1)) (blk_nest (N := ["shape", "calls", "ends", "inlets", "one", "call", "outlets", "inlet", "outlet", "middle"]) (own := [("call", 5)]) rfl (blk_of (by decide +kernel))) (fun _ _ _ _ _ => pdn_name (i := 5) sc__law_r_blocked.nd rfl (by first | exact .inl rfl | exact .inr rfl) (by decide)) (fun _ _ _ _ _ => pdts_one (pdt_cmp (op_eqU (room_eq hr)) ok_eqR (pd_ix ix_seq ok_ix (pd_var (pv 5)) pd_int) (pd_var (pv 4)) (nomark _))) (fun _ _ _ _ _ => pd_int)) (pd_lst pda_nil) (nomark _))) (fun _ _ _ _ _ => (pd_var (pv 4)))) (pdss_cons (pds_setLc (i := 6) rfl sc__law_r_blocked.nd rfl rfl rfl (pdi_range1 rfl M.b_range (pda_cons (pd_var (pv 2)) pda_nil)) (show BlkOk ["shape", "calls", "ends", "inlets", "one", "call", "outlets", "inlet", "outlet", "middle"] (defScope s__law_r_blocked) _ [("one", 4)] from blk_of (by decide +kernel)) (fun _ _ _ _ _ => pdn_name (i := 4) sc__law_r_blocked.nd rfl (by first | exact .inl rfl | exact .inr rfl) (by decide)) (fun _ _ _ _ _ => pdts_one (pdt_cmp (op_eqU (room_eq hr)) ok_eqR (pd_lcR rfl sc__law_r_blocked.nd (pd_var (pv 1)) (blk_nest (N := ["shape", "calls", "ends", "inlets", "one", "call", "outlets", "inlet", "outlet", "middle"]) (own := [("call", 5)]) rfl (blk_of (by decide +kernel))) (fun _ _ _ _ _ => pdn_name (i := 5) sc__law_r_blocked.nd rfl (by first | exact .inl rfl | exact .inr rfl) (by decide)) (fun _ _ _ _ _ => pdts_one (pdt_cmp (op_eqU (room_eq hr)) ok_eqR (pd_ix ix_seq ok_ix (pd_var (pv 5)) pd_int) (pd_var (pv 4)) (nomark _))) (fun _ _ _ _ _ => pd_int)) (pd_lst pda_nil) (nomark _))) (fun _ _ _ _ _ => (pd_var (pv 4)))) (pdss_cons (pds_for ownD rfl (pdi_seq (pd_var (pv 3))) (pdg_name (i := 7) sc__law_r_blocked.nd rfl (by first | exact .inl rfl | exact .inr rfl)) (pdss_one (pds_for ownD rfl (pdi_seq (pd_var (pv 6))) (pdg_name (i := 8) sc__law_r_blocked.nd rfl (by first | exact .inl rfl | exact .inr rfl)) (pdss_one (pds_if (pdt_cmp (op_eqU (room_eq hr)) ok_eqR (pd_lc rfl sc__law_r_blocked.nd (pdi_range1 rfl M.b_range (pda_cons (pd_ix ix_seq ok_ix (pd_var (pv 0)) pd_int) pda_nil)) (show BlkOk ["shape", "calls", "ends", "inlets", "one", "call", "outlets", "inlet", "outlet", "middle"] (defScope s__law_r_blocked) _ [("middle", 9)] from blk_of (by decide +kernel)) (fun _ _ _ _ _ => pdn_name (i := 9) sc__law_r_blocked.nd rfl (by first | exact .inl rfl | exact .inr rfl) (by decide)) (fun _ _ _ _ _ => pdts_one (pdt_cmp (op_eqU (room_eq hr)) ok_eqR (pd_call (ok__law_r_can M) (hr.mono (by decide)) rfl M.g__law_r_can M.f__law_r_can.choose_spec.kp (bn__law_r_can M) .nil .nil passL (pda_cons (pd_var (pv 0)) (pda_cons (pd_var (pv 1)) (pda_cons (pd_var (pv 7)) (pda_cons (pd_var (pv 8)) (pda_cons (pd_var (pv 9)) pda_nil)))))) pd_str (nomark _))) (fun _ _ _ _ _ => (pd_var (pv 9)))) (pd_lst pda_nil) (nomark _)) (pdss_one (pds_ret pd_bl)) pdss_nil))))) (pdss_one (pds_ret pd_bl)))))), ?_⟩
  intro τ ds k hl h
  unfold sp__law_r_blocked at h
  obtain ⟨c, s, cs, rfl, hh⟩ := h
  obtain ⟨hc, hl, ok, hk⟩ := hh
  have oe := ok.e
  have ix0 : ∀ (τ : TD) (k : DK), ρIx τ (shD s) (.int 0) k = k τ (.int s.n) := fun τ k => by simp only [shD, dVar, dC, dOp, dUn, dTest_eq, dAnd, dOr, dNot, dAndV_eq, dOrV_eq, dNotV_eq, dIf, dChain_eq, dNil, dCons, dTup, dLst, dLstM, dCB, dBM, dNoPart, dPart_eq, dSl, dCall, dCallK, dNext, dBrk, dCnt, dSeq, dDrop, dRet, dRetN, dIfS, γName, γNil, γCons, γSub, dAsg, dPar, dPar3, dAug, ιSeq_eq, ιZip, ιRng1_eq, ιRng2_eq, dFor, dLc, dLcM, dYes, dT, dTold, onBl_eq, onInt_eq, onSeq_lst, onSeq_tup, onSeq_str, onSome_eq, lstAt_same, dRaise, startD, List.map_cons, List.map_nil, List.length_cons, List.length_nil, List.replicate_succ, List.replicate_zero, List.cons_append, List.nil_append, List.append_nil, List.getElem?_cons_zero, List.getElem?_cons_succ, List.set_cons_zero, List.set_cons_succ, Nat.reduceAdd, Nat.reduceSub, Nat.zero_add, Nat.sub_self, ρEq_int, ρEq_str, ρEq_bl, ρNe_int, ρNe_str, ρNe_bl, ρEq_t3, ρNe_t3, ρEq_t2, ρNe_t2, intsOf_mapf, strsOf_mapf, blsOf_mapf, gK_01_0, gK_02_01, gK_02_10, gK_03_012, gK_03_021, gK_03_102, gK_03_120, gK_03_201, gK_03_210, gK_11_0, gK_12_01, gK_12_10, gK_13_012, gK_13_021, gK_13_102, gK_13_120, gK_13_201, gK_13_210, dLstRg, ρLstOM_eq, seqAt_lst, seqAt_tup, seqAt_ref, ρMulT_int, ρMulT_str, ρMulT_tup, ρInU_one, ρPopAt_ref, eq_self, Bool.not_true, Bool.not_false, decide_true, decide_false, strsOf_c0, strsOf_c1, strsOf_c2, strsOf_c3, strsOf_c4, strsOf_c5, strsOf_c6, strsOf_c7, strsOf_c8, intsOf_c0, intsOf_c1, intsOf_c2, intsOf_c3, intsOf_c4, intsOf_c5, intsOf_c6, intsOf_c7, intsOf_c8, blsOf_c0, blsOf_c1, blsOf_c2, blsOf_c3, blsOf_c4, blsOf_c5, blsOf_c6, blsOf_c7, blsOf_c8, ixN_30, ixN_31, ixN_32, wipeD, if_true, if_false, Bool.false_eq_true, Bool.true_eq_false, true_and, and_true, ρAdd_int, ρAdd_str, ρAdd_tup, ρAdd_lst, ρAdd_rl, ρI_int, ρI0_int, ρMul_int, ρMul_str, ρNeg_int, ρCmp_int, ρCmp_str, ρIsN_eq, ρNotN_eq, isNonD_bl, isNonD_int, isNonD_str, isNonD_tup, isNonD_lst, isNonD_ref, isNonD_non, ρSgn_one, ρAbs_int, ρMax_two, ρMin_two, ρMax_lst, ρMin_lst, ρInt_int, ρInt_bl, ρStr_int, ρLen_str, ρLen_tup, ρLen_lst, ρLen_ref, ρSum_lst, ρAll_lst, ρAny_lst, ρTupO_tup, ρTupO_lst, ρIsi_eq, is_non_int, is_non_bool, is_non_str, is_non_tuple, is_non_list, is_bl_int, is_bl_bool, is_bl_str, is_bl_tuple, is_bl_list, is_int_int, is_int_bool, is_int_str, is_int_tuple, is_int_list, is_str_int, is_str_bool, is_str_str, is_str_tuple, is_str_list, is_tup_int, is_tup_bool, is_tup_str, is_tup_tuple, is_tup_list, is_lst_int, is_lst_bool, is_lst_str, is_lst_tuple, is_lst_list, tyN_non, tyN_bl, tyN_int, tyN_str, tyN_tup, tyN_lst, ρIx_tup, ρIx_lst, ρIx_str, ρIx_ref, ρSl_str, ρSl_lst, ρSl_tup, ρApp_ref, θLst_ref, θStr_str, ςLst_ref, ρJoin_lst, γTup_tup, atI_0, atI_1, atI_2, atI_3, atI_4, atI_5, atI_6, atI_7, ρEqR_eq, ρNeR_eq, resD_non, resD_bl, resD_int, resD_str, resD_tup, resD_lst, eqA_nn, eqA_ii, eqA_bb, eqA_ss, eqA_ni, eqA_in, eqA_nb, eqA_bn, eqA_ns, eqA_sn, eqA_is, eqA_si, eqA_tt, eqA_ll, eqA_tl, eqA_lt, eqA_tn, eqA_nt, eqA_ti', eqA_it, eqA_ts, eqA_st, shB_non, shB_bl, shB_int, shB_str, shB_t63, shB_t62, shB_t61, shB_t60, shB_t59, shB_l63, shB_l62, shB_l61, shB_l60, shBs_nil, shBs_cons, shBs_append, shBs_ints, eqDs_nil, eqDs_cons, eqDs_cn, eqDs_nc, eqDs_ints, eqDs_strs, eqD_ii, eqD_bb, eqD_ss, eqD_tt, eqD_ll, eqD_nn, ρLstO_seq, ρTupO_ref, Option.isSome_some, dNewK, dNewT, dGetK, dGetT, dInK, dInT, dPutK, dPutT, dAugK, dAugT, dGet2K, dGet2T, dPop1K, onRef_eq, dkAt_same, dtAt_same, dkW_same, dtW_same, keyOf_int, keyOf_str, keysOf_ii, keysOf_iii, ιEnum_eq, onSq_tup, onSq_lst, ρLtV_int, ρLtV_str, ρLtV_tup, ρPop_ref, ρIdx_lst, dFld, dSFld, dSFldAug, dMeth, dMake, dMethK, dMakeK, dEqI, insAt_same, lkF_cons, lkF_nil, putFD_cons, putFD_nil, ρIsC_non, ρIsC_ref, ρLenD_eq, dSortIt, ρSortD_eq, ρMinD_eq, ρMaxD_eq, dMet, dTm, mem_h, mem_h2, onBool_eq, insOrNon, ρCopy_ref, ιItems, ιVals, ιKeys, lkW_same, dLockE, dLockS, ρCopyT_ref, ρInX_eq, itsD_tup, itsD_lst, itsD_ref, dStar, ρSortKI_ref, ρRemX_ref, dForM, dLcR, Cs_shape, Cs__calls, ne___eq_____calls, ne___eq____shape, ne___init_____calls, ne___init____shape, ne__calls____eq__, ne__calls____init__, ne__calls__call, ne__calls__calls, ne__calls__demand_ends, ne__calls__end, ne__calls__free_outlets, ne__calls__has_outlet, ne__calls__is_behind_free, ne__calls__is_blocked, ne__calls__is_front_free, ne__calls__look_at_ends, ne__calls__middles, ne__calls__shape, ne__calls__twin, ne__calls__ways, ne_call___calls, ne_call__shape, ne_calls___calls, ne_calls__shape, ne_demand_ends___calls, ne_demand_ends__shape, ne_end___calls, ne_end__shape, ne_free_outlets___calls, ne_free_outlets__shape, ne_has_outlet___calls, ne_has_outlet__shape, ne_is_behind_free___calls, ne_is_behind_free__shape, ne_is_blocked___calls, ne_is_blocked__shape, ne_is_front_free___calls, ne_is_front_free__shape, ne_look_at_ends___calls, ne_look_at_ends__shape, ne_middles___calls, ne_middles__shape, ne_shape____eq__, ne_shape____init__, ne_shape___calls, ne_shape__call, ne_shape__calls, ne_shape__demand_ends, ne_shape__end, ne_shape__free_outlets, ne_shape__has_outlet, ne_shape__is_behind_free, ne_shape__is_blocked, ne_shape__is_front_free, ne_shape__look_at_ends, ne_shape__middles, ne_shape__twin, ne_shape__ways, ne_twin___calls, ne_twin__shape, ne_ways___calls, ne_ways__shape, sp_is_in_eq, sp_is_tuple_eq, sp_demand_eq, sp__law_dice_eq, sp__law_roll_eq, sp__law_pick_eq]
  have ix1 : ∀ (τ : TD) (k : DK), ρIx τ (shD s) (.int 1) k = k τ (.int s.m) := fun τ k => by simp only [shD, dVar, dC, dOp, dUn, dTest_eq, dAnd, dOr, dNot, dAndV_eq, dOrV_eq, dNotV_eq, dIf, dChain_eq, dNil, dCons, dTup, dLst, dLstM, dCB, dBM, dNoPart, dPart_eq, dSl, dCall, dCallK, dNext, dBrk, dCnt, dSeq, dDrop, dRet, dRetN, dIfS, γName, γNil, γCons, γSub, dAsg, dPar, dPar3, dAug, ιSeq_eq, ιZip, ιRng1_eq, ιRng2_eq, dFor, dLc, dLcM, dYes, dT, dTold, onBl_eq, onInt_eq, onSeq_lst, onSeq_tup, onSeq_str, onSome_eq, lstAt_same, dRaise, startD, List.map_cons, List.map_nil, List.length_cons, List.length_nil, List.replicate_succ, List.replicate_zero, List.cons_append, List.nil_append, List.append_nil, List.getElem?_cons_zero, List.getElem?_cons_succ, List.set_cons_zero, List.set_cons_succ, Nat.reduceAdd, Nat.reduceSub, Nat.zero_add, Nat.sub_self, ρEq_int, ρEq_str, ρEq_bl, ρNe_int, ρNe_str, ρNe_bl, ρEq_t3, ρNe_t3, ρEq_t2, ρNe_t2, intsOf_mapf, strsOf_mapf, blsOf_mapf, gK_01_0, gK_02_01, gK_02_10, gK_03_012, gK_03_021, gK_03_102, gK_03_120, gK_03_201, gK_03_210, gK_11_0, gK_12_01, gK_12_10, gK_13_012, gK_13_021, gK_13_102, gK_13_120, gK_13_201, gK_13_210, dLstRg, ρLstOM_eq, seqAt_lst, seqAt_tup, seqAt_ref, ρMulT_int, ρMulT_str, ρMulT_tup, ρInU_one, ρPopAt_ref, eq_self, Bool.not_true, Bool.not_false, decide_true, decide_false, strsOf_c0, strsOf_c1, strsOf_c2, strsOf_c3, strsOf_c4, strsOf_c5, strsOf_c6, strsOf_c7, strsOf_c8, intsOf_c0, intsOf_c1, intsOf_c2, intsOf_c3, intsOf_c4, intsOf_c5, intsOf_c6, intsOf_c7, intsOf_c8, blsOf_c0, blsOf_c1, blsOf_c2, blsOf_c3, blsOf_c4, blsOf_c5, blsOf_c6, blsOf_c7, blsOf_c8, ixN_30, ixN_31, ixN_32, wipeD, if_true, if_false, Bool.false_eq_true, Bool.true_eq_false, true_and, and_true, ρAdd_int, ρAdd_str, ρAdd_tup, ρAdd_lst, ρAdd_rl, ρI_int, ρI0_int, ρMul_int, ρMul_str, ρNeg_int, ρCmp_int, ρCmp_str, ρIsN_eq, ρNotN_eq, isNonD_bl, isNonD_int, isNonD_str, isNonD_tup, isNonD_lst, isNonD_ref, isNonD_non, ρSgn_one, ρAbs_int, ρMax_two, ρMin_two, ρMax_lst, ρMin_lst, ρInt_int, ρInt_bl, ρStr_int, ρLen_str, ρLen_tup, ρLen_lst, ρLen_ref, ρSum_lst, ρAll_lst, ρAny_lst, ρTupO_tup, ρTupO_lst, ρIsi_eq, is_non_int, is_non_bool, is_non_str, is_non_tuple, is_non_list, is_bl_int, is_bl_bool, is_bl_str, is_bl_tuple, is_bl_list, is_int_int, is_int_bool, is_int_str, is_int_tuple, is_int_list, is_str_int, is_str_bool, is_str_str, is_str_tuple, is_str_list, is_tup_int, is_tup_bool, is_tup_str, is_tup_tuple, is_tup_list, is_lst_int, is_lst_bool, is_lst_str, is_lst_tuple, is_lst_list, tyN_non, tyN_bl, tyN_int, tyN_str, tyN_tup, tyN_lst, ρIx_tup, ρIx_lst, ρIx_str, ρIx_ref, ρSl_str, ρSl_lst, ρSl_tup, ρApp_ref, θLst_ref, θStr_str, ςLst_ref, ρJoin_lst, γTup_tup, atI_0, atI_1, atI_2, atI_3, atI_4, atI_5, atI_6, atI_7, ρEqR_eq, ρNeR_eq, resD_non, resD_bl, resD_int, resD_str, resD_tup, resD_lst, eqA_nn, eqA_ii, eqA_bb, eqA_ss, eqA_ni, eqA_in, eqA_nb, eqA_bn, eqA_ns, eqA_sn, eqA_is, eqA_si, eqA_tt, eqA_ll, eqA_tl, eqA_lt, eqA_tn, eqA_nt, eqA_ti', eqA_it, eqA_ts, eqA_st, shB_non, shB_bl, shB_int, shB_str, shB_t63, shB_t62, shB_t61, shB_t60, shB_t59, shB_l63, shB_l62, shB_l61, shB_l60, shBs_nil, shBs_cons, shBs_append, shBs_ints, eqDs_nil, eqDs_cons, eqDs_cn, eqDs_nc, eqDs_ints, eqDs_strs, eqD_ii, eqD_bb, eqD_ss, eqD_tt, eqD_ll, eqD_nn, ρLstO_seq, ρTupO_ref, Option.isSome_some, dNewK, dNewT, dGetK, dGetT, dInK, dInT, dPutK, dPutT, dAugK, dAugT, dGet2K, dGet2T, dPop1K, onRef_eq, dkAt_same, dtAt_same, dkW_same, dtW_same, keyOf_int, keyOf_str, keysOf_ii, keysOf_iii, ιEnum_eq, onSq_tup, onSq_lst, ρLtV_int, ρLtV_str, ρLtV_tup, ρPop_ref, ρIdx_lst, dFld, dSFld, dSFldAug, dMeth, dMake, dMethK, dMakeK, dEqI, insAt_same, lkF_cons, lkF_nil, putFD_cons, putFD_nil, ρIsC_non, ρIsC_ref, ρLenD_eq, dSortIt, ρSortD_eq, ρMinD_eq, ρMaxD_eq, dMet, dTm, mem_h, mem_h2, onBool_eq, insOrNon, ρCopy_ref, ιItems, ιVals, ιKeys, lkW_same, dLockE, dLockS, ρCopyT_ref, ρInX_eq, itsD_tup, itsD_lst, itsD_ref, dStar, ρSortKI_ref, ρRemX_ref, dForM, dLcR, Cs_shape, Cs__calls, ne___eq_____calls, ne___eq____shape, ne___init_____calls, ne___init____shape, ne__calls____eq__, ne__calls____init__, ne__calls__call, ne__calls__calls, ne__calls__demand_ends, ne__calls__end, ne__calls__free_outlets, ne__calls__has_outlet, ne__calls__is_behind_free, ne__calls__is_blocked, ne__calls__is_front_free, ne__calls__look_at_ends, ne__calls__middles, ne__calls__shape, ne__calls__twin, ne__calls__ways, ne_call___calls, ne_call__shape, ne_calls___calls, ne_calls__shape, ne_demand_ends___calls, ne_demand_ends__shape, ne_end___calls, ne_end__shape, ne_free_outlets___calls, ne_free_outlets__shape, ne_has_outlet___calls, ne_has_outlet__shape, ne_is_behind_free___calls, ne_is_behind_free__shape, ne_is_blocked___calls, ne_is_blocked__shape, ne_is_front_free___calls, ne_is_front_free__shape, ne_look_at_ends___calls, ne_look_at_ends__shape, ne_middles___calls, ne_middles__shape, ne_shape____eq__, ne_shape____init__, ne_shape___calls, ne_shape__call, ne_shape__calls, ne_shape__demand_ends, ne_shape__end, ne_shape__free_outlets, ne_shape__has_outlet, ne_shape__is_behind_free, ne_shape__is_blocked, ne_shape__is_front_free, ne_shape__look_at_ends, ne_shape__middles, ne_shape__twin, ne_shape__ways, ne_twin___calls, ne_twin__shape, ne_ways___calls, ne_ways__shape, sp_is_in_eq, sp_is_tuple_eq, sp_demand_eq, sp__law_dice_eq, sp__law_roll_eq, sp__law_pick_eq]
  have ix2 : ∀ (τ : TD) (k : DK), ρIx τ (shD s) (.int 2) k = k τ (.int s.r) := fun τ k => by simp only [shD, dVar, dC, dOp, dUn, dTest_eq, dAnd, dOr, dNot, dAndV_eq, dOrV_eq, dNotV_eq, dIf, dChain_eq, dNil, dCons, dTup, dLst, dLstM, dCB, dBM, dNoPart, dPart_eq, dSl, dCall, dCallK, dNext, dBrk, dCnt, dSeq, dDrop, dRet, dRetN, dIfS, γName, γNil, γCons, γSub, dAsg, dPar, dPar3, dAug, ιSeq_eq, ιZip, ιRng1_eq, ιRng2_eq, dFor, dLc, dLcM, dYes, dT, dTold, onBl_eq, onInt_eq, onSeq_lst, onSeq_tup, onSeq_str, onSome_eq, lstAt_same, dRaise, startD, List.map_cons, List.map_nil, List.length_cons, List.length_nil, List.replicate_succ, List.replicate_zero, List.cons_append, List.nil_append, List.append_nil, List.getElem?_cons_zero, List.getElem?_cons_succ, List.set_cons_zero, List.set_cons_succ, Nat.reduceAdd, Nat.reduceSub, Nat.zero_add, Nat.sub_self, ρEq_int, ρEq_str, ρEq_bl, ρNe_int, ρNe_str, ρNe_bl, ρEq_t3, ρNe_t3, ρEq_t2, ρNe_t2, intsOf_mapf, strsOf_mapf, blsOf_mapf, gK_01_0, gK_02_01, gK_02_10, gK_03_012, gK_03_021, gK_03_102, gK_03_120, gK_03_201, gK_03_210, gK_11_0, gK_12_01, gK_12_10, gK_13_012, gK_13_021, gK_13_102, gK_13_120, gK_13_201, gK_13_210, dLstRg, ρLstOM_eq, seqAt_lst, seqAt_tup, seqAt_ref, ρMulT_int, ρMulT_str, ρMulT_tup, ρInU_one, ρPopAt_ref, eq_self, Bool.not_true, Bool.not_false, decide_true, decide_false, strsOf_c0, strsOf_c1, strsOf_c2, strsOf_c3, strsOf_c4, strsOf_c5, strsOf_c6, strsOf_c7, strsOf_c8, intsOf_c0, intsOf_c1, intsOf_c2, intsOf_c3, intsOf_c4, intsOf_c5, intsOf_c6, intsOf_c7, intsOf_c8, blsOf_c0, blsOf_c1, blsOf_c2, blsOf_c3, blsOf_c4, blsOf_c5, blsOf_c6, blsOf_c7, blsOf_c8, ixN_30, ixN_31, ixN_32, wipeD, if_true, if_false, Bool.false_eq_true, Bool.true_eq_false, true_and, and_true, ρAdd_int, ρAdd_str, ρAdd_tup, ρAdd_lst, ρAdd_rl, ρI_int, ρI0_int, ρMul_int, ρMul_str, ρNeg_int, ρCmp_int, ρCmp_str, ρIsN_eq, ρNotN_eq, isNonD_bl, isNonD_int, isNonD_str, isNonD_tup, isNonD_lst, isNonD_ref, isNonD_non, ρSgn_one, ρAbs_int, ρMax_two, ρMin_two, ρMax_lst, ρMin_lst, ρInt_int, ρInt_bl, ρStr_int, ρLen_str, ρLen_tup, ρLen_lst, ρLen_ref, ρSum_lst, ρAll_lst, ρAny_lst, ρTupO_tup, ρTupO_lst, ρIsi_eq, is_non_int, is_non_bool, is_non_str, is_non_tuple, is_non_list, is_bl_int, is_bl_bool, is_bl_str, is_bl_tuple, is_bl_list, is_int_int, is_int_bool, is_int_str, is_int_tuple, is_int_list, is_str_int, is_str_bool, is_str_str, is_str_tuple, is_str_list, is_tup_int, is_tup_bool, is_tup_str, is_tup_tuple, is_tup_list, is_lst_int, is_lst_bool, is_lst_str, is_lst_tuple, is_lst_list, tyN_non, tyN_bl, tyN_int, tyN_str, tyN_tup, tyN_lst, ρIx_tup, ρIx_lst, ρIx_str, ρIx_ref, ρSl_str, ρSl_lst, ρSl_tup, ρApp_ref, θLst_ref, θStr_str, ςLst_ref, ρJoin_lst, γTup_tup, atI_0, atI_1, atI_2, atI_3, atI_4, atI_5, atI_6, atI_7, ρEqR_eq, ρNeR_eq, resD_non, resD_bl, resD_int, resD_str, resD_tup, resD_lst, eqA_nn, eqA_ii, eqA_bb, eqA_ss, eqA_ni, eqA_in, eqA_nb, eqA_bn, eqA_ns, eqA_sn, eqA_is, eqA_si, eqA_tt, eqA_ll, eqA_tl, eqA_lt, eqA_tn, eqA_nt, eqA_ti', eqA_it, eqA_ts, eqA_st, shB_non, shB_bl, shB_int, shB_str, shB_t63, shB_t62, shB_t61, shB_t60, shB_t59, shB_l63, shB_l62, shB_l61, shB_l60, shBs_nil, shBs_cons, shBs_append, shBs_ints, eqDs_nil, eqDs_cons, eqDs_cn, eqDs_nc, eqDs_ints, eqDs_strs, eqD_ii, eqD_bb, eqD_ss, eqD_tt, eqD_ll, eqD_nn, ρLstO_seq, ρTupO_ref, Option.isSome_some, dNewK, dNewT, dGetK, dGetT, dInK, dInT, dPutK, dPutT, dAugK, dAugT, dGet2K, dGet2T, dPop1K, onRef_eq, dkAt_same, dtAt_same, dkW_same, dtW_same, keyOf_int, keyOf_str, keysOf_ii, keysOf_iii, ιEnum_eq, onSq_tup, onSq_lst, ρLtV_int, ρLtV_str, ρLtV_tup, ρPop_ref, ρIdx_lst, dFld, dSFld, dSFldAug, dMeth, dMake, dMethK, dMakeK, dEqI, insAt_same, lkF_cons, lkF_nil, putFD_cons, putFD_nil, ρIsC_non, ρIsC_ref, ρLenD_eq, dSortIt, ρSortD_eq, ρMinD_eq, ρMaxD_eq, dMet, dTm, mem_h, mem_h2, onBool_eq, insOrNon, ρCopy_ref, ιItems, ιVals, ιKeys, lkW_same, dLockE, dLockS, ρCopyT_ref, ρInX_eq, itsD_tup, itsD_lst, itsD_ref, dStar, ρSortKI_ref, ρRemX_ref, dForM, dLcR, Cs_shape, Cs__calls, ne___eq_____calls, ne___eq____shape, ne___init_____calls, ne___init____shape, ne__calls____eq__, ne__calls____init__, ne__calls__call, ne__calls__calls, ne__calls__demand_ends, ne__calls__end, ne__calls__free_outlets, ne__calls__has_outlet, ne__calls__is_behind_free, ne__calls__is_blocked, ne__calls__is_front_free, ne__calls__look_at_ends, ne__calls__middles, ne__calls__shape, ne__calls__twin, ne__calls__ways, ne_call___calls, ne_call__shape, ne_calls___calls, ne_calls__shape, ne_demand_ends___calls, ne_demand_ends__shape, ne_end___calls, ne_end__shape, ne_free_outlets___calls, ne_free_outlets__shape, ne_has_outlet___calls, ne_has_outlet__shape, ne_is_behind_free___calls, ne_is_behind_free__shape, ne_is_blocked___calls, ne_is_blocked__shape, ne_is_front_free___calls, ne_is_front_free__shape, ne_look_at_ends___calls, ne_look_at_ends__shape, ne_middles___calls, ne_middles__shape, ne_shape____eq__, ne_shape____init__, ne_shape___calls, ne_shape__call, ne_shape__calls, ne_shape__demand_ends, ne_shape__end, ne_shape__free_outlets, ne_shape__has_outlet, ne_shape__is_behind_free, ne_shape__is_blocked, ne_shape__is_front_free, ne_shape__look_at_ends, ne_shape__middles, ne_shape__twin, ne_shape__ways, ne_twin___calls, ne_twin__shape, ne_ways___calls, ne_ways__shape, sp_is_in_eq, sp_is_tuple_eq, sp_demand_eq, sp__law_dice_eq, sp__law_roll_eq, sp__law_pick_eq]
  have ii0 : ∀ (x : C3) (τ : TD) (k : DK), ρIx τ (c3D x) (.int 0) k = k τ (.int x.1) := fun x τ k => by simp only [c3D, dVar, dC, dOp, dUn, dTest_eq, dAnd, dOr, dNot, dAndV_eq, dOrV_eq, dNotV_eq, dIf, dChain_eq, dNil, dCons, dTup, dLst, dLstM, dCB, dBM, dNoPart, dPart_eq, dSl, dCall, dCallK, dNext, dBrk, dCnt, dSeq, dDrop, dRet, dRetN, dIfS, γName, γNil, γCons, γSub, dAsg, dPar, dPar3, dAug, ιSeq_eq, ιZip, ιRng1_eq, ιRng2_eq, dFor, dLc, dLcM, dYes, dT, dTold, onBl_eq, onInt_eq, onSeq_lst, onSeq_tup, onSeq_str, onSome_eq, lstAt_same, dRaise, startD, List.map_cons, List.map_nil, List.length_cons, List.length_nil, List.replicate_succ, List.replicate_zero, List.cons_append, List.nil_append, List.append_nil, List.getElem?_cons_zero, List.getElem?_cons_succ, List.set_cons_zero, List.set_cons_succ, Nat.reduceAdd, Nat.reduceSub, Nat.zero_add, Nat.sub_self, ρEq_int, ρEq_str, ρEq_bl, ρNe_int, ρNe_str, ρNe_bl, ρEq_t3, ρNe_t3, ρEq_t2, ρNe_t2, intsOf_mapf, strsOf_mapf, blsOf_mapf, gK_01_0, gK_02_01, gK_02_10, gK_03_012, gK_03_021, gK_03_102, gK_03_120, gK_03_201, gK_03_210, gK_11_0, gK_12_01, gK_12_10, gK_13_012, gK_13_021, gK_13_102, gK_13_120, gK_13_201, gK_13_210, dLstRg, ρLstOM_eq, seqAt_lst, seqAt_tup, seqAt_ref, ρMulT_int, ρMulT_str, ρMulT_tup, ρInU_one, ρPopAt_ref, eq_self, Bool.not_true, Bool.not_false, decide_true, decide_false, strsOf_c0, strsOf_c1, strsOf_c2, strsOf_c3, strsOf_c4, strsOf_c5, strsOf_c6, strsOf_c7, strsOf_c8, intsOf_c0, intsOf_c1, intsOf_c2, intsOf_c3, intsOf_c4, intsOf_c5, intsOf_c6, intsOf_c7, intsOf_c8, blsOf_c0, blsOf_c1, blsOf_c2, blsOf_c3, blsOf_c4, blsOf_c5, blsOf_c6, blsOf_c7, blsOf_c8, ixN_30, ixN_31, ixN_32, wipeD, if_true, if_false, Bool.false_eq_true, Bool.true_eq_false, true_and, and_true, ρAdd_int, ρAdd_str, ρAdd_tup, ρAdd_lst, ρAdd_rl, ρI_int, ρI0_int, ρMul_int, ρMul_str, ρNeg_int, ρCmp_int, ρCmp_str, ρIsN_eq, ρNotN_eq, isNonD_bl, isNonD_int, isNonD_str, isNonD_tup, isNonD_lst, isNonD_ref, isNonD_non, ρSgn_one, ρAbs_int, ρMax_two, ρMin_two, ρMax_lst, ρMin_lst, ρInt_int, ρInt_bl, ρStr_int, ρLen_str, ρLen_tup, ρLen_lst, ρLen_ref, ρSum_lst, ρAll_lst, ρAny_lst, ρTupO_tup, ρTupO_lst, ρIsi_eq, is_non_int, is_non_bool, is_non_str, is_non_tuple, is_non_list, is_bl_int, is_bl_bool, is_bl_str, is_bl_tuple, is_bl_list, is_int_int, is_int_bool, is_int_str, is_int_tuple, is_int_list, is_str_int, is_str_bool, is_str_str, is_str_tuple, is_str_list, is_tup_int, is_tup_bool, is_tup_str, is_tup_tuple, is_tup_list, is_lst_int, is_lst_bool, is_lst_str, is_lst_tuple, is_lst_list, tyN_non, tyN_bl, tyN_int, tyN_str, tyN_tup, tyN_lst, ρIx_tup, ρIx_lst, ρIx_str, ρIx_ref, ρSl_str, ρSl_lst, ρSl_tup, ρApp_ref, θLst_ref, θStr_str, ςLst_ref, ρJoin_lst, γTup_tup, atI_0, atI_1, atI_2, atI_3, atI_4, atI_5, atI_6, atI_7, ρEqR_eq, ρNeR_eq, resD_non, resD_bl, resD_int, resD_str, resD_tup, resD_lst, eqA_nn, eqA_ii, eqA_bb, eqA_ss, eqA_ni, eqA_in, eqA_nb, eqA_bn, eqA_ns, eqA_sn, eqA_is, eqA_si, eqA_tt, eqA_ll, eqA_tl, eqA_lt, eqA_tn, eqA_nt, eqA_ti', eqA_it, eqA_ts, eqA_st, shB_non, shB_bl, shB_int, shB_str, shB_t63, shB_t62, shB_t61, shB_t60, shB_t59, shB_l63, shB_l62, shB_l61, shB_l60, shBs_nil, shBs_cons, shBs_append, shBs_ints, eqDs_nil, eqDs_cons, eqDs_cn, eqDs_nc, eqDs_ints, eqDs_strs, eqD_ii, eqD_bb, eqD_ss, eqD_tt, eqD_ll, eqD_nn, ρLstO_seq, ρTupO_ref, Option.isSome_some, dNewK, dNewT, dGetK, dGetT, dInK, dInT, dPutK, dPutT, dAugK, dAugT, dGet2K, dGet2T, dPop1K, onRef_eq, dkAt_same, dtAt_same, dkW_same, dtW_same, keyOf_int, keyOf_str, keysOf_ii, keysOf_iii, ιEnum_eq, onSq_tup, onSq_lst, ρLtV_int, ρLtV_str, ρLtV_tup, ρPop_ref, ρIdx_lst, dFld, dSFld, dSFldAug, dMeth, dMake, dMethK, dMakeK, dEqI, insAt_same, lkF_cons, lkF_nil, putFD_cons, putFD_nil, ρIsC_non, ρIsC_ref, ρLenD_eq, dSortIt, ρSortD_eq, ρMinD_eq, ρMaxD_eq, dMet, dTm, mem_h, mem_h2, onBool_eq, insOrNon, ρCopy_ref, ιItems, ιVals, ιKeys, lkW_same, dLockE, dLockS, ρCopyT_ref, ρInX_eq, itsD_tup, itsD_lst, itsD_ref, dStar, ρSortKI_ref, ρRemX_ref, dForM, dLcR, Cs_shape, Cs__calls, ne___eq_____calls, ne___eq____shape, ne___init_____calls, ne___init____shape, ne__calls____eq__, ne__calls____init__, ne__calls__call, ne__calls__calls, ne__calls__demand_ends, ne__calls__end, ne__calls__free_outlets, ne__calls__has_outlet, ne__calls__is_behind_free, ne__calls__is_blocked, ne__calls__is_front_free, ne__calls__look_at_ends, ne__calls__middles, ne__calls__shape, ne__calls__twin, ne__calls__ways, ne_call___calls, ne_call__shape, ne_calls___calls, ne_calls__shape, ne_demand_ends___calls, ne_demand_ends__shape, ne_end___calls, ne_end__shape, ne_free_outlets___calls, ne_free_outlets__shape, ne_has_outlet___calls, ne_has_outlet__shape, ne_is_behind_free___calls, ne_is_behind_free__shape, ne_is_blocked___calls, ne_is_blocked__shape, ne_is_front_free___calls, ne_is_front_free__shape, ne_look_at_ends___calls, ne_look_at_ends__shape, ne_middles___calls, ne_middles__shape, ne_shape____eq__, ne_shape____init__, ne_shape___calls, ne_shape__call, ne_shape__calls, ne_shape__demand_ends, ne_shape__end, ne_shape__free_outlets, ne_shape__has_outlet, ne_shape__is_behind_free, ne_shape__is_blocked, ne_shape__is_front_free, ne_shape__look_at_ends, ne_shape__middles, ne_shape__twin, ne_shape__ways, ne_twin___calls, ne_twin__shape, ne_ways___calls, ne_ways__shape, sp_is_in_eq, sp_is_tuple_eq, sp_demand_eq, sp__law_dice_eq, sp__law_roll_eq, sp__law_pick_eq]
  have ii1 : ∀ (x : C3) (τ : TD) (k : DK), ρIx τ (c3D x) (.int 1) k = k τ (.int x.2.1) := fun x τ k => by simp only [c3D, dVar, dC, dOp, dUn, dTest_eq, dAnd, dOr, dNot, dAndV_eq, dOrV_eq, dNotV_eq, dIf, dChain_eq, dNil, dCons, dTup, dLst, dLstM, dCB, dBM, dNoPart, dPart_eq, dSl, dCall, dCallK, dNext, dBrk, dCnt, dSeq, dDrop, dRet, dRetN, dIfS, γName, γNil, γCons, γSub, dAsg, dPar, dPar3, dAug, ιSeq_eq, ιZip, ιRng1_eq, ιRng2_eq, dFor, dLc, dLcM, dYes, dT, dTold, onBl_eq, onInt_eq, onSeq_lst, onSeq_tup, onSeq_str, onSome_eq, lstAt_same, dRaise, startD, List.map_cons, List.map_nil, List.length_cons, List.length_nil, List.replicate_succ, List.replicate_zero, List.cons_append, List.nil_append, List.append_nil, List.getElem?_cons_zero, List.getElem?_cons_succ, List.set_cons_zero, List.set_cons_succ, Nat.reduceAdd, Nat.reduceSub, Nat.zero_add, Nat.sub_self, ρEq_int, ρEq_str, ρEq_bl, ρNe_int, ρNe_str, ρNe_bl, ρEq_t3, ρNe_t3, ρEq_t2, ρNe_t2, intsOf_mapf, strsOf_mapf, blsOf_mapf, gK_01_0, gK_02_01, gK_02_10, gK_03_012, gK_03_021, gK_03_102, gK_03_120, gK_03_201, gK_03_210, gK_11_0, gK_12_01, gK_12_10, gK_13_012, gK_13_021, gK_13_102, gK_13_120, gK_13_201, gK_13_210, dLstRg, ρLstOM_eq, seqAt_lst, seqAt_tup, seqAt_ref, ρMulT_int, ρMulT_str, ρMulT_tup, ρInU_one, ρPopAt_ref, eq_self, Bool.not_true, Bool.not_false, decide_true, decide_false, strsOf_c0, strsOf_c1, strsOf_c2, strsOf_c3, strsOf_c4, strsOf_c5, strsOf_c6, strsOf_c7, strsOf_c8, intsOf_c0, intsOf_c1, intsOf_c2, intsOf_c3, intsOf_c4, intsOf_c5, intsOf_c6, intsOf_c7, intsOf_c8, blsOf_c0, blsOf_c1, blsOf_c2, blsOf_c3, blsOf_c4, blsOf_c5, blsOf_c6, blsOf_c7, blsOf_c8, ixN_30, ixN_31, ixN_32, wipeD, if_true, if_false, Bool.false_eq_true, Bool.true_eq_false, true_and, and_true, ρAdd_int, ρAdd_str, ρAdd_tup, ρAdd_lst, ρAdd_rl, ρI_int, ρI0_int, ρMul_int, ρMul_str, ρNeg_int, ρCmp_int, ρCmp_str, ρIsN_eq, ρNotN_eq, isNonD_bl, isNonD_int, isNonD_str, isNonD_tup, isNonD_lst, isNonD_ref, isNonD_non, ρSgn_one, ρAbs_int, ρMax_two, ρMin_two, ρMax_lst, ρMin_lst, ρInt_int, ρInt_bl, ρStr_int, ρLen_str, ρLen_tup, ρLen_lst, ρLen_ref, ρSum_lst, ρAll_lst, ρAny_lst, ρTupO_tup, ρTupO_lst, ρIsi_eq, is_non_int, is_non_bool, is_non_str, is_non_tuple, is_non_list, is_bl_int, is_bl_bool, is_bl_str, is_bl_tuple, is_bl_list, is_int_int, is_int_bool, is_int_str, is_int_tuple, is_int_list, is_str_int, is_str_bool, is_str_str, is_str_tuple, is_str_list, is_tup_int, is_tup_bool, is_tup_str, is_tup_tuple, is_tup_list, is_lst_int, is_lst_bool, is_lst_str, is_lst_tuple, is_lst_list, tyN_non, tyN_bl, tyN_int, tyN_str, tyN_tup, tyN_lst, ρIx_tup, ρIx_lst, ρIx_str, ρIx_ref, ρSl_str, ρSl_lst, ρSl_tup, ρApp_ref, θLst_ref, θStr_str, ςLst_ref, ρJoin_lst, γTup_tup, atI_0, atI_1, atI_2, atI_3, atI_4, atI_5, atI_6, atI_7, ρEqR_eq, ρNeR_eq, resD_non, resD_bl, resD_int, resD_str, resD_tup, resD_lst, eqA_nn, eqA_ii, eqA_bb, eqA_ss, eqA_ni, eqA_in, eqA_nb, eqA_bn, eqA_ns, eqA_sn, eqA_is, eqA_si, eqA_tt, eqA_ll, eqA_tl, eqA_lt, eqA_tn, eqA_nt, eqA_ti', eqA_it, eqA_ts, eqA_st, shB_non, shB_bl, shB_int, shB_str, shB_t63, shB_t62, shB_t61, shB_t60, shB_t59, shB_l63, shB_l62, shB_l61, shB_l60, shBs_nil, shBs_cons, shBs_append, shBs_ints, eqDs_nil, eqDs_cons, eqDs_cn, eqDs_nc, eqDs_ints, eqDs_strs, eqD_ii, eqD_bb, eqD_ss, eqD_tt, eqD_ll, eqD_nn, ρLstO_seq, ρTupO_ref, Option.isSome_some, dNewK, dNewT, dGetK, dGetT, dInK, dInT, dPutK, dPutT, dAugK, dAugT, dGet2K, dGet2T, dPop1K, onRef_eq, dkAt_same, dtAt_same, dkW_same, dtW_same, keyOf_int, keyOf_str, keysOf_ii, keysOf_iii, ιEnum_eq, onSq_tup, onSq_lst, ρLtV_int, ρLtV_str, ρLtV_tup, ρPop_ref, ρIdx_lst, dFld, dSFld, dSFldAug, dMeth, dMake, dMethK, dMakeK, dEqI, insAt_same, lkF_cons, lkF_nil, putFD_cons, putFD_nil, ρIsC_non, ρIsC_ref, ρLenD_eq, dSortIt, ρSortD_eq, ρMinD_eq, ρMaxD_eq, dMet, dTm, mem_h, mem_h2, onBool_eq, insOrNon, ρCopy_ref, ιItems, ιVals, ιKeys, lkW_same, dLockE, dLockS, ρCopyT_ref, ρInX_eq, itsD_tup, itsD_lst, itsD_ref, dStar, ρSortKI_ref, ρRemX_ref, dForM, dLcR, Cs_shape, Cs__calls, ne___eq_____calls, ne___eq____shape, ne___init_____calls, ne___init____shape, ne__calls____eq__, ne__calls____init__, ne__calls__call, ne__calls__calls, ne__calls__demand_ends, ne__calls__end, ne__calls__free_outlets, ne__calls__has_outlet, ne__calls__is_behind_free, ne__calls__is_blocked, ne__calls__is_front_free, ne__calls__look_at_ends, ne__calls__middles, ne__calls__shape, ne__calls__twin, ne__calls__ways, ne_call___calls, ne_call__shape, ne_calls___calls, ne_calls__shape, ne_demand_ends___calls, ne_demand_ends__shape, ne_end___calls, ne_end__shape, ne_free_outlets___calls, ne_free_outlets__shape, ne_has_outlet___calls, ne_has_outlet__shape, ne_is_behind_free___calls, ne_is_behind_free__shape, ne_is_blocked___calls, ne_is_blocked__shape, ne_is_front_free___calls, ne_is_front_free__shape, ne_look_at_ends___calls, ne_look_at_ends__shape, ne_middles___calls, ne_middles__shape, ne_shape____eq__, ne_shape____init__, ne_shape___calls, ne_shape__call, ne_shape__calls, ne_shape__demand_ends, ne_shape__end, ne_shape__free_outlets, ne_shape__has_outlet, ne_shape__is_behind_free, ne_shape__is_blocked, ne_shape__is_front_free, ne_shape__look_at_ends, ne_shape__middles, ne_shape__twin, ne_shape__ways, ne_twin___calls, ne_twin__shape, ne_ways___calls, ne_ways__shape, sp_is_in_eq, sp_is_tuple_eq, sp_demand_eq, sp__law_dice_eq, sp__law_roll_eq, sp__law_pick_eq]
  have on := ok.n
  have om := ok.m
  have or := ok.r
  refine dSeq_step fun Z hZ => ?_
  try simp! only [true_and, ix0, ix2]
  refine ⟨mul_ok ⟨by omega, by omega⟩, hZ _ _ ?_⟩
  clear hZ Z
  refine dSeq_step fun Z hZ => ?_
  try simp! only [true_and]
  rw [show s.n * s.r = s.ends from rfl]
  refine ⟨⟨by omega, by omega⟩, fun L hL => ?_⟩
  refine lc_fmT (l := List.range s.ends.toNat) (g := fun (i : Nat) => .int (0 + (i : Int))) (fun o => if (!decide ((o : Int) ∈ cs.map (·.1))) = true then some (.int (o : Int)) else none) (sz1000 (by rw [List.length_range]; omega)) (fun o ho acc k' hk' => ?_) ?_
  · have h1 := lstAt_out (u := .lst acc) hc hL
    rw [Int.zero_add]
    try simp! only [true_and, h1]
    intro L2 hL2
    refine lcR_ones (fun x => decide (x.1 = (o : Int))) h1 hl hL2 (fun x hx acc k' hk' => ?_) ?_
    · try simp! only [true_and, ii0]
      exact hk'
    try simp! only [true_and, tset_del hL2, fm_ones, sh_ones, any_in]
    exact ⟨szn, if_push hk'⟩
  rw [fm_filter (fun o : Nat => !decide ((o : Int) ∈ cs.map (·.1))) (fun o => D.int (o : Int)), tset_del hL]
  refine hZ _ _ ?_
  clear hZ Z hL L
  refine dSeq_step fun Z hZ => ?_
  try simp! only [true_and]
  refine ⟨⟨by omega, by omega⟩, fun L hL => ?_⟩
  refine lc_fmT (l := List.range s.ends.toNat) (g := fun (i : Nat) => .int (0 + (i : Int))) (fun o => if (!hasOut cs (o : Int)) = true then some (.int (o : Int)) else none) (sz1000 (by rw [List.length_range]; omega)) (fun o ho acc k' hk' => ?_) ?_
  · have h1 := lstAt_out (u := .lst acc) hc hL
    rw [Int.zero_add]
    try simp! only [true_and, h1]
    intro L2 hL2
    refine lcR_ones (fun x => decide (x.2.1 = (o : Int))) h1 hl hL2 (fun x hx acc k' hk' => ?_) ?_
    · try simp! only [true_and, ii1]
      exact hk'
    try simp! only [true_and, tset_del hL2, fm_ones, sh_ones]
    exact ⟨szn, if_push hk'⟩
  rw [fm_filter (fun o : Nat => !hasOut cs (o : Int)) (fun o => D.int (o : Int)), tset_del hL]
  refine hZ _ _ ?_
  clear hZ Z hL L
  refine dSeq_step fun Z hZ => ?_
  try simp! only [true_and]
  refine loop_st (α := Nat) (g := fun (i : Nat) => .int (i : Int)) (s0 := false) (fun (b : Bool) τ' ds => τ' = τ ∧ b = false ∧ ∃ x1 x2 x3 x4 x5, ds = [some (shD s), some (.ref c), some (.int s.ends), some (.lst (((List.range s.ends.toNat).filter fun (o : Nat) => !decide ((o : Int) ∈ cs.map (·.1))).map fun (o : Nat) => D.int (o : Int))), x1, x2, some (.lst (((List.range s.ends.toNat).filter fun (o : Nat) => !hasOut cs (o : Int)).map fun (o : Nat) => D.int (o : Int))), x3, x4, x5]) (fun b (i : Nat) => b || (freeO s cs).any fun o => decide (waysL s cs (i : Int) o = [])) _ (fun i hi b τ' ds hI G hG => ?_) ⟨rfl, rfl, _, _, _, _, _, rfl⟩ (fun τ' ds hI => ?_)
  · obtain ⟨rfl, rfl, x1, x2, x3, x4, x5, rfl⟩ := hI
    obtain ⟨hi1, hi2⟩ := List.mem_filter.mp hi
    have hi2 : (i : Int) ∉ cs.map (·.1) := by simpa using hi2
    try simp! only [true_and]
    refine loop_st (α := Nat) (g := fun (i : Nat) => .int (i : Int)) (s0 := false) (fun (b : Bool) τ2 ds => τ2 = τ' ∧ b = false ∧ ∃ x1 x2 x4 x5, ds = [some (shD s), some (.ref c), some (.int s.ends), some (.lst (((List.range s.ends.toNat).filter fun (o : Nat) => !decide ((o : Int) ∈ cs.map (·.1))).map fun (o : Nat) => D.int (o : Int))), x1, x2, some (.lst (((List.range s.ends.toNat).filter fun (o : Nat) => !hasOut cs (o : Int)).map fun (o : Nat) => D.int (o : Int))), some (.int (i : Int)), x4, x5]) (fun b (o : Nat) => b || decide (waysL s cs (i : Int) (o : Int) = [])) _ (fun o ho b τ2 ds hI G2 hG2 => ?_) ⟨rfl, rfl, _, _, _, _, rfl⟩ (fun τ2 ds hI => ?_)
    · obtain ⟨rfl, rfl, x1, x2, x4, x5, rfl⟩ := hI
      obtain ⟨ho1, ho2⟩ := List.mem_filter.mp ho
      have ho2 : hasOut cs (o : Int) = false := by simpa using ho2
      try simp! only [true_and, ix1]
      refine ⟨⟨by omega, by omega⟩, fun L hL => ?_⟩
      refine lc_fmT (l := List.range s.m.toNat) (g := fun (i : Nat) => .int (0 + (i : Int))) (fun m => if okM s cs (i : Int) (o : Int) m = true then some (.int (m : Int)) else none) (sz1000 (by rw [List.length_range]; omega)) (fun m hm acc k' hk' => ?_) ?_
      · have h1 := lstAt_out (u := .lst acc) hc hL
        rw [Int.zero_add]
        try simp! only [true_and]
        refine sp__law_r_can_of ⟨h1, hl, ok, ?_⟩
        try simp! only [true_and, canS_free hi2 ho2]
        exact if_push hk'
      have ew : eqDs (((List.range s.m.toNat).filter (okM s cs (i : Int) (o : Int))).map fun m : Nat => D.int (m : Int)) [] = decide (waysL s cs (i : Int) (o : Int) = []) := by
        have := eqDs_ints (l := waysL s cs (i : Int) (o : Int)) (m := [])
        unfold waysL at this ⊢
        rw [List.map_map] at this
        exact this
      have es : shBs 63 (((List.range s.m.toNat).filter (okM s cs (i : Int) (o : Int))).map fun m : Nat => D.int (m : Int)) = true := shBs_map fun _ _ => shB_int
      try simp! only [true_and, tset_del hL, fm_filter, ew, es]
      refine ⟨szn, ?_⟩
      by_cases c1 : waysL s cs (i : Int) (o : Int) = []
      · simp only [c1, decide_true, if_true]
        have : blockedB s cs = true := by
          unfold blockedB
          rw [List.any_eq_true]
          refine ⟨i, hi1, ?_⟩
          simp only [hi2, decide_false, Bool.not_false, Bool.true_and]
          rw [List.any_eq_true]
          refine ⟨(o : Int), List.mem_map.mpr ⟨o, List.mem_filter.mpr ⟨ho1, by simp [ho2]⟩, rfl⟩, by simpa using c1⟩
        rw [this] at hk
        exact Fin.same hk
      · simp only [c1, decide_false, Bool.false_eq_true, if_false]
        exact hG2 _ _ ⟨rfl, by simp [c1], _, _, _, _, rfl⟩
    · obtain ⟨rfl, hb, x1, x2, x4, x5, rfl⟩ := hI
      rw [fold_or] at hb
      refine hG _ _ ⟨rfl, ?_, _, _, _, _, _, rfl⟩
      unfold freeO
      rw [List.any_map]
      exact hb
  · obtain ⟨rfl, hb, x1, x2, x3, x4, x5, rfl⟩ := hI
    rw [fold_or] at hb
    refine hZ _ _ ?_
    clear hZ Z
    try simp! only [true_and]
    have : blockedB s cs = false := by
      have hb : _ = false := hb
      rw [Bool.false_or, List.any_eq_false] at hb
      unfold blockedB
      rw [List.any_eq_false]
      intro i hi
      by_cases c1 : (i : Int) ∈ cs.map (·.1)
      · simp [c1]
      · have := hb i (List.mem_filter.mpr ⟨hi, by simpa using c1⟩)
        simp only [c1, decide_false, Bool.not_false, Bool.true_and]
        exact this
    rw [this] at hk
    exact Fin.same hk
/-! ### _law_middles_due -/
theorem sc__law_middles_due : FnScope ["shape", "calls", "inlet", "outlet", "why", "middle"] ["shape", "calls", "inlet", "outlet"] (defScope s__law_middles_due) := ⟨rfl, rfl, rfl, by decide +kernel, rfl, by decide +kernel, by decide +kernel⟩
theorem bn__law_middles_due (M : Mod K mg) : L2.Binds K M.f__law_middles_due.choose ["shape", "calls", "inlet", "outlet"] [] := fun_binds M.f__law_middles_due.choose_spec fun _ _ _ _ _ _ us hl => match us, hl with | [_, _, _, _], _ => rfl
def dueD (s : Shp) (cs : List C3) (i o : Int) : D := match endsW cs i o with
  | some u => .str ("not " ++ u)
  | none => .tup ((waysL s cs i o).map D.int)
theorem canS_due {s : Shp} {cs : List C3} {i o : Int} (rng : ∀ c ∈ cs, 0 ≤ c.2.2) : canS s cs i o (-1) = (endsW cs i o).getD "" := by
  have e1 : frontB s cs i (-1) = false := by
    unfold frontB
    rw [List.any_eq_false]
    intro c hc
    have := rng c hc
    have : c.2.2 ≠ -1 := by omega
    simp [this]
  have e2 : behindB s cs o (-1) = false := by
    unfold behindB
    rw [List.any_eq_false]
    intro c hc
    have := rng c hc
    have : c.2.2 ≠ -1 := by omega
    simp [this]
  unfold canS canW endsW
  rw [e1, e2]
  split
  · rfl
  · split <;> rfl
theorem ends_cases (cs : List C3) (i o : Int) : endsW cs i o = some ("inlet" : Str) ∨ endsW cs i o = some ("outlet" : Str) ∨ (endsW cs i o = none ∧ i ∉ cs.map (·.1) ∧ hasOut cs o = false) := by
  unfold endsW
  split
  · exact .inl rfl
  · rename_i c1
    split
    · exact .inr (.inl rfl)
    · rename_i c2
      exact .inr (.inr ⟨rfl, c1, by simpa using c2⟩)
def sp__law_middles_due : SpD := fun τ ds k KE => ∃ (c : Addr) (i o : Int) (s : Shp) (cs : List C3), ds = [shD s, .ref c, .int i, .int o] ∧ (lstAt τ c = some (cs.map c3D) ∧ cs.length ≤ 1000 ∧ s.Ok ∧ (∀ c ∈ cs, 0 ≤ c.2.2) ∧ k τ (dueD s cs i o))
theorem sp__law_middles_due_of {τ : TD} {k : DK} {KE : XD} {c : Addr} {i o : Int} {s : Shp} {cs : List C3} (h_ : lstAt τ c = some (cs.map c3D) ∧ cs.length ≤ 1000 ∧ s.Ok ∧ (∀ c ∈ cs, 0 ≤ c.2.2) ∧ k τ (dueD s cs i o)) : sp__law_middles_due τ [shD s, .ref c, .int i, .int o] k KE := ⟨_, _, _, _, _, rfl, h_⟩
theorem ok__law_middles_due (M : Mod K mg) : FnD prog w K mg base (TT K) 3 (He.fAd K ("_law_middles_due", none)) M.f__law_middles_due.choose ["shape", "calls", "inlet", "outlet"] sp__law_middles_due := by
  refine fnD_of M.f__law_middles_due.choose_spec sc__law_middles_due fun KE => ⟨_, fun cdv A outer s H E hr => (pdss_cons (pds_set (i := 4) sc__law_middles_due.nd rfl (by first | exact .inl rfl | exact .inr rfl) (pd_call (ok__law_r_can M) (hr.mono (by decide)) rfl M.g__law_r_can M.f__law_r_can.choose_spec.kp (bn__law_r_can M) .nil .nil passD (pda_cons (pd_var (pv 0)) (pda_cons (pd_var (pv 1)) (pda_cons (pd_var (pv 2)) (pda_cons (pd_var (pv 3)) (pda_cons (pd_un un_neg ok_neg pd_int) pda_nil))))))) (pdss_cons (pds_if (pdt_cmp (op_neU (room_eq hr)) ok_neR (pd_var (pv 4)) pd_str (nomark _)) (pdss_one (pds_ret (pd_op op_addU ok_add pd_str (pd_var (pv 4))))) pdss_nil) (pdss_one (pds_ret (pd_callTy cr_tupO ok_tupO rfl M.b_tuple boot_tuple (pda_cons (pd_lc rfl sc__law_middles_due.nd (pdi_range1 rfl M.b_range (pda_cons (pd_ix ix_seq ok_ix (pd_var (pv 0)) pd_int) pda_nil)) (show BlkOk ["shape", "calls", "inlet", "outlet", "why", "middle"] (defScope s__law_middles_due) _ [("middle", 5)] from blk_of (by decide +kernel)) (fun _ _ _ _ _ => pdn_name (i := 5) sc__law_middles_due.nd rfl (by first | exact .inl rfl | exact .inr rfl) (by decide)) (fun _ _ _ _ _ => pdts_one (pdt_cmp (op_eqU (room_eq hr)) ok_eqR (pd_call (ok__law_r_can M) (hr.mono (by decide)) rfl M.g__law_r_can M.f__law_r_can.choose_spec.kp (bn__law_r_can M) .nil .nil passL (pda_cons (pd_var (pv 0)) (pda_cons (pd_var (pv 1)) (pda_cons (pd_var (pv 2)) (pda_cons (pd_var (pv 3)) (pda_cons (pd_var (pv 5)) pda_nil)))))) pd_str (nomark _))) (fun _ _ _ _ _ => (pd_var (pv 5)))) pda_nil)))))), ?_⟩
  intro τ ds k hl h
  unfold sp__law_middles_due at h
  obtain ⟨c, i, o, s, cs, rfl, hh⟩ := h
  obtain ⟨hc, hl, ok, rng, hk⟩ := hh
  have ix1 : ∀ (τ : TD) (k : DK), ρIx τ (shD s) (.int 1) k = k τ (.int s.m) := fun τ k => by simp only [shD, dVar, dC, dOp, dUn, dTest_eq, dAnd, dOr, dNot, dAndV_eq, dOrV_eq, dNotV_eq, dIf, dChain_eq, dNil, dCons, dTup, dLst, dLstM, dCB, dBM, dNoPart, dPart_eq, dSl, dCall, dCallK, dNext, dBrk, dCnt, dSeq, dDrop, dRet, dRetN, dIfS, γName, γNil, γCons, γSub, dAsg, dPar, dPar3, dAug, ιSeq_eq, ιZip, ιRng1_eq, ιRng2_eq, dFor, dLc, dLcM, dYes, dT, dTold, onBl_eq, onInt_eq, onSeq_lst, onSeq_tup, onSeq_str, onSome_eq, lstAt_same, dRaise, startD, List.map_cons, List.map_nil, List.length_cons, List.length_nil, List.replicate_succ, List.replicate_zero, List.cons_append, List.nil_append, List.append_nil, List.getElem?_cons_zero, List.getElem?_cons_succ, List.set_cons_zero, List.set_cons_succ, Nat.reduceAdd, Nat.reduceSub, Nat.zero_add, Nat.sub_self, ρEq_int, ρEq_str, ρEq_bl, ρNe_int, ρNe_str, ρNe_bl, ρEq_t3, ρNe_t3, ρEq_t2, ρNe_t2, intsOf_mapf, strsOf_mapf, blsOf_mapf, gK_01_0, gK_02_01, gK_02_10, gK_03_012, gK_03_021, gK_03_102, gK_03_120, gK_03_201, gK_03_210, gK_11_0, gK_12_01, gK_12_10, gK_13_012, gK_13_021, gK_13_102, gK_13_120, gK_13_201, gK_13_210, dLstRg, ρLstOM_eq, seqAt_lst, seqAt_tup, seqAt_ref, ρMulT_int, ρMulT_str, ρMulT_tup, ρInU_one, ρPopAt_ref, eq_self, Bool.not_true, Bool.not_false, decide_true, decide_false, strsOf_c0, strsOf_c1, strsOf_c2, strsOf_c3, strsOf_c4, strsOf_c5, strsOf_c6, strsOf_c7, strsOf_c8, intsOf_c0, intsOf_c1, intsOf_c2, intsOf_c3, intsOf_c4, intsOf_c5, intsOf_c6, intsOf_c7, intsOf_c8, blsOf_c0, blsOf_c1, blsOf_c2, blsOf_c3, blsOf_c4, blsOf_c5, blsOf_c6, blsOf_c7, blsOf_c8, ixN_30, ixN_31, ixN_32, wipeD, if_true, if_false, Bool.false_eq_true, Bool.true_eq_false, true_and, and_true, ρAdd_int, ρAdd_str, ρAdd_tup, ρAdd_lst, ρAdd_rl, ρI_int, ρI0_int, ρMul_int, ρMul_str, ρNeg_int, ρCmp_int, ρCmp_str, ρIsN_eq, ρNotN_eq, isNonD_bl, isNonD_int, isNonD_str, isNonD_tup, isNonD_lst, isNonD_ref, isNonD_non, ρSgn_one, ρAbs_int, ρMax_two, ρMin_two, ρMax_lst, ρMin_lst, ρInt_int, ρInt_bl, ρStr_int, ρLen_str, ρLen_tup, ρLen_lst, ρLen_ref, ρSum_lst, ρAll_lst, ρAny_lst, ρTupO_tup, ρTupO_lst, ρIsi_eq, is_non_int, is_non_bool, is_non_str, is_non_tuple, is_non_list, is_bl_int, is_bl_bool, is_bl_str, is_bl_tuple, is_bl_list, is_int_int, is_int_bool, is_int_str, is_int_tuple, is_int_list, is_str_int, is_str_bool, is_str_str, is_str_tuple, is_str_list, is_tup_int, is_tup_bool, is_tup_str, is_tup_tuple, is_tup_list, is_lst_int, is_lst_bool, is_lst_str, is_lst_tuple, is_lst_list, tyN_non, tyN_bl, tyN_int, tyN_str, tyN_tup, tyN_lst, ρIx_tup, ρIx_lst, ρIx_str, ρIx_ref, ρSl_str, ρSl_lst, ρSl_tup, ρApp_ref, θLst_ref, θStr_str, ςLst_ref, ρJoin_lst, γTup_tup, atI_0, atI_1, atI_2, atI_3, atI_4, atI_5, atI_6, atI_7, ρEqR_eq, ρNeR_eq, resD_non, resD_bl, resD_int, resD_str, resD_tup, resD_lst, eqA_nn, eqA_ii, eqA_bb, eqA_ss, eqA_ni, eqA_in, eqA_nb, eqA_bn, eqA_ns, eqA_sn, eqA_is, eqA_si, eqA_tt, eqA_ll, eqA_tl, eqA_lt, eqA_tn, eqA_nt, eqA_ti', eqA_it, eqA_ts, eqA_st, shB_non, shB_bl, shB_int, shB_str, shB_t63, shB_t62, shB_t61, shB_t60, shB_t59, shB_l63, shB_l62, shB_l61, shB_l60, shBs_nil, shBs_cons, shBs_append, shBs_ints, eqDs_nil, eqDs_cons, eqDs_cn, eqDs_nc, eqDs_ints, eqDs_strs, eqD_ii, eqD_bb, eqD_ss, eqD_tt, eqD_ll, eqD_nn, ρLstO_seq, ρTupO_ref, Option.isSome_some, dNewK, dNewT, dGetK, dGetT, dInK, dInT, dPutK, dPutT, dAugK, dAugT, dGet2K, dGet2T, dPop1K, onRef_eq, dkAt_same, dtAt_same, dkW_same, dtW_same, keyOf_int, keyOf_str, keysOf_ii, keysOf_iii, ιEnum_eq, onSq_tup, onSq_lst, ρLtV_int, ρLtV_str, ρLtV_tup, ρPop_ref, ρIdx_lst, dFld, dSFld, dSFldAug, dMeth, dMake, dMethK, dMakeK, dEqI, insAt_same, lkF_cons, lkF_nil, putFD_cons, putFD_nil, ρIsC_non, ρIsC_ref, ρLenD_eq, dSortIt, ρSortD_eq, ρMinD_eq, ρMaxD_eq, dMet, dTm, mem_h, mem_h2, onBool_eq, insOrNon, ρCopy_ref, ιItems, ιVals, ιKeys, lkW_same, dLockE, dLockS, ρCopyT_ref, ρInX_eq, itsD_tup, itsD_lst, itsD_ref, dStar, ρSortKI_ref, ρRemX_ref, dForM, dLcR, Cs_shape, Cs__calls, ne___eq_____calls, ne___eq____shape, ne___init_____calls, ne___init____shape, ne__calls____eq__, ne__calls____init__, ne__calls__call, ne__calls__calls, ne__calls__demand_ends, ne__calls__end, ne__calls__free_outlets, ne__calls__has_outlet, ne__calls__is_behind_free, ne__calls__is_blocked, ne__calls__is_front_free, ne__calls__look_at_ends, ne__calls__middles, ne__calls__shape, ne__calls__twin, ne__calls__ways, ne_call___calls, ne_call__shape, ne_calls___calls, ne_calls__shape, ne_demand_ends___calls, ne_demand_ends__shape, ne_end___calls, ne_end__shape, ne_free_outlets___calls, ne_free_outlets__shape, ne_has_outlet___calls, ne_has_outlet__shape, ne_is_behind_free___calls, ne_is_behind_free__shape, ne_is_blocked___calls, ne_is_blocked__shape, ne_is_front_free___calls, ne_is_front_free__shape, ne_look_at_ends___calls, ne_look_at_ends__shape, ne_middles___calls, ne_middles__shape, ne_shape____eq__, ne_shape____init__, ne_shape___calls, ne_shape__call, ne_shape__calls, ne_shape__demand_ends, ne_shape__end, ne_shape__free_outlets, ne_shape__has_outlet, ne_shape__is_behind_free, ne_shape__is_blocked, ne_shape__is_front_free, ne_shape__look_at_ends, ne_shape__middles, ne_shape__twin, ne_shape__ways, ne_twin___calls, ne_twin__shape, ne_ways___calls, ne_ways__shape, sp_is_in_eq, sp_is_tuple_eq, sp_demand_eq, sp__law_dice_eq, sp__law_roll_eq, sp__law_pick_eq]
  have om := ok.m
  unfold dueD at hk
  refine dSeq_step fun Z hZ => ?_
  try simp! only [true_and]
  refine sp__law_r_can_of ⟨hc, hl, ok, hZ _ _ ?_⟩
  clear hZ Z
  rw [canS_due rng]
  rcases ends_cases cs i o with e | e | ⟨e, h1, h2⟩
  · rw [e] at hk ⊢
    try simp! only [true_and, Option.getD_some]
    rw [if_pos (by decide)]
    exact ⟨szn, Fin.same hk⟩
  · rw [e] at hk ⊢
    try simp! only [true_and, Option.getD_some]
    rw [if_pos (by decide)]
    exact ⟨szn, Fin.same hk⟩
  · rw [e] at hk ⊢
    try simp! only [true_and, ix1, Option.getD_none]
    refine ⟨⟨by omega, by omega⟩, fun L hL => ?_⟩
    refine lc_fmT (l := List.range s.m.toNat) (g := fun (i : Nat) => .int (0 + (i : Int))) (fun m => if okM s cs i o m = true then some (.int (m : Int)) else none) (sz1000 (by rw [List.length_range]; omega)) (fun m hm acc k' hk' => ?_) ?_
    · have h1' := lstAt_out (u := .lst acc) hc hL
      rw [Int.zero_add]
      try simp! only [true_and]
      refine sp__law_r_can_of ⟨h1', hl, ok, ?_⟩
      try simp! only [true_and, canS_free h1 h2]
      exact if_push hk'
    try simp! only [true_and, tset_del hL, fm_filter]
    unfold waysL at hk
    rw [List.map_map] at hk
    exact Fin.same hk
end
end LW

set_option Elab.async false
set_option linter.all false
set_option maxRecDepth 100000
set_option maxHeartbeats 0
namespace LW
open PySem PySem.Spec PyProof.Rows L2 DL DX
section
variable {w : World} {K : PySem.W.Frag} {mg : Str → Option Value} {base : Heap}
local macro_rules | `(tactic| simp! only [$xs,*]) => `(tactic| simp only [dVar, dC, dOp, dUn, dTest_eq, dAnd, dOr, dNot, dAndV_eq, dOrV_eq, dNotV_eq, dIf, dChain_eq, dNil, dCons, dTup, dLst, dLstM, dCB, dBM, dNoPart, dPart_eq, dSl, dCall, dCallK, dNext, dBrk, dCnt, dSeq, dDrop, dRet, dRetN, dIfS, γName, γNil, γCons, γSub, dAsg, dPar, dPar3, dAug, ιSeq_eq, ιZip, ιRng1_eq, ιRng2_eq, dFor, dLc, dLcM, dYes, dT, dTold, onBl_eq, onInt_eq, onSeq_lst, onSeq_tup, onSeq_str, onSome_eq, lstAt_same, dRaise, startD, List.map_cons, List.map_nil, List.length_cons, List.length_nil, List.replicate_succ, List.replicate_zero, List.cons_append, List.nil_append, List.append_nil, List.getElem?_cons_zero, List.getElem?_cons_succ, List.set_cons_zero, List.set_cons_succ, Nat.reduceAdd, Nat.reduceSub, Nat.zero_add, Nat.sub_self, ρEq_int, ρEq_str, ρEq_bl, ρNe_int, ρNe_str, ρNe_bl, ρEq_t3, ρNe_t3, ρEq_t2, ρNe_t2, intsOf_mapf, strsOf_mapf, blsOf_mapf, gK_01_0, gK_02_01, gK_02_10, gK_03_012, gK_03_021, gK_03_102, gK_03_120, gK_03_201, gK_03_210, gK_11_0, gK_12_01, gK_12_10, gK_13_012, gK_13_021, gK_13_102, gK_13_120, gK_13_201, gK_13_210, dLstRg, ρLstOM_eq, seqAt_lst, seqAt_tup, seqAt_ref, ρMulT_int, ρMulT_str, ρMulT_tup, ρInU_one, ρPopAt_ref, eq_self, Bool.not_true, Bool.not_false, decide_true, decide_false, strsOf_c0, strsOf_c1, strsOf_c2, strsOf_c3, strsOf_c4, strsOf_c5, strsOf_c6, strsOf_c7, strsOf_c8, intsOf_c0, intsOf_c1, intsOf_c2, intsOf_c3, intsOf_c4, intsOf_c5, intsOf_c6, intsOf_c7, intsOf_c8, blsOf_c0, blsOf_c1, blsOf_c2, blsOf_c3, blsOf_c4, blsOf_c5, blsOf_c6, blsOf_c7, blsOf_c8, ixN_30, ixN_31, ixN_32, wipeD, if_true, if_false, Bool.false_eq_true, Bool.true_eq_false, true_and, and_true, ρAdd_int, ρAdd_str, ρAdd_tup, ρAdd_lst, ρAdd_rl, ρI_int, ρI0_int, ρMul_int, ρMul_str, ρNeg_int, ρCmp_int, ρCmp_str, ρIsN_eq, ρNotN_eq, isNonD_bl, isNonD_int, isNonD_str, isNonD_tup, isNonD_lst, isNonD_ref, isNonD_non, ρSgn_one, ρAbs_int, ρMax_two, ρMin_two, ρMax_lst, ρMin_lst, ρInt_int, ρInt_bl, ρStr_int, ρLen_str, ρLen_tup, ρLen_lst, ρLen_ref, ρSum_lst, ρAll_lst, ρAny_lst, ρTupO_tup, ρTupO_lst, ρIsi_eq, is_non_int, is_non_bool, is_non_str, is_non_tuple, is_non_list, is_bl_int, is_bl_bool, is_bl_str, is_bl_tuple, is_bl_list, is_int_int, is_int_bool, is_int_str, is_int_tuple, is_int_list, is_str_int, is_str_bool, is_str_str, is_str_tuple, is_str_list, is_tup_int, is_tup_bool, is_tup_str, is_tup_tuple, is_tup_list, is_lst_int, is_lst_bool, is_lst_str, is_lst_tuple, is_lst_list, tyN_non, tyN_bl, tyN_int, tyN_str, tyN_tup, tyN_lst, ρIx_tup, ρIx_lst, ρIx_str, ρIx_ref, ρSl_str, ρSl_lst, ρSl_tup, ρApp_ref, θLst_ref, θStr_str, ςLst_ref, ρJoin_lst, γTup_tup, atI_0, atI_1, atI_2, atI_3, atI_4, atI_5, atI_6, atI_7, ρEqR_eq, ρNeR_eq, resD_non, resD_bl, resD_int, resD_str, resD_tup, resD_lst, eqA_nn, eqA_ii, eqA_bb, eqA_ss, eqA_ni, eqA_in, eqA_nb, eqA_bn, eqA_ns, eqA_sn, eqA_is, eqA_si, eqA_tt, eqA_ll, eqA_tl, eqA_lt, eqA_tn, eqA_nt, eqA_ti', eqA_it, eqA_ts, eqA_st, shB_non, shB_bl, shB_int, shB_str, shB_t63, shB_t62, shB_t61, shB_t60, shB_t59, shB_l63, shB_l62, shB_l61, shB_l60, shBs_nil, shBs_cons, shBs_append, shBs_ints, eqDs_nil, eqDs_cons, eqDs_cn, eqDs_nc, eqDs_ints, eqDs_strs, eqD_ii, eqD_bb, eqD_ss, eqD_tt, eqD_ll, eqD_nn, ρLstO_seq, ρTupO_ref, Option.isSome_some, dNewK, dNewT, dGetK, dGetT, dInK, dInT, dPutK, dPutT, dAugK, dAugT, dGet2K, dGet2T, dPop1K, onRef_eq, dkAt_same, dtAt_same, dkW_same, dtW_same, keyOf_int, keyOf_str, keysOf_ii, keysOf_iii, ιEnum_eq, onSq_tup, onSq_lst, ρLtV_int, ρLtV_str, ρLtV_tup, ρPop_ref, ρIdx_lst, dFld, dSFld, dSFldAug, dMeth, dMake, dMethK, dMakeK, dEqI, insAt_same, lkF_cons, lkF_nil, putFD_cons, putFD_nil, ρIsC_non, ρIsC_ref, ρLenD_eq, dSortIt, ρSortD_eq, ρMinD_eq, ρMaxD_eq, dMet, dTm, mem_h, mem_h2, onBool_eq, insOrNon, ρCopy_ref, ιItems, ιVals, ιKeys, lkW_same, dLockE, dLockS, ρCopyT_ref, ρInX_eq, itsD_tup, itsD_lst, itsD_ref, dStar, ρSortKI_ref, ρRemX_ref, dForM, dLcR, Cs_shape, Cs__calls, ne___eq_____calls, ne___eq____shape, ne___init_____calls, ne___init____shape, ne__calls____eq__, ne__calls____init__, ne__calls__call, ne__calls__calls, ne__calls__demand_ends, ne__calls__end, ne__calls__free_outlets, ne__calls__has_outlet, ne__calls__is_behind_free, ne__calls__is_blocked, ne__calls__is_front_free, ne__calls__look_at_ends, ne__calls__middles, ne__calls__shape, ne__calls__twin, ne__calls__ways, ne_call___calls, ne_call__shape, ne_calls___calls, ne_calls__shape, ne_demand_ends___calls, ne_demand_ends__shape, ne_end___calls, ne_end__shape, ne_free_outlets___calls, ne_free_outlets__shape, ne_has_outlet___calls, ne_has_outlet__shape, ne_is_behind_free___calls, ne_is_behind_free__shape, ne_is_blocked___calls, ne_is_blocked__shape, ne_is_front_free___calls, ne_is_front_free__shape, ne_look_at_ends___calls, ne_look_at_ends__shape, ne_middles___calls, ne_middles__shape, ne_shape____eq__, ne_shape____init__, ne_shape___calls, ne_shape__call, ne_shape__calls, ne_shape__demand_ends, ne_shape__end, ne_shape__free_outlets, ne_shape__has_outlet, ne_shape__is_behind_free, ne_shape__is_blocked, ne_shape__is_front_free, ne_shape__look_at_ends, ne_shape__middles, ne_shape__twin, ne_shape__ways, ne_twin___calls, ne_twin__shape, ne_ways___calls, ne_ways__shape, sp_is_in_eq, sp_is_tuple_eq, sp_demand_eq, sp__law_dice_eq, sp__law_roll_eq, sp__law_pick_eq, $xs,*])
local macro_rules | `(tactic| dsimp! only [$xs,*]) => `(tactic| simp only [dVar, dC, dOp, dUn, dTest_eq, dAnd, dOr, dNot, dAndV_eq, dOrV_eq, dNotV_eq, dIf, dChain_eq, dNil, dCons, dTup, dLst, dLstM, dCB, dBM, dNoPart, dPart_eq, dSl, dCall, dCallK, dNext, dBrk, dCnt, dDrop, dRet, dRetN, dIfS, γName, γNil, γCons, γSub, dAsg, dPar, dPar3, dAug, ιSeq_eq, ιZip, ιRng1_eq, ιRng2_eq, dFor, dLc, dLcM, dYes, dT, dTold, onBl_eq, onInt_eq, onSeq_lst, onSeq_tup, onSeq_str, onSome_eq, lstAt_same, dRaise, startD, List.map_cons, List.map_nil, List.length_cons, List.length_nil, List.replicate_succ, List.replicate_zero, List.cons_append, List.nil_append, List.append_nil, List.getElem?_cons_zero, List.getElem?_cons_succ, List.set_cons_zero, List.set_cons_succ, Nat.reduceAdd, Nat.reduceSub, Nat.zero_add, Nat.sub_self, ρEq_int, ρEq_str, ρEq_bl, ρNe_int, ρNe_str, ρNe_bl, ρEq_t3, ρNe_t3, ρEq_t2, ρNe_t2, intsOf_mapf, strsOf_mapf, blsOf_mapf, gK_01_0, gK_02_01, gK_02_10, gK_03_012, gK_03_021, gK_03_102, gK_03_120, gK_03_201, gK_03_210, gK_11_0, gK_12_01, gK_12_10, gK_13_012, gK_13_021, gK_13_102, gK_13_120, gK_13_201, gK_13_210, dLstRg, ρLstOM_eq, seqAt_lst, seqAt_tup, seqAt_ref, ρMulT_int, ρMulT_str, ρMulT_tup, ρInU_one, ρPopAt_ref, eq_self, Bool.not_true, Bool.not_false, decide_true, decide_false, strsOf_c0, strsOf_c1, strsOf_c2, strsOf_c3, strsOf_c4, strsOf_c5, strsOf_c6, strsOf_c7, strsOf_c8, intsOf_c0, intsOf_c1, intsOf_c2, intsOf_c3, intsOf_c4, intsOf_c5, intsOf_c6, intsOf_c7, intsOf_c8, blsOf_c0, blsOf_c1, blsOf_c2, blsOf_c3, blsOf_c4, blsOf_c5, blsOf_c6, blsOf_c7, blsOf_c8, ixN_30, ixN_31, ixN_32, wipeD, if_true, if_false, Bool.false_eq_true, Bool.true_eq_false, true_and, and_true, ρAdd_int, ρAdd_str, ρAdd_tup, ρAdd_lst, ρAdd_rl, ρI_int, ρI0_int, ρMul_int, ρMul_str, ρNeg_int, ρCmp_int, ρCmp_str, ρIsN_eq, ρNotN_eq, isNonD_bl, isNonD_int, isNonD_str, isNonD_tup, isNonD_lst, isNonD_ref, isNonD_non, ρSgn_one, ρAbs_int, ρMax_two, ρMin_two, ρMax_lst, ρMin_lst, ρInt_int, ρInt_bl, ρStr_int, ρLen_str, ρLen_tup, ρLen_lst, ρLen_ref, ρSum_lst, ρAll_lst, ρAny_lst, ρTupO_tup, ρTupO_lst, ρIsi_eq, is_non_int, is_non_bool, is_non_str, is_non_tuple, is_non_list, is_bl_int, is_bl_bool, is_bl_str, is_bl_tuple, is_bl_list, is_int_int, is_int_bool, is_int_str, is_int_tuple, is_int_list, is_str_int, is_str_bool, is_str_str, is_str_tuple, is_str_list, is_tup_int, is_tup_bool, is_tup_str, is_tup_tuple, is_tup_list, is_lst_int, is_lst_bool, is_lst_str, is_lst_tuple, is_lst_list, tyN_non, tyN_bl, tyN_int, tyN_str, tyN_tup, tyN_lst, ρIx_tup, ρIx_lst, ρIx_str, ρIx_ref, ρSl_str, ρSl_lst, ρSl_tup, ρApp_ref, θLst_ref, θStr_str, ςLst_ref, ρJoin_lst, γTup_tup, atI_0, atI_1, atI_2, atI_3, atI_4, atI_5, atI_6, atI_7, ρEqR_eq, ρNeR_eq, resD_non, resD_bl, resD_int, resD_str, resD_tup, resD_lst, eqA_nn, eqA_ii, eqA_bb, eqA_ss, eqA_ni, eqA_in, eqA_nb, eqA_bn, eqA_ns, eqA_sn, eqA_is, eqA_si, eqA_tt, eqA_ll, eqA_tl, eqA_lt, eqA_tn, eqA_nt, eqA_ti', eqA_it, eqA_ts, eqA_st, shB_non, shB_bl, shB_int, shB_str, shB_t63, shB_t62, shB_t61, shB_t60, shB_t59, shB_l63, shB_l62, shB_l61, shB_l60, shBs_nil, shBs_cons, shBs_append, shBs_ints, eqDs_nil, eqDs_cons, eqDs_cn, eqDs_nc, eqDs_ints, eqDs_strs, eqD_ii, eqD_bb, eqD_ss, eqD_tt, eqD_ll, eqD_nn, ρLstO_seq, ρTupO_ref, Option.isSome_some, dNewK, dNewT, dGetK, dGetT, dInK, dInT, dPutK, dPutT, dAugK, dAugT, dGet2K, dGet2T, dPop1K, onRef_eq, dkAt_same, dtAt_same, dkW_same, dtW_same, keyOf_int, keyOf_str, keysOf_ii, keysOf_iii, ιEnum_eq, onSq_tup, onSq_lst, ρLtV_int, ρLtV_str, ρLtV_tup, ρPop_ref, ρIdx_lst, dFld, dSFld, dSFldAug, dMeth, dMake, dMethK, dMakeK, dEqI, insAt_same, lkF_cons, lkF_nil, putFD_cons, putFD_nil, ρIsC_non, ρIsC_ref, ρLenD_eq, dSortIt, ρSortD_eq, ρMinD_eq, ρMaxD_eq, dMet, dTm, mem_h, mem_h2, onBool_eq, insOrNon, ρCopy_ref, ιItems, ιVals, ιKeys, lkW_same, dLockE, dLockS, ρCopyT_ref, ρInX_eq, itsD_tup, itsD_lst, itsD_ref, dStar, ρSortKI_ref, ρRemX_ref, dForM, dLcR, Cs_shape, Cs__calls, ne___eq_____calls, ne___eq____shape, ne___init_____calls, ne___init____shape, ne__calls____eq__, ne__calls____init__, ne__calls__call, ne__calls__calls, ne__calls__demand_ends, ne__calls__end, ne__calls__free_outlets, ne__calls__has_outlet, ne__calls__is_behind_free, ne__calls__is_blocked, ne__calls__is_front_free, ne__calls__look_at_ends, ne__calls__middles, ne__calls__shape, ne__calls__twin, ne__calls__ways, ne_call___calls, ne_call__shape, ne_calls___calls, ne_calls__shape, ne_demand_ends___calls, ne_demand_ends__shape, ne_end___calls, ne_end__shape, ne_free_outlets___calls, ne_free_outlets__shape, ne_has_outlet___calls, ne_has_outlet__shape, ne_is_behind_free___calls, ne_is_behind_free__shape, ne_is_blocked___calls, ne_is_blocked__shape, ne_is_front_free___calls, ne_is_front_free__shape, ne_look_at_ends___calls, ne_look_at_ends__shape, ne_middles___calls, ne_middles__shape, ne_shape____eq__, ne_shape____init__, ne_shape___calls, ne_shape__call, ne_shape__calls, ne_shape__demand_ends, ne_shape__end, ne_shape__free_outlets, ne_shape__has_outlet, ne_shape__is_behind_free, ne_shape__is_blocked, ne_shape__is_front_free, ne_shape__look_at_ends, ne_shape__middles, ne_shape__twin, ne_shape__ways, ne_twin___calls, ne_twin__shape, ne_ways___calls, ne_ways__shape, sp_is_in_eq, sp_is_tuple_eq, sp_demand_eq, sp__law_dice_eq, sp__law_roll_eq, sp__law_pick_eq, $xs,*])
/-! ### _law_step_right -/
theorem sc__law_step_right : FnScope ["dice", "fabric", "shape", "calls", "ends", "inlet", "outlet", "middle", "has", "call", "why"] ["dice", "fabric", "shape", "calls"] (defScope s__law_step_right) := ⟨rfl, rfl, rfl, by decide +kernel, rfl, by decide +kernel, by decide +kernel⟩
theorem bn__law_step_right (M : Mod K mg) : L2.Binds K M.f__law_step_right.choose ["dice", "fabric", "shape", "calls"] [] := fun_binds M.f__law_step_right.choose_spec fun _ _ _ _ _ _ us hl => match us, hl with | [_, _, _, _], _ => rfl
theorem can_ne {s : Shp} {cs : List C3} {i o m : Int} {u : Str} (h : canW s cs i o m = some u) : decide (u = "") = false ∧ u.length ≤ 6 := by
  unfold canW at h
  split at h
  · cases h; decide
  · split at h
    · cases h; decide
    · split at h
      · cases h; decide
      · split at h
        · cases h; decide
        · cases h
theorem loop_nil {γ : DG} {β : DS} {F : EndsD} : dLoop γ β F [] = F.nx := rfl
theorem loop_cons {γ : DG} {β : DS} {F : EndsD} {x : D} {xs : List D} : dLoop γ β F (x :: xs) = fun τ ds => γ x τ ds (β { F with nx := dLoop γ β F xs, ct := dLoop γ β F xs, bk := F.nx }) := rfl
theorem nf_c {cs : List C3} {i : Int} (h : i ∉ cs.map (·.1)) : cs.filter (fun c => decide (c.1 = i)) = [] ∧ cs.filter (fun p => !decide (p.1 = i)) = cs := by
  refine ⟨List.filter_eq_nil_iff.mpr fun c hc => ?_, List.filter_eq_self.mpr fun c hc => ?_⟩
  · have : c.1 ≠ i := fun z => h (List.mem_map.mpr ⟨c, hc, z⟩)
    simpa using this
  · have : c.1 ≠ i := fun z => h (List.mem_map.mpr ⟨c, hc, z⟩)
    simpa using this
theorem rem_c : ∀ {cs : List C3}, (cs.map (·.1)).Nodup → ∀ {i : Int}, i ∈ cs.map (·.1) → ∃ x, cs.filter (fun c => decide (c.1 = i)) = [x] ∧ ∃ j, (cs.map c3D).findIdx? (fun z => eqD z (c3D x)) = some j ∧ (cs.map c3D).eraseIdx j = (cs.filter fun p => !decide (p.1 = i)).map c3D
  | [], _, i, hi => by cases hi
  | c :: cs, nd, i, hi => by
    rw [List.map_cons, List.nodup_cons] at nd
    by_cases e : c.1 = i
    · subst e
      obtain ⟨e1, e2⟩ := nf_c nd.1
      refine ⟨c, by simp [List.filter_cons, e1], 0, ?_, ?_⟩
      · rw [List.map_cons, List.findIdx?_cons, eqD_c3]; simp
      · rw [List.map_cons, List.eraseIdx_cons_zero, List.filter_cons, e2]; simp
    · have hi : i ∈ cs.map (·.1) := by
        rw [List.map_cons, List.mem_cons] at hi
        rcases hi with z | z
        · exact absurd z.symm e
        · exact z
      obtain ⟨x, f1, j, f2, f3⟩ := rem_c nd.2 hi
      have hx : x.1 = i := by
        have : x ∈ cs.filter fun c => decide (c.1 = i) := by rw [f1]; simp
        simpa using (List.mem_filter.mp this).2
      have ne : c ≠ x := fun z => e (by rw [z, hx])
      refine ⟨x, by simp [List.filter_cons, e, f1], j + 1, ?_, ?_⟩
      · rw [List.map_cons, List.findIdx?_cons, eqD_c3, f2]; simp [ne]
      · rw [List.map_cons, List.eraseIdx_cons_succ, f3]; simp [List.filter_cons, e]
structure LS (K : PySem.W.Frag) (p a q c : Addr) (τ : TD) (zs : List D) (f : Fb) : Prop where
  dp : lstAt τ p = some zs
  fab : FabAt K τ a q f
  cl : lstAt τ c = some (f.cs.map c3D)
  pc : p ≠ c
section
variable {K : PySem.W.Frag} {p a q c : Addr} {τ τ' : TD} {zs : List D} {f : Fb}
theorem LS.pa (h : LS K p a q c τ zs f) : p ≠ a := fun z => by have := insAt_iff.mp h.fab.ins; rw [← z, lstAt_iff h.dp] at this; cases this
theorem LS.pq (h : LS K p a q c τ zs f) : p ≠ q := fun z => by have := h.fab.cs; rw [← z, lstAt_iff h.dp] at this; cases this
theorem LS.ca (h : LS K p a q c τ zs f) : c ≠ a := fun z => by have := insAt_iff.mp h.fab.ins; rw [← z, lstAt_iff h.cl] at this; cases this
theorem LS.cq (h : LS K p a q c τ zs f) : c ≠ q := fun z => by have := h.fab.cs; rw [← z, lstAt_iff h.cl] at this; cases this
theorem LS.keep {F : List Addr} (h : LS K p a q c τ zs f) (g : SubX F τ τ') (hp : p ∉ F) (ha : a ∉ F) (hq : q ∉ F) (hc : c ∉ F) : LS K p a q c τ' zs f := ⟨g.lst hp h.dp, h.fab.keep g ha hq, g.lst hc h.cl, h.pc⟩
theorem LS.new {x : Addr} {u : DO} (h : LS K p a q c τ zs f) (hx : τ x = none) : LS K p a q c (tset τ x u) zs f := h.keep (F := []) (SubX.refl.new hx) (by simp) (by simp) (by simp) (by simp)
theorem LS.setp (h : LS K p a q c τ zs f) (ys : List D) : LS K p a q c (tset τ p (.lst ys)) ys f := ⟨lstAt_same, h.fab.keep (F := [p]) (SubX.refl.set (by simp)) (not1 (Ne.symm h.pa)) (not1 (Ne.symm h.pq)), SubX.lst (F := [p]) (SubX.refl.set (by simp)) (not1 (Ne.symm h.pc)) h.cl, h.pc⟩
theorem LS.fresh (h : LS K p a q c τ zs f) {y : Addr} (hy : τ y = none) : p ≠ y ∧ a ≠ y ∧ q ≠ y ∧ c ≠ y := ⟨sub_ne' (lstAt_iff h.dp) hy, sub_ne' (insAt_iff.mp h.fab.ins) hy, sub_ne' h.fab.cs hy, sub_ne' (lstAt_iff h.cl) hy⟩
/-- the fabric and the own calls go on together -/
theorem LS.both {f' : Fb} (h : LS K p a q c τ zs f) (g : SubX [a, q] τ τ') (B : FabAt K τ' a q f') : LS K p a q c (tset τ' c (.lst (f'.cs.map c3D))) zs f' :=
  ⟨SubX.lst (F := [a, q, c]) (SubX.set (g.mono (by simp)) (by simp)) (by have := h.pa; have := h.pq; have := h.pc; simp; exact ⟨h.pa, h.pq, h.pc⟩) h.dp, B.keep (F := [c]) (SubX.refl.set (by simp)) (not1 (Ne.symm h.ca)) (not1 (Ne.symm h.cq)), lstAt_same, h.pc⟩
end
def sp__law_step_right (K : PySem.W.Frag) : SpD := fun τ ds k KE => ∃ (p a c : Addr) (q : Addr) (s : Shp) (cs : List C3), ds = [.ref p, .ref a, shD s, .ref c] ∧ ((∃ m zs, Dc m zs ∧ m ≤ 100000 ∧ s.ends ≤ 16 ∧ LS K p a q c τ zs ⟨s, cs⟩ ∧ Fb.Ok ⟨s, cs⟩ ∧ ∀ τ' ys cs', Dc (m + 4) ys → LS K p a q c τ' ys ⟨s, cs'⟩ → Fb.Ok ⟨s, cs'⟩ → SubX [p, a, q, c] τ τ' → k τ' (.bl true)))
theorem sp__law_step_right_of {K : PySem.W.Frag} {τ : TD} {k : DK} {KE : XD} {p a c : Addr} {q : Addr} {s : Shp} {cs : List C3} (h_ : (∃ m zs, Dc m zs ∧ m ≤ 100000 ∧ s.ends ≤ 16 ∧ LS K p a q c τ zs ⟨s, cs⟩ ∧ Fb.Ok ⟨s, cs⟩ ∧ ∀ τ' ys cs', Dc (m + 4) ys → LS K p a q c τ' ys ⟨s, cs'⟩ → Fb.Ok ⟨s, cs'⟩ → SubX [p, a, q, c] τ τ' → k τ' (.bl true))) : sp__law_step_right K τ [.ref p, .ref a, shD s, .ref c] k KE := ⟨_, _, _, _, _, _, rfl, h_⟩
theorem kb_Fabric_end_1_inlet (M : Mod K mg) : KBinds K M.f_Fabric_end.choose ["self", "inlet"] ["inlet"] (gK 1 1 [0]) (gK 1 1 [0]) := kb_of M.f_Fabric_end.choose_spec 1 1 [0] (by decide) fun _ _ _ _ _ _ us ws h1 h2 => match us, ws, h1, h2 with | [_], [_], _, _ => rfl
theorem kb_Fabric_middles_1_outlet_inlet (M : Mod K mg) : KBinds K M.f_Fabric_middles.choose ["self", "inlet", "outlet"] ["outlet", "inlet"] (gK 1 2 [1, 0]) (gK 1 2 [1, 0]) := kb_of M.f_Fabric_middles.choose_spec 1 2 [1, 0] (by decide) fun _ _ _ _ _ _ us ws h1 h2 => match us, ws, h1, h2 with | [_], [_, _], _, _ => rfl
theorem ok__law_step_right (M : Mod K mg) (TB__law_step_right : LamX.TabB base mg (He.cT K ("_law_step_right", none)).1 (He.cT K ("_law_step_right", none)).2) : FnD prog w K mg base (TT K) 7 (He.fAd K ("_law_step_right", none)) M.f__law_step_right.choose ["dice", "fabric", "shape", "calls"] (sp__law_step_right K) := by
  refine fnD_ofL M.f__law_step_right.choose_spec sc__law_step_right fun KE => ⟨_, fun A outer s H E hr => (pdss_cons (pds_set (i := 4) sc__law_step_right.nd rfl (by first | exact .inl rfl | exact .inr rfl) (pd_op op_mulT ok_mulT (pd_ix ix_seq ok_ix (pd_var (pv 2)) pd_int) (pd_ix ix_seq ok_ix (pd_var (pv 2)) pd_int))) (pdss_cons (pds_asg (pd_tup (pda_cons (pd_call (ok__law_roll M) (hr.mono (by decide)) rfl M.g__law_roll M.f__law_roll.choose_spec.kp (bn__law_roll M) .nil .nil passD (pda_cons (pd_var (pv 0)) (pda_cons (pd_var (pv 4)) pda_nil))) (pda_cons (pd_call (ok__law_roll M) (hr.mono (by decide)) rfl M.g__law_roll M.f__law_roll.choose_spec.kp (bn__law_roll M) .nil .nil passD (pda_cons (pd_var (pv 0)) (pda_cons (pd_var (pv 4)) pda_nil))) (pda_cons (pd_call (ok__law_roll M) (hr.mono (by decide)) rfl M.g__law_roll M.f__law_roll.choose_spec.kp (bn__law_roll M) .nil .nil passD (pda_cons (pd_var (pv 0)) (pda_cons (pd_ix ix_seq ok_ix (pd_var (pv 2)) pd_int) pda_nil))) pda_nil)))) (pdg_tup (n := 3) rfl (pdgs_cons (pdg_name (i := 5) sc__law_step_right.nd rfl (by first | exact .inl rfl | exact .inr rfl)) (pdgs_cons (pdg_name (i := 6) sc__law_step_right.nd rfl (by first | exact .inl rfl | exact .inr rfl)) (pdgs_cons (pdg_name (i := 7) sc__law_step_right.nd rfl (by first | exact .inl rfl | exact .inr rfl)) pdgs_nil))))) (pdss_cons (pds_if (pdt_cmp (op_eqU (room_eq hr)) ok_eqR (pd_call (ok__law_roll M) (hr.mono (by decide)) rfl M.g__law_roll M.f__law_roll.choose_spec.kp (bn__law_roll M) .nil .nil passD (pda_cons (pd_var (pv 0)) (pda_cons pd_int pda_nil))) pd_int (nomark _)) (pdss_cons (pds_setLcR (i := 8) rfl sc__law_step_right.nd rfl rfl rfl (pd_var (pv 3)) (show BlkOk ["dice", "fabric", "shape", "calls", "ends", "inlet", "outlet", "middle", "has", "call", "why"] (defScope s__law_step_right) _ [("call", 9)] from blk_of (by decide +kernel)) (fun _ _ _ _ _ => pdn_name (i := 9) sc__law_step_right.nd rfl (by first | exact .inl rfl | exact .inr rfl) (by decide)) (fun _ _ _ _ _ => pdts_one (pdt_cmp (op_eqU (room_eq hr)) ok_eqR (pd_ix ix_seq ok_ix (pd_var (pv 9)) pd_int) (pd_var (pv 5)) (nomark _))) (fun _ _ _ _ _ => (pd_var (pv 9)))) (pdss_cons (pds_if (pdt_cmp (op_neU (room_eq hr)) ok_neR (toldm M rfl rfl rfl TB__law_step_right rfl ttm__law_step_right (tt__law_step_right M) (k := 3) (hr.mono (by decide)) (show LamX.LamS (defScope s__law_step_right) _ from LamX.lamS_by (by decide +kernel)) rfl (fun _ _ _ _ _ => rfl) fun A outer s H E f c' KE hr2 => (pd_methK M.cl_Fabric M.me_Fabric_end (ok_Fabric_end M) (hr2.mono (by decide)) (kb_Fabric_end_1_inlet M) passLm (pd_var (pv 1)) (pdkc (pd_var (pv 5)) pdk_nil))) (pd_if (pdt_cmp (op_neU (room_eq hr)) ok_neR (pd_var (pv 8)) (pd_lst pda_nil) (nomark _)) pd_non pd_str) (nomark _)) (pdss_one (pds_ret pd_bl)) pdss_nil) (pdss_cons (pds_for ownD rfl (pdi_seq (pd_var (pv 8))) (pdg_name (i := 9) sc__law_step_right.nd rfl (by first | exact .inl rfl | exact .inr rfl)) (pdss_one (pds_expr (pd_bm PySem.F.plainAttrs_list PySem.F.slot_list_remove PySem.F.type_list_remove (mt_removeX (room65 hr)) ok_removeX ty_lst (pd_var (pv 3)) (pda_cons (pd_var (pv 9)) pda_nil))))) (pdss_one (pds_ret pd_bl))))) pdss_nil) (pdss_cons (pds_if (pdt_cmp (op_neU (room_eq hr)) ok_neR (toldm M rfl rfl rfl TB__law_step_right rfl ttm__law_step_right (tt__law_step_right M) (k := 4) (hr.mono (by decide)) (show LamX.LamS (defScope s__law_step_right) _ from LamX.lamS_by (by decide +kernel)) rfl (fun _ _ _ _ _ => rfl) fun A outer s H E f c' KE hr2 => (pd_methK M.cl_Fabric M.me_Fabric_middles (ok_Fabric_middles M) (hr2.mono (by decide)) (kb_Fabric_middles_1_outlet_inlet M) passLm (pd_var (pv 1)) (pdkc (pd_var (pv 6)) (pdkc (pd_var (pv 5)) pdk_nil)))) (pd_call (ok__law_middles_due M) (hr.mono (by decide)) rfl M.g__law_middles_due M.f__law_middles_due.choose_spec.kp (bn__law_middles_due M) .nil .nil passD (pda_cons (pd_var (pv 2)) (pda_cons (pd_var (pv 3)) (pda_cons (pd_var (pv 5)) (pda_cons (pd_var (pv 6)) pda_nil))))) (nomark _)) (pdss_one (pds_ret pd_bl)) pdss_nil) (pdss_cons (pds_set (i := 10) sc__law_step_right.nd rfl (by first | exact .inl rfl | exact .inr rfl) (pd_call (ok__law_r_can M) (hr.mono (by decide)) rfl M.g__law_r_can M.f__law_r_can.choose_spec.kp (bn__law_r_can M) .nil .nil passD (pda_cons (pd_var (pv 2)) (pda_cons (pd_var (pv 3)) (pda_cons (pd_var (pv 5)) (pda_cons (pd_var (pv 6)) (pda_cons (pd_var (pv 7)) pda_nil))))))) (pdss_cons (pds_if (pdt_cmp (op_neU (room_eq hr)) ok_neR (toldm M rfl rfl rfl TB__law_step_right rfl ttm__law_step_right (tt__law_step_right M) (k := 4) (hr.mono (by decide)) (show LamX.LamS (defScope s__law_step_right) _ from LamX.lamS_by (by decide +kernel)) rfl (fun _ _ _ _ _ => rfl) fun A outer s H E f c' KE hr2 => (pd_meth M.cl_Fabric M.me_Fabric_call (ok_Fabric_call M) (hr2.mono (by decide)) (bn_Fabric_call M) .nil .nil passLm (pd_var (pv 1)) (pda_cons (pd_var (pv 5)) (pda_cons (pd_var (pv 6)) (pda_cons (pd_var (pv 7)) pda_nil))))) (pd_if (pdt_cmp (op_eqU (room_eq hr)) ok_eqR (pd_var (pv 10)) pd_str (nomark _)) pd_non (pd_op op_addU ok_add pd_str (pd_var (pv 10)))) (nomark _)) (pdss_one (pds_ret pd_bl)) pdss_nil) (pdss_cons (pds_if (pdt_cmp (op_eqU (room_eq hr)) ok_eqR (pd_var (pv 10)) pd_str (nomark _)) (pdss_one (pds_expr (pd_bm PySem.F.plainAttrs_list PySem.F.slot_list_append PySem.F.type_list_append mt_append ok_app ty_lst (pd_var (pv 3)) (pda_cons (pd_tup (pda_cons (pd_var (pv 5)) (pda_cons (pd_var (pv 6)) (pda_cons (pd_var (pv 7)) pda_nil)))) pda_nil)))) pdss_nil) (pdss_one (pds_ret pd_bl))))))))), ?_⟩
  intro τ ds k hl h
  unfold sp__law_step_right at h
  obtain ⟨p, a, c, q, s, cs, rfl, hh⟩ := h
  obtain ⟨m, zs, hd, hm, he, h, ok, hk⟩ := hh
  have oe : 1 ≤ s.ends ∧ s.ends ≤ 64 := ok.s.e
  have hl : cs.length ≤ 60 := ok.len
  have on : 1 ≤ s.n ∧ s.n ≤ 8 := ok.s.n
  have om : 1 ≤ s.m ∧ s.m ≤ 20 := ok.s.m
  have or : 1 ≤ s.r ∧ s.r ≤ 8 := ok.s.r
  have ix0 : ∀ (τ : TD) (k : DK), ρIx τ (shD s) (.int 0) k = k τ (.int s.n) := fun τ k => by simp only [shD, dVar, dC, dOp, dUn, dTest_eq, dAnd, dOr, dNot, dAndV_eq, dOrV_eq, dNotV_eq, dIf, dChain_eq, dNil, dCons, dTup, dLst, dLstM, dCB, dBM, dNoPart, dPart_eq, dSl, dCall, dCallK, dNext, dBrk, dCnt, dSeq, dDrop, dRet, dRetN, dIfS, γName, γNil, γCons, γSub, dAsg, dPar, dPar3, dAug, ιSeq_eq, ιZip, ιRng1_eq, ιRng2_eq, dFor, dLc, dLcM, dYes, dT, dTold, onBl_eq, onInt_eq, onSeq_lst, onSeq_tup, onSeq_str, onSome_eq, lstAt_same, dRaise, startD, List.map_cons, List.map_nil, List.length_cons, List.length_nil, List.replicate_succ, List.replicate_zero, List.cons_append, List.nil_append, List.append_nil, List.getElem?_cons_zero, List.getElem?_cons_succ, List.set_cons_zero, List.set_cons_succ, Nat.reduceAdd, Nat.reduceSub, Nat.zero_add, Nat.sub_self, ρEq_int, ρEq_str, ρEq_bl, ρNe_int, ρNe_str, ρNe_bl, ρEq_t3, ρNe_t3, ρEq_t2, ρNe_t2, intsOf_mapf, strsOf_mapf, blsOf_mapf, gK_01_0, gK_02_01, gK_02_10, gK_03_012, gK_03_021, gK_03_102, gK_03_120, gK_03_201, gK_03_210, gK_11_0, gK_12_01, gK_12_10, gK_13_012, gK_13_021, gK_13_102, gK_13_120, gK_13_201, gK_13_210, dLstRg, ρLstOM_eq, seqAt_lst, seqAt_tup, seqAt_ref, ρMulT_int, ρMulT_str, ρMulT_tup, ρInU_one, ρPopAt_ref, eq_self, Bool.not_true, Bool.not_false, decide_true, decide_false, strsOf_c0, strsOf_c1, strsOf_c2, strsOf_c3, strsOf_c4, strsOf_c5, strsOf_c6, strsOf_c7, strsOf_c8, intsOf_c0, intsOf_c1, intsOf_c2, intsOf_c3, intsOf_c4, intsOf_c5, intsOf_c6, intsOf_c7, intsOf_c8, blsOf_c0, blsOf_c1, blsOf_c2, blsOf_c3, blsOf_c4, blsOf_c5, blsOf_c6, blsOf_c7, blsOf_c8, ixN_30, ixN_31, ixN_32, wipeD, if_true, if_false, Bool.false_eq_true, Bool.true_eq_false, true_and, and_true, ρAdd_int, ρAdd_str, ρAdd_tup, ρAdd_lst, ρAdd_rl, ρI_int, ρI0_int, ρMul_int, ρMul_str, ρNeg_int, ρCmp_int, ρCmp_str, ρIsN_eq, ρNotN_eq, isNonD_bl, isNonD_int, isNonD_str, isNonD_tup, isNonD_lst, isNonD_ref, isNonD_non, ρSgn_one, ρAbs_int, ρMax_two, ρMin_two, ρMax_lst, ρMin_lst, ρInt_int, ρInt_bl, ρStr_int, ρLen_str, ρLen_tup, ρLen_lst, ρLen_ref, ρSum_lst, ρAll_lst, ρAny_lst, ρTupO_tup, ρTupO_lst, ρIsi_eq, is_non_int, is_non_bool, is_non_str, is_non_tuple, is_non_list, is_bl_int, is_bl_bool, is_bl_str, is_bl_tuple, is_bl_list, is_int_int, is_int_bool, is_int_str, is_int_tuple, is_int_list, is_str_int, is_str_bool, is_str_str, is_str_tuple, is_str_list, is_tup_int, is_tup_bool, is_tup_str, is_tup_tuple, is_tup_list, is_lst_int, is_lst_bool, is_lst_str, is_lst_tuple, is_lst_list, tyN_non, tyN_bl, tyN_int, tyN_str, tyN_tup, tyN_lst, ρIx_tup, ρIx_lst, ρIx_str, ρIx_ref, ρSl_str, ρSl_lst, ρSl_tup, ρApp_ref, θLst_ref, θStr_str, ςLst_ref, ρJoin_lst, γTup_tup, atI_0, atI_1, atI_2, atI_3, atI_4, atI_5, atI_6, atI_7, ρEqR_eq, ρNeR_eq, resD_non, resD_bl, resD_int, resD_str, resD_tup, resD_lst, eqA_nn, eqA_ii, eqA_bb, eqA_ss, eqA_ni, eqA_in, eqA_nb, eqA_bn, eqA_ns, eqA_sn, eqA_is, eqA_si, eqA_tt, eqA_ll, eqA_tl, eqA_lt, eqA_tn, eqA_nt, eqA_ti', eqA_it, eqA_ts, eqA_st, shB_non, shB_bl, shB_int, shB_str, shB_t63, shB_t62, shB_t61, shB_t60, shB_t59, shB_l63, shB_l62, shB_l61, shB_l60, shBs_nil, shBs_cons, shBs_append, shBs_ints, eqDs_nil, eqDs_cons, eqDs_cn, eqDs_nc, eqDs_ints, eqDs_strs, eqD_ii, eqD_bb, eqD_ss, eqD_tt, eqD_ll, eqD_nn, ρLstO_seq, ρTupO_ref, Option.isSome_some, dNewK, dNewT, dGetK, dGetT, dInK, dInT, dPutK, dPutT, dAugK, dAugT, dGet2K, dGet2T, dPop1K, onRef_eq, dkAt_same, dtAt_same, dkW_same, dtW_same, keyOf_int, keyOf_str, keysOf_ii, keysOf_iii, ιEnum_eq, onSq_tup, onSq_lst, ρLtV_int, ρLtV_str, ρLtV_tup, ρPop_ref, ρIdx_lst, dFld, dSFld, dSFldAug, dMeth, dMake, dMethK, dMakeK, dEqI, insAt_same, lkF_cons, lkF_nil, putFD_cons, putFD_nil, ρIsC_non, ρIsC_ref, ρLenD_eq, dSortIt, ρSortD_eq, ρMinD_eq, ρMaxD_eq, dMet, dTm, mem_h, mem_h2, onBool_eq, insOrNon, ρCopy_ref, ιItems, ιVals, ιKeys, lkW_same, dLockE, dLockS, ρCopyT_ref, ρInX_eq, itsD_tup, itsD_lst, itsD_ref, dStar, ρSortKI_ref, ρRemX_ref, dForM, dLcR, Cs_shape, Cs__calls, ne___eq_____calls, ne___eq____shape, ne___init_____calls, ne___init____shape, ne__calls____eq__, ne__calls____init__, ne__calls__call, ne__calls__calls, ne__calls__demand_ends, ne__calls__end, ne__calls__free_outlets, ne__calls__has_outlet, ne__calls__is_behind_free, ne__calls__is_blocked, ne__calls__is_front_free, ne__calls__look_at_ends, ne__calls__middles, ne__calls__shape, ne__calls__twin, ne__calls__ways, ne_call___calls, ne_call__shape, ne_calls___calls, ne_calls__shape, ne_demand_ends___calls, ne_demand_ends__shape, ne_end___calls, ne_end__shape, ne_free_outlets___calls, ne_free_outlets__shape, ne_has_outlet___calls, ne_has_outlet__shape, ne_is_behind_free___calls, ne_is_behind_free__shape, ne_is_blocked___calls, ne_is_blocked__shape, ne_is_front_free___calls, ne_is_front_free__shape, ne_look_at_ends___calls, ne_look_at_ends__shape, ne_middles___calls, ne_middles__shape, ne_shape____eq__, ne_shape____init__, ne_shape___calls, ne_shape__call, ne_shape__calls, ne_shape__demand_ends, ne_shape__end, ne_shape__free_outlets, ne_shape__has_outlet, ne_shape__is_behind_free, ne_shape__is_blocked, ne_shape__is_front_free, ne_shape__look_at_ends, ne_shape__middles, ne_shape__twin, ne_shape__ways, ne_twin___calls, ne_twin__shape, ne_ways___calls, ne_ways__shape, sp_is_in_eq, sp_is_tuple_eq, sp_demand_eq, sp__law_dice_eq, sp__law_roll_eq, sp__law_pick_eq]
  have ix1 : ∀ (τ : TD) (k : DK), ρIx τ (shD s) (.int 1) k = k τ (.int s.m) := fun τ k => by simp only [shD, dVar, dC, dOp, dUn, dTest_eq, dAnd, dOr, dNot, dAndV_eq, dOrV_eq, dNotV_eq, dIf, dChain_eq, dNil, dCons, dTup, dLst, dLstM, dCB, dBM, dNoPart, dPart_eq, dSl, dCall, dCallK, dNext, dBrk, dCnt, dSeq, dDrop, dRet, dRetN, dIfS, γName, γNil, γCons, γSub, dAsg, dPar, dPar3, dAug, ιSeq_eq, ιZip, ιRng1_eq, ιRng2_eq, dFor, dLc, dLcM, dYes, dT, dTold, onBl_eq, onInt_eq, onSeq_lst, onSeq_tup, onSeq_str, onSome_eq, lstAt_same, dRaise, startD, List.map_cons, List.map_nil, List.length_cons, List.length_nil, List.replicate_succ, List.replicate_zero, List.cons_append, List.nil_append, List.append_nil, List.getElem?_cons_zero, List.getElem?_cons_succ, List.set_cons_zero, List.set_cons_succ, Nat.reduceAdd, Nat.reduceSub, Nat.zero_add, Nat.sub_self, ρEq_int, ρEq_str, ρEq_bl, ρNe_int, ρNe_str, ρNe_bl, ρEq_t3, ρNe_t3, ρEq_t2, ρNe_t2, intsOf_mapf, strsOf_mapf, blsOf_mapf, gK_01_0, gK_02_01, gK_02_10, gK_03_012, gK_03_021, gK_03_102, gK_03_120, gK_03_201, gK_03_210, gK_11_0, gK_12_01, gK_12_10, gK_13_012, gK_13_021, gK_13_102, gK_13_120, gK_13_201, gK_13_210, dLstRg, ρLstOM_eq, seqAt_lst, seqAt_tup, seqAt_ref, ρMulT_int, ρMulT_str, ρMulT_tup, ρInU_one, ρPopAt_ref, eq_self, Bool.not_true, Bool.not_false, decide_true, decide_false, strsOf_c0, strsOf_c1, strsOf_c2, strsOf_c3, strsOf_c4, strsOf_c5, strsOf_c6, strsOf_c7, strsOf_c8, intsOf_c0, intsOf_c1, intsOf_c2, intsOf_c3, intsOf_c4, intsOf_c5, intsOf_c6, intsOf_c7, intsOf_c8, blsOf_c0, blsOf_c1, blsOf_c2, blsOf_c3, blsOf_c4, blsOf_c5, blsOf_c6, blsOf_c7, blsOf_c8, ixN_30, ixN_31, ixN_32, wipeD, if_true, if_false, Bool.false_eq_true, Bool.true_eq_false, true_and, and_true, ρAdd_int, ρAdd_str, ρAdd_tup, ρAdd_lst, ρAdd_rl, ρI_int, ρI0_int, ρMul_int, ρMul_str, ρNeg_int, ρCmp_int, ρCmp_str, ρIsN_eq, ρNotN_eq, isNonD_bl, isNonD_int, isNonD_str, isNonD_tup, isNonD_lst, isNonD_ref, isNonD_non, ρSgn_one, ρAbs_int, ρMax_two, ρMin_two, ρMax_lst, ρMin_lst, ρInt_int, ρInt_bl, ρStr_int, ρLen_str, ρLen_tup, ρLen_lst, ρLen_ref, ρSum_lst, ρAll_lst, ρAny_lst, ρTupO_tup, ρTupO_lst, ρIsi_eq, is_non_int, is_non_bool, is_non_str, is_non_tuple, is_non_list, is_bl_int, is_bl_bool, is_bl_str, is_bl_tuple, is_bl_list, is_int_int, is_int_bool, is_int_str, is_int_tuple, is_int_list, is_str_int, is_str_bool, is_str_str, is_str_tuple, is_str_list, is_tup_int, is_tup_bool, is_tup_str, is_tup_tuple, is_tup_list, is_lst_int, is_lst_bool, is_lst_str, is_lst_tuple, is_lst_list, tyN_non, tyN_bl, tyN_int, tyN_str, tyN_tup, tyN_lst, ρIx_tup, ρIx_lst, ρIx_str, ρIx_ref, ρSl_str, ρSl_lst, ρSl_tup, ρApp_ref, θLst_ref, θStr_str, ςLst_ref, ρJoin_lst, γTup_tup, atI_0, atI_1, atI_2, atI_3, atI_4, atI_5, atI_6, atI_7, ρEqR_eq, ρNeR_eq, resD_non, resD_bl, resD_int, resD_str, resD_tup, resD_lst, eqA_nn, eqA_ii, eqA_bb, eqA_ss, eqA_ni, eqA_in, eqA_nb, eqA_bn, eqA_ns, eqA_sn, eqA_is, eqA_si, eqA_tt, eqA_ll, eqA_tl, eqA_lt, eqA_tn, eqA_nt, eqA_ti', eqA_it, eqA_ts, eqA_st, shB_non, shB_bl, shB_int, shB_str, shB_t63, shB_t62, shB_t61, shB_t60, shB_t59, shB_l63, shB_l62, shB_l61, shB_l60, shBs_nil, shBs_cons, shBs_append, shBs_ints, eqDs_nil, eqDs_cons, eqDs_cn, eqDs_nc, eqDs_ints, eqDs_strs, eqD_ii, eqD_bb, eqD_ss, eqD_tt, eqD_ll, eqD_nn, ρLstO_seq, ρTupO_ref, Option.isSome_some, dNewK, dNewT, dGetK, dGetT, dInK, dInT, dPutK, dPutT, dAugK, dAugT, dGet2K, dGet2T, dPop1K, onRef_eq, dkAt_same, dtAt_same, dkW_same, dtW_same, keyOf_int, keyOf_str, keysOf_ii, keysOf_iii, ιEnum_eq, onSq_tup, onSq_lst, ρLtV_int, ρLtV_str, ρLtV_tup, ρPop_ref, ρIdx_lst, dFld, dSFld, dSFldAug, dMeth, dMake, dMethK, dMakeK, dEqI, insAt_same, lkF_cons, lkF_nil, putFD_cons, putFD_nil, ρIsC_non, ρIsC_ref, ρLenD_eq, dSortIt, ρSortD_eq, ρMinD_eq, ρMaxD_eq, dMet, dTm, mem_h, mem_h2, onBool_eq, insOrNon, ρCopy_ref, ιItems, ιVals, ιKeys, lkW_same, dLockE, dLockS, ρCopyT_ref, ρInX_eq, itsD_tup, itsD_lst, itsD_ref, dStar, ρSortKI_ref, ρRemX_ref, dForM, dLcR, Cs_shape, Cs__calls, ne___eq_____calls, ne___eq____shape, ne___init_____calls, ne___init____shape, ne__calls____eq__, ne__calls____init__, ne__calls__call, ne__calls__calls, ne__calls__demand_ends, ne__calls__end, ne__calls__free_outlets, ne__calls__has_outlet, ne__calls__is_behind_free, ne__calls__is_blocked, ne__calls__is_front_free, ne__calls__look_at_ends, ne__calls__middles, ne__calls__shape, ne__calls__twin, ne__calls__ways, ne_call___calls, ne_call__shape, ne_calls___calls, ne_calls__shape, ne_demand_ends___calls, ne_demand_ends__shape, ne_end___calls, ne_end__shape, ne_free_outlets___calls, ne_free_outlets__shape, ne_has_outlet___calls, ne_has_outlet__shape, ne_is_behind_free___calls, ne_is_behind_free__shape, ne_is_blocked___calls, ne_is_blocked__shape, ne_is_front_free___calls, ne_is_front_free__shape, ne_look_at_ends___calls, ne_look_at_ends__shape, ne_middles___calls, ne_middles__shape, ne_shape____eq__, ne_shape____init__, ne_shape___calls, ne_shape__call, ne_shape__calls, ne_shape__demand_ends, ne_shape__end, ne_shape__free_outlets, ne_shape__has_outlet, ne_shape__is_behind_free, ne_shape__is_blocked, ne_shape__is_front_free, ne_shape__look_at_ends, ne_shape__middles, ne_shape__twin, ne_shape__ways, ne_twin___calls, ne_twin__shape, ne_ways___calls, ne_ways__shape, sp_is_in_eq, sp_is_tuple_eq, sp_demand_eq, sp__law_dice_eq, sp__law_roll_eq, sp__law_pick_eq]
  have ix2 : ∀ (τ : TD) (k : DK), ρIx τ (shD s) (.int 2) k = k τ (.int s.r) := fun τ k => by simp only [shD, dVar, dC, dOp, dUn, dTest_eq, dAnd, dOr, dNot, dAndV_eq, dOrV_eq, dNotV_eq, dIf, dChain_eq, dNil, dCons, dTup, dLst, dLstM, dCB, dBM, dNoPart, dPart_eq, dSl, dCall, dCallK, dNext, dBrk, dCnt, dSeq, dDrop, dRet, dRetN, dIfS, γName, γNil, γCons, γSub, dAsg, dPar, dPar3, dAug, ιSeq_eq, ιZip, ιRng1_eq, ιRng2_eq, dFor, dLc, dLcM, dYes, dT, dTold, onBl_eq, onInt_eq, onSeq_lst, onSeq_tup, onSeq_str, onSome_eq, lstAt_same, dRaise, startD, List.map_cons, List.map_nil, List.length_cons, List.length_nil, List.replicate_succ, List.replicate_zero, List.cons_append, List.nil_append, List.append_nil, List.getElem?_cons_zero, List.getElem?_cons_succ, List.set_cons_zero, List.set_cons_succ, Nat.reduceAdd, Nat.reduceSub, Nat.zero_add, Nat.sub_self, ρEq_int, ρEq_str, ρEq_bl, ρNe_int, ρNe_str, ρNe_bl, ρEq_t3, ρNe_t3, ρEq_t2, ρNe_t2, intsOf_mapf, strsOf_mapf, blsOf_mapf, gK_01_0, gK_02_01, gK_02_10, gK_03_012, gK_03_021, gK_03_102, gK_03_120, gK_03_201, gK_03_210, gK_11_0, gK_12_01, gK_12_10, gK_13_012, gK_13_021, gK_13_102, gK_13_120, gK_13_201, gK_13_210, dLstRg, ρLstOM_eq, seqAt_lst, seqAt_tup, seqAt_ref, ρMulT_int, ρMulT_str, ρMulT_tup, ρInU_one, ρPopAt_ref, eq_self, Bool.not_true, Bool.not_false, decide_true, decide_false, strsOf_c0, strsOf_c1, strsOf_c2, strsOf_c3, strsOf_c4, strsOf_c5, strsOf_c6, strsOf_c7, strsOf_c8, intsOf_c0, intsOf_c1, intsOf_c2, intsOf_c3, intsOf_c4, intsOf_c5, intsOf_c6, intsOf_c7, intsOf_c8, blsOf_c0, blsOf_c1, blsOf_c2, blsOf_c3, blsOf_c4, blsOf_c5, blsOf_c6, blsOf_c7, blsOf_c8, ixN_30, ixN_31, ixN_32, wipeD, if_true, if_false, Bool.false_eq_true, Bool.true_eq_false, true_and, and_true, ρAdd_int, ρAdd_str, ρAdd_tup, ρAdd_lst, ρAdd_rl, ρI_int, ρI0_int, ρMul_int, ρMul_str, ρNeg_int, ρCmp_int, ρCmp_str, ρIsN_eq, ρNotN_eq, isNonD_bl, isNonD_int, isNonD_str, isNonD_tup, isNonD_lst, isNonD_ref, isNonD_non, ρSgn_one, ρAbs_int, ρMax_two, ρMin_two, ρMax_lst, ρMin_lst, ρInt_int, ρInt_bl, ρStr_int, ρLen_str, ρLen_tup, ρLen_lst, ρLen_ref, ρSum_lst, ρAll_lst, ρAny_lst, ρTupO_tup, ρTupO_lst, ρIsi_eq, is_non_int, is_non_bool, is_non_str, is_non_tuple, is_non_list, is_bl_int, is_bl_bool, is_bl_str, is_bl_tuple, is_bl_list, is_int_int, is_int_bool, is_int_str, is_int_tuple, is_int_list, is_str_int, is_str_bool, is_str_str, is_str_tuple, is_str_list, is_tup_int, is_tup_bool, is_tup_str, is_tup_tuple, is_tup_list, is_lst_int, is_lst_bool, is_lst_str, is_lst_tuple, is_lst_list, tyN_non, tyN_bl, tyN_int, tyN_str, tyN_tup, tyN_lst, ρIx_tup, ρIx_lst, ρIx_str, ρIx_ref, ρSl_str, ρSl_lst, ρSl_tup, ρApp_ref, θLst_ref, θStr_str, ςLst_ref, ρJoin_lst, γTup_tup, atI_0, atI_1, atI_2, atI_3, atI_4, atI_5, atI_6, atI_7, ρEqR_eq, ρNeR_eq, resD_non, resD_bl, resD_int, resD_str, resD_tup, resD_lst, eqA_nn, eqA_ii, eqA_bb, eqA_ss, eqA_ni, eqA_in, eqA_nb, eqA_bn, eqA_ns, eqA_sn, eqA_is, eqA_si, eqA_tt, eqA_ll, eqA_tl, eqA_lt, eqA_tn, eqA_nt, eqA_ti', eqA_it, eqA_ts, eqA_st, shB_non, shB_bl, shB_int, shB_str, shB_t63, shB_t62, shB_t61, shB_t60, shB_t59, shB_l63, shB_l62, shB_l61, shB_l60, shBs_nil, shBs_cons, shBs_append, shBs_ints, eqDs_nil, eqDs_cons, eqDs_cn, eqDs_nc, eqDs_ints, eqDs_strs, eqD_ii, eqD_bb, eqD_ss, eqD_tt, eqD_ll, eqD_nn, ρLstO_seq, ρTupO_ref, Option.isSome_some, dNewK, dNewT, dGetK, dGetT, dInK, dInT, dPutK, dPutT, dAugK, dAugT, dGet2K, dGet2T, dPop1K, onRef_eq, dkAt_same, dtAt_same, dkW_same, dtW_same, keyOf_int, keyOf_str, keysOf_ii, keysOf_iii, ιEnum_eq, onSq_tup, onSq_lst, ρLtV_int, ρLtV_str, ρLtV_tup, ρPop_ref, ρIdx_lst, dFld, dSFld, dSFldAug, dMeth, dMake, dMethK, dMakeK, dEqI, insAt_same, lkF_cons, lkF_nil, putFD_cons, putFD_nil, ρIsC_non, ρIsC_ref, ρLenD_eq, dSortIt, ρSortD_eq, ρMinD_eq, ρMaxD_eq, dMet, dTm, mem_h, mem_h2, onBool_eq, insOrNon, ρCopy_ref, ιItems, ιVals, ιKeys, lkW_same, dLockE, dLockS, ρCopyT_ref, ρInX_eq, itsD_tup, itsD_lst, itsD_ref, dStar, ρSortKI_ref, ρRemX_ref, dForM, dLcR, Cs_shape, Cs__calls, ne___eq_____calls, ne___eq____shape, ne___init_____calls, ne___init____shape, ne__calls____eq__, ne__calls____init__, ne__calls__call, ne__calls__calls, ne__calls__demand_ends, ne__calls__end, ne__calls__free_outlets, ne__calls__has_outlet, ne__calls__is_behind_free, ne__calls__is_blocked, ne__calls__is_front_free, ne__calls__look_at_ends, ne__calls__middles, ne__calls__shape, ne__calls__twin, ne__calls__ways, ne_call___calls, ne_call__shape, ne_calls___calls, ne_calls__shape, ne_demand_ends___calls, ne_demand_ends__shape, ne_end___calls, ne_end__shape, ne_free_outlets___calls, ne_free_outlets__shape, ne_has_outlet___calls, ne_has_outlet__shape, ne_is_behind_free___calls, ne_is_behind_free__shape, ne_is_blocked___calls, ne_is_blocked__shape, ne_is_front_free___calls, ne_is_front_free__shape, ne_look_at_ends___calls, ne_look_at_ends__shape, ne_middles___calls, ne_middles__shape, ne_shape____eq__, ne_shape____init__, ne_shape___calls, ne_shape__call, ne_shape__calls, ne_shape__demand_ends, ne_shape__end, ne_shape__free_outlets, ne_shape__has_outlet, ne_shape__is_behind_free, ne_shape__is_blocked, ne_shape__is_front_free, ne_shape__look_at_ends, ne_shape__middles, ne_shape__twin, ne_shape__ways, ne_twin___calls, ne_twin__shape, ne_ways___calls, ne_ways__shape, sp_is_in_eq, sp_is_tuple_eq, sp_demand_eq, sp__law_dice_eq, sp__law_roll_eq, sp__law_pick_eq]
  refine dSeq_step fun Z hZ => ?_
  try simp! only [true_and, ix0, ix2]
  refine ⟨mul_ok ⟨by omega, by omega⟩, hZ _ _ ?_⟩
  clear hZ Z
  rw [show s.n * s.r = s.ends from rfl]
  refine dSeq_step fun Z hZ => ?_
  try simp! only [true_and, ix1]
  refine ⟨m, zs, h.dp, hd, by omega, ⟨by omega, by omega⟩, fun y1 i d1 i1 i2 => ?_⟩
  try simp! only [true_and, ix1]
  refine ⟨_, y1, rfl, d1, by omega, ⟨by omega, by omega⟩, fun y2 o d2 o1 o2 => ?_⟩
  try simp! only [true_and, ix1]
  refine ⟨_, y2, rfl, d2, by omega, ⟨by omega, by omega⟩, fun y3 mm d3 m1 m2 => ?_⟩
  try simp! only [true_and, tset_tset]
  refine ⟨szn, hZ _ _ ?_⟩
  clear hZ Z
  refine dSeq_step fun Z hZ => ?_
  refine dIf_step fun kk hT hF => ?_
  try simp! only [true_and]
  refine ⟨_, y3, rfl, d3, by omega, ⟨by decide, by decide⟩, fun y4 r d4 r1 r2 => ?_⟩
  simp only [tset_tset]
  have h := h.setp y4
  have S0 : SubX [p] τ (tset τ p (.lst y4)) := SubX.refl.set (by simp)
  generalize tset τ p (.lst y4) = τ1 at h S0
  clear d3 y3 d2 y2 d1 y1
  have nin : isInD (.int i) 0 (s.ends - 1) = true := isIn_of ⟨by omega, by omega⟩
  have nio : isInD (.int o) 0 (s.ends - 1) = true := isIn_of ⟨by omega, by omega⟩
  by_cases c0 : r = 0
  · simp only [c0, decide_true]
    refine hT _ ?_
    clear hT hF
    refine dSeq_step fun Z2 hZ2 => ?_
    try simp! only [true_and, h.cl]
    intro L hL
    have h1 := h.new (u := .lst []) hL
    refine lcR_fmT (l := cs) (g := c3D) (fun x => if decide (x.1 = i) = true then some (c3D x) else none) (sz1000 (by omega)) (lstAt_iff h.cl) hL (fun x hx acc k' hk' => ?_) ?_
    · have ii0 : ∀ (τ : TD) (k : DK), ρIx τ (c3D x) (.int 0) k = k τ (.int x.1) := fun τ k => by simp only [c3D, dVar, dC, dOp, dUn, dTest_eq, dAnd, dOr, dNot, dAndV_eq, dOrV_eq, dNotV_eq, dIf, dChain_eq, dNil, dCons, dTup, dLst, dLstM, dCB, dBM, dNoPart, dPart_eq, dSl, dCall, dCallK, dNext, dBrk, dCnt, dSeq, dDrop, dRet, dRetN, dIfS, γName, γNil, γCons, γSub, dAsg, dPar, dPar3, dAug, ιSeq_eq, ιZip, ιRng1_eq, ιRng2_eq, dFor, dLc, dLcM, dYes, dT, dTold, onBl_eq, onInt_eq, onSeq_lst, onSeq_tup, onSeq_str, onSome_eq, lstAt_same, dRaise, startD, List.map_cons, List.map_nil, List.length_cons, List.length_nil, List.replicate_succ, List.replicate_zero, List.cons_append, List.nil_append, List.append_nil, List.getElem?_cons_zero, List.getElem?_cons_succ, List.set_cons_zero, List.set_cons_succ, Nat.reduceAdd, Nat.reduceSub, Nat.zero_add, Nat.sub_self, ρEq_int, ρEq_str, ρEq_bl, ρNe_int, ρNe_str, ρNe_bl, ρEq_t3, ρNe_t3, ρEq_t2, ρNe_t2, intsOf_mapf, strsOf_mapf, blsOf_mapf, gK_01_0, gK_02_01, gK_02_10, gK_03_012, gK_03_021, gK_03_102, gK_03_120, gK_03_201, gK_03_210, gK_11_0, gK_12_01, gK_12_10, gK_13_012, gK_13_021, gK_13_102, gK_13_120, gK_13_201, gK_13_210, dLstRg, ρLstOM_eq, seqAt_lst, seqAt_tup, seqAt_ref, ρMulT_int, ρMulT_str, ρMulT_tup, ρInU_one, ρPopAt_ref, eq_self, Bool.not_true, Bool.not_false, decide_true, decide_false, strsOf_c0, strsOf_c1, strsOf_c2, strsOf_c3, strsOf_c4, strsOf_c5, strsOf_c6, strsOf_c7, strsOf_c8, intsOf_c0, intsOf_c1, intsOf_c2, intsOf_c3, intsOf_c4, intsOf_c5, intsOf_c6, intsOf_c7, intsOf_c8, blsOf_c0, blsOf_c1, blsOf_c2, blsOf_c3, blsOf_c4, blsOf_c5, blsOf_c6, blsOf_c7, blsOf_c8, ixN_30, ixN_31, ixN_32, wipeD, if_true, if_false, Bool.false_eq_true, Bool.true_eq_false, true_and, and_true, ρAdd_int, ρAdd_str, ρAdd_tup, ρAdd_lst, ρAdd_rl, ρI_int, ρI0_int, ρMul_int, ρMul_str, ρNeg_int, ρCmp_int, ρCmp_str, ρIsN_eq, ρNotN_eq, isNonD_bl, isNonD_int, isNonD_str, isNonD_tup, isNonD_lst, isNonD_ref, isNonD_non, ρSgn_one, ρAbs_int, ρMax_two, ρMin_two, ρMax_lst, ρMin_lst, ρInt_int, ρInt_bl, ρStr_int, ρLen_str, ρLen_tup, ρLen_lst, ρLen_ref, ρSum_lst, ρAll_lst, ρAny_lst, ρTupO_tup, ρTupO_lst, ρIsi_eq, is_non_int, is_non_bool, is_non_str, is_non_tuple, is_non_list, is_bl_int, is_bl_bool, is_bl_str, is_bl_tuple, is_bl_list, is_int_int, is_int_bool, is_int_str, is_int_tuple, is_int_list, is_str_int, is_str_bool, is_str_str, is_str_tuple, is_str_list, is_tup_int, is_tup_bool, is_tup_str, is_tup_tuple, is_tup_list, is_lst_int, is_lst_bool, is_lst_str, is_lst_tuple, is_lst_list, tyN_non, tyN_bl, tyN_int, tyN_str, tyN_tup, tyN_lst, ρIx_tup, ρIx_lst, ρIx_str, ρIx_ref, ρSl_str, ρSl_lst, ρSl_tup, ρApp_ref, θLst_ref, θStr_str, ςLst_ref, ρJoin_lst, γTup_tup, atI_0, atI_1, atI_2, atI_3, atI_4, atI_5, atI_6, atI_7, ρEqR_eq, ρNeR_eq, resD_non, resD_bl, resD_int, resD_str, resD_tup, resD_lst, eqA_nn, eqA_ii, eqA_bb, eqA_ss, eqA_ni, eqA_in, eqA_nb, eqA_bn, eqA_ns, eqA_sn, eqA_is, eqA_si, eqA_tt, eqA_ll, eqA_tl, eqA_lt, eqA_tn, eqA_nt, eqA_ti', eqA_it, eqA_ts, eqA_st, shB_non, shB_bl, shB_int, shB_str, shB_t63, shB_t62, shB_t61, shB_t60, shB_t59, shB_l63, shB_l62, shB_l61, shB_l60, shBs_nil, shBs_cons, shBs_append, shBs_ints, eqDs_nil, eqDs_cons, eqDs_cn, eqDs_nc, eqDs_ints, eqDs_strs, eqD_ii, eqD_bb, eqD_ss, eqD_tt, eqD_ll, eqD_nn, ρLstO_seq, ρTupO_ref, Option.isSome_some, dNewK, dNewT, dGetK, dGetT, dInK, dInT, dPutK, dPutT, dAugK, dAugT, dGet2K, dGet2T, dPop1K, onRef_eq, dkAt_same, dtAt_same, dkW_same, dtW_same, keyOf_int, keyOf_str, keysOf_ii, keysOf_iii, ιEnum_eq, onSq_tup, onSq_lst, ρLtV_int, ρLtV_str, ρLtV_tup, ρPop_ref, ρIdx_lst, dFld, dSFld, dSFldAug, dMeth, dMake, dMethK, dMakeK, dEqI, insAt_same, lkF_cons, lkF_nil, putFD_cons, putFD_nil, ρIsC_non, ρIsC_ref, ρLenD_eq, dSortIt, ρSortD_eq, ρMinD_eq, ρMaxD_eq, dMet, dTm, mem_h, mem_h2, onBool_eq, insOrNon, ρCopy_ref, ιItems, ιVals, ιKeys, lkW_same, dLockE, dLockS, ρCopyT_ref, ρInX_eq, itsD_tup, itsD_lst, itsD_ref, dStar, ρSortKI_ref, ρRemX_ref, dForM, dLcR, Cs_shape, Cs__calls, ne___eq_____calls, ne___eq____shape, ne___init_____calls, ne___init____shape, ne__calls____eq__, ne__calls____init__, ne__calls__call, ne__calls__calls, ne__calls__demand_ends, ne__calls__end, ne__calls__free_outlets, ne__calls__has_outlet, ne__calls__is_behind_free, ne__calls__is_blocked, ne__calls__is_front_free, ne__calls__look_at_ends, ne__calls__middles, ne__calls__shape, ne__calls__twin, ne__calls__ways, ne_call___calls, ne_call__shape, ne_calls___calls, ne_calls__shape, ne_demand_ends___calls, ne_demand_ends__shape, ne_end___calls, ne_end__shape, ne_free_outlets___calls, ne_free_outlets__shape, ne_has_outlet___calls, ne_has_outlet__shape, ne_is_behind_free___calls, ne_is_behind_free__shape, ne_is_blocked___calls, ne_is_blocked__shape, ne_is_front_free___calls, ne_is_front_free__shape, ne_look_at_ends___calls, ne_look_at_ends__shape, ne_middles___calls, ne_middles__shape, ne_shape____eq__, ne_shape____init__, ne_shape___calls, ne_shape__call, ne_shape__calls, ne_shape__demand_ends, ne_shape__end, ne_shape__free_outlets, ne_shape__has_outlet, ne_shape__is_behind_free, ne_shape__is_blocked, ne_shape__is_front_free, ne_shape__look_at_ends, ne_shape__middles, ne_shape__twin, ne_shape__ways, ne_twin___calls, ne_twin__shape, ne_ways___calls, ne_ways__shape, sp_is_in_eq, sp_is_tuple_eq, sp_demand_eq, sp__law_dice_eq, sp__law_roll_eq, sp__law_pick_eq]
      try simp! only [true_and, ii0]
      exact if_push hk'
    rw [fm_filter (fun x : C3 => decide (x.1 = i)) c3D, tset_del hL]
    have sh : shBs 63 ((cs.filter fun x => decide (x.1 = i)).map c3D) = true := shBs_map fun x _ => sh_c3 x 62
    refine hZ2 _ _ ?_
    clear hZ2 Z2 h1 hL L
    refine dSeq_step fun Z2 hZ2 => ?_
    try simp! only [true_and, h.fab.ins, sh]
    refine sp_Fabric_end_of ⟨h.fab, ok, rfl, (fun e => absurd (nin.symm.trans e) (by decide)), fun i' ei' hi' => ?_⟩
    cases ei'
    by_cases c1 : i ∈ cs.map (·.1)
    · refine ⟨fun z => absurd c1 z, fun _ τ2 B2 g2 => ?_⟩
      obtain ⟨x, f1, j, f2, f3⟩ := rem_c ok.nd c1
      try simp! only [true_and, f1, eqDs_cn]
      refine ⟨szn, ?_⟩
      refine hZ2 _ _ ?_
      clear hZ2 Z2
      have h2 := h.both g2 B2
      have hc2 : lstAt τ2 c = some (cs.map c3D) := g2.lst (by have := h.ca; have := h.cq; simp; exact ⟨h.ca, h.cq⟩) h.cl
      refine dSeq_step fun Z2 hZ2 => ?_
      try simp! only [true_and, loop_cons, loop_nil, hc2, sh_c3, f2, f3]
      refine ⟨shBs_map fun x _ => sh_c3 x 62, hZ2 _ _ ?_⟩
      clear hZ2 Z2
      try simp! only [true_and]
      have okE : Fb.Ok ⟨s, cs.filter fun p => !decide (p.1 = i)⟩ := ⟨ok.s, ok.e, ok.nd.sublist (List.filter_sublist.map _), fun c hc => ok.rng c (List.mem_filter.mp hc).1⟩
      exact Fin.same (hk _ _ _ d4 h2 okE ((S0.mono (by simp)).trans ((g2.mono (by simp)).set (by simp))))
    · refine ⟨fun _ => ?_, fun z => absurd z c1⟩
      refine ⟨rfl, rfl, _, rfl, szn, szn, ?_⟩
      try simp! only [true_and, (nf_c c1).1, eqDs_nil]
      rw [if_neg (by decide)]
      refine hZ2 _ _ ?_
      clear hZ2 Z2
      refine dSeq_step fun Z2 hZ2 => ?_
      try simp! only [true_and, loop_nil]
      refine hZ2 _ _ ?_
      clear hZ2 Z2
      try simp! only [true_and]
      exact Fin.same (hk _ _ _ d4 h ok (S0.mono (by simp)))
  · simp only [c0, decide_false]
    refine hF _ ?_
    clear hT hF
    refine hZ _ _ ?_
    clear hZ Z
    refine dSeq_step fun Z hZ => ?_
    try simp! only [true_and, h.fab.ins]
    refine (?_ : Z τ1 [some (.ref p), some (.ref a), some (shD s), some (.ref c), some (.int s.ends), some (.int i), some (.int o), some (.int mm), none, none, none] → _) (hZ _ _ ?_)
    · clear hZ
      intro go
      refine sp_Fabric_middles_of ⟨h.fab, ok, rfl, (fun e => absurd (nin.symm.trans e) (by decide)), fun _ => ⟨rfl, (fun e => absurd (nio.symm.trans e) (by decide)), fun i' o' ei eo _ => ?_⟩⟩
      cases ei
      cases eo
      have rng : ∀ c ∈ cs, 0 ≤ c.2.2 := fun c hc => (ok.rng c hc).2.2.1
      refine ⟨fun u hu => ?_, fun hn => ?_⟩
      · have hu : endsW cs i o = some u := hu
        refine ⟨rfl, rfl, _, rfl, ?_, ?_⟩
        · rcases ends_cases cs i o with e | e | ⟨e, _⟩
          · rw [e] at hu; cases hu; exact szn
          · rw [e] at hu; cases hu; exact szn
          · rw [e] at hu; cases hu
        · refine sp__law_middles_due_of ⟨h.cl, (show cs.length ≤ 1000 by omega), ok.s, rng, ?_⟩
          unfold dueD
          rw [hu]
          try simp! only [true_and]
          exact go
      · have hn : endsW cs i o = none := hn
        refine sp__law_middles_due_of ⟨h.cl, (show cs.length ≤ 1000 by omega), ok.s, rng, ?_⟩
        unfold dueD
        rw [hn]
        try simp! only [true_and]
        exact go
    clear hZ Z
    refine dSeq_step fun Z hZ => ?_
    try simp! only [true_and]
    refine sp__law_r_can_of ⟨h.cl, (show cs.length ≤ 1000 by omega), ok.s, hZ _ _ ?_⟩
    clear hZ Z
    refine dSeq_step fun Z hZ => ?_
    try simp! only [true_and, h.fab.ins]
    have nim : isInD (.int mm) 0 (s.m - 1) = true := isIn_of ⟨by omega, by omega⟩
    refine sp_Fabric_call_of ⟨h.fab, ok, rfl, (fun e => absurd (nin.symm.trans e) (by decide)), fun _ => ⟨rfl, (fun e => absurd (nio.symm.trans e) (by decide)), fun _ => ⟨rfl, (fun e => absurd (nim.symm.trans e) (by decide)), fun i' o' m' ei eo em _ => ?_⟩⟩⟩
    cases ei
    cases eo
    cases em
    refine ⟨fun u hu => ?_, fun hn τ2 B2 g2 => ?_⟩
    · have hu : canW s cs i o mm = some u := hu
      obtain ⟨u1, u2⟩ := can_ne hu
      refine ⟨rfl, rfl, _, rfl, sz1000 (show 4 + u.length ≤ 1000 by omega), ?_⟩
      unfold canS
      rw [hu]
      try simp! only [true_and, Option.getD_some, u1]
      refine ⟨sz1000 (show 4 + u.length ≤ 1000 by omega), hZ _ _ ?_⟩
      clear hZ Z
      refine dSeq_step fun Z hZ => ?_
      try simp! only [true_and, u1]
      refine hZ _ _ ?_
      clear hZ Z
      try simp! only [true_and]
      exact Fin.same (hk _ _ _ d4 h ok (S0.mono (by simp)))
    · have hn : canW s cs i o mm = none := hn
      unfold canS
      rw [hn]
      try simp! only [true_and, Option.getD_none]
      refine hZ _ _ ?_
      clear hZ Z
      have h2 := h.both g2 B2
      have hc2 : lstAt τ2 c = some (cs.map c3D) := g2.lst (by have := h.ca; have := h.cq; simp; exact ⟨h.ca, h.cq⟩) h.cl
      refine dSeq_step fun Z hZ => ?_
      try simp! only [true_and, hc2]
      rw [show cs.map c3D ++ [D.tup [.int i, .int o, .int mm]] = (cs ++ [(i, o, mm)]).map c3D by rw [List.map_append]; rfl]
      refine ⟨szn, sz1000 (by rw [List.length_map]; omega), hZ _ _ ?_⟩
      clear hZ Z
      try simp! only [true_and]
      have c1 : i ∉ cs.map (·.1) := fun z => by unfold canW at hn; rw [if_pos z] at hn; cases hn
      have okE : Fb.Ok ⟨s, cs ++ [(i, o, mm)]⟩ := by
        refine ⟨ok.s, ok.e, ?_, fun c hc => ?_⟩
        · simp only [List.map_append, List.map_cons, List.map_nil]
          rw [List.nodup_append]
          refine ⟨ok.nd, by simp, fun x hx y hy => ?_⟩
          rw [List.mem_singleton] at hy
          subst hy
          rintro rfl
          exact c1 hx
        · rcases List.mem_append.mp hc with hc | hc
          · exact ok.rng c hc
          · rw [List.mem_singleton] at hc
            subst hc
            exact ⟨⟨i1, i2⟩, ⟨o1, o2⟩, m1, m2⟩
      exact Fin.same (hk _ _ _ d4 h2 okE ((S0.mono (by simp)).trans ((g2.mono (by simp)).set (by simp))))
end
end LW

set_option Elab.async false
set_option linter.all false
set_option maxRecDepth 100000
set_option maxHeartbeats 0
namespace LW
open PySem PySem.Spec PyProof.Rows L2 DL DX
section
variable {w : World} {K : PySem.W.Frag} {mg : Str → Option Value} {base : Heap}
local macro_rules | `(tactic| simp! only [$xs,*]) => `(tactic| simp only [dVar, dC, dOp, dUn, dTest_eq, dAnd, dOr, dNot, dAndV_eq, dOrV_eq, dNotV_eq, dIf, dChain_eq, dNil, dCons, dTup, dLst, dLstM, dCB, dBM, dNoPart, dPart_eq, dSl, dCall, dCallK, dNext, dBrk, dCnt, dSeq, dDrop, dRet, dRetN, dIfS, γName, γNil, γCons, γSub, dAsg, dPar, dPar3, dAug, ιSeq_eq, ιZip, ιRng1_eq, ιRng2_eq, dFor, dLc, dLcM, dYes, dT, dTold, onBl_eq, onInt_eq, onSeq_lst, onSeq_tup, onSeq_str, onSome_eq, lstAt_same, dRaise, startD, List.map_cons, List.map_nil, List.length_cons, List.length_nil, List.replicate_succ, List.replicate_zero, List.cons_append, List.nil_append, List.append_nil, List.getElem?_cons_zero, List.getElem?_cons_succ, List.set_cons_zero, List.set_cons_succ, Nat.reduceAdd, Nat.reduceSub, Nat.zero_add, Nat.sub_self, ρEq_int, ρEq_str, ρEq_bl, ρNe_int, ρNe_str, ρNe_bl, ρEq_t3, ρNe_t3, ρEq_t2, ρNe_t2, intsOf_mapf, strsOf_mapf, blsOf_mapf, gK_01_0, gK_02_01, gK_02_10, gK_03_012, gK_03_021, gK_03_102, gK_03_120, gK_03_201, gK_03_210, gK_11_0, gK_12_01, gK_12_10, gK_13_012, gK_13_021, gK_13_102, gK_13_120, gK_13_201, gK_13_210, dLstRg, ρLstOM_eq, seqAt_lst, seqAt_tup, seqAt_ref, ρMulT_int, ρMulT_str, ρMulT_tup, ρInU_one, ρPopAt_ref, eq_self, Bool.not_true, Bool.not_false, decide_true, decide_false, strsOf_c0, strsOf_c1, strsOf_c2, strsOf_c3, strsOf_c4, strsOf_c5, strsOf_c6, strsOf_c7, strsOf_c8, intsOf_c0, intsOf_c1, intsOf_c2, intsOf_c3, intsOf_c4, intsOf_c5, intsOf_c6, intsOf_c7, intsOf_c8, blsOf_c0, blsOf_c1, blsOf_c2, blsOf_c3, blsOf_c4, blsOf_c5, blsOf_c6, blsOf_c7, blsOf_c8, ixN_30, ixN_31, ixN_32, wipeD, if_true, if_false, Bool.false_eq_true, Bool.true_eq_false, true_and, and_true, ρAdd_int, ρAdd_str, ρAdd_tup, ρAdd_lst, ρAdd_rl, ρI_int, ρI0_int, ρMul_int, ρMul_str, ρNeg_int, ρCmp_int, ρCmp_str, ρIsN_eq, ρNotN_eq, isNonD_bl, isNonD_int, isNonD_str, isNonD_tup, isNonD_lst, isNonD_ref, isNonD_non, ρSgn_one, ρAbs_int, ρMax_two, ρMin_two, ρMax_lst, ρMin_lst, ρInt_int, ρInt_bl, ρStr_int, ρLen_str, ρLen_tup, ρLen_lst, ρLen_ref, ρSum_lst, ρAll_lst, ρAny_lst, ρTupO_tup, ρTupO_lst, ρIsi_eq, is_non_int, is_non_bool, is_non_str, is_non_tuple, is_non_list, is_bl_int, is_bl_bool, is_bl_str, is_bl_tuple, is_bl_list, is_int_int, is_int_bool, is_int_str, is_int_tuple, is_int_list, is_str_int, is_str_bool, is_str_str, is_str_tuple, is_str_list, is_tup_int, is_tup_bool, is_tup_str, is_tup_tuple, is_tup_list, is_lst_int, is_lst_bool, is_lst_str, is_lst_tuple, is_lst_list, tyN_non, tyN_bl, tyN_int, tyN_str, tyN_tup, tyN_lst, ρIx_tup, ρIx_lst, ρIx_str, ρIx_ref, ρSl_str, ρSl_lst, ρSl_tup, ρApp_ref, θLst_ref, θStr_str, ςLst_ref, ρJoin_lst, γTup_tup, atI_0, atI_1, atI_2, atI_3, atI_4, atI_5, atI_6, atI_7, ρEqR_eq, ρNeR_eq, resD_non, resD_bl, resD_int, resD_str, resD_tup, resD_lst, eqA_nn, eqA_ii, eqA_bb, eqA_ss, eqA_ni, eqA_in, eqA_nb, eqA_bn, eqA_ns, eqA_sn, eqA_is, eqA_si, eqA_tt, eqA_ll, eqA_tl, eqA_lt, eqA_tn, eqA_nt, eqA_ti', eqA_it, eqA_ts, eqA_st, shB_non, shB_bl, shB_int, shB_str, shB_t63, shB_t62, shB_t61, shB_t60, shB_t59, shB_l63, shB_l62, shB_l61, shB_l60, shBs_nil, shBs_cons, shBs_append, shBs_ints, eqDs_nil, eqDs_cons, eqDs_cn, eqDs_nc, eqDs_ints, eqDs_strs, eqD_ii, eqD_bb, eqD_ss, eqD_tt, eqD_ll, eqD_nn, ρLstO_seq, ρTupO_ref, Option.isSome_some, dNewK, dNewT, dGetK, dGetT, dInK, dInT, dPutK, dPutT, dAugK, dAugT, dGet2K, dGet2T, dPop1K, onRef_eq, dkAt_same, dtAt_same, dkW_same, dtW_same, keyOf_int, keyOf_str, keysOf_ii, keysOf_iii, ιEnum_eq, onSq_tup, onSq_lst, ρLtV_int, ρLtV_str, ρLtV_tup, ρPop_ref, ρIdx_lst, dFld, dSFld, dSFldAug, dMeth, dMake, dMethK, dMakeK, dEqI, insAt_same, lkF_cons, lkF_nil, putFD_cons, putFD_nil, ρIsC_non, ρIsC_ref, ρLenD_eq, dSortIt, ρSortD_eq, ρMinD_eq, ρMaxD_eq, dMet, dTm, mem_h, mem_h2, onBool_eq, insOrNon, ρCopy_ref, ιItems, ιVals, ιKeys, lkW_same, dLockE, dLockS, ρCopyT_ref, ρInX_eq, itsD_tup, itsD_lst, itsD_ref, dStar, ρSortKI_ref, ρRemX_ref, dForM, dLcR, Cs_shape, Cs__calls, ne___eq_____calls, ne___eq____shape, ne___init_____calls, ne___init____shape, ne__calls____eq__, ne__calls____init__, ne__calls__call, ne__calls__calls, ne__calls__demand_ends, ne__calls__end, ne__calls__free_outlets, ne__calls__has_outlet, ne__calls__is_behind_free, ne__calls__is_blocked, ne__calls__is_front_free, ne__calls__look_at_ends, ne__calls__middles, ne__calls__shape, ne__calls__twin, ne__calls__ways, ne_call___calls, ne_call__shape, ne_calls___calls, ne_calls__shape, ne_demand_ends___calls, ne_demand_ends__shape, ne_end___calls, ne_end__shape, ne_free_outlets___calls, ne_free_outlets__shape, ne_has_outlet___calls, ne_has_outlet__shape, ne_is_behind_free___calls, ne_is_behind_free__shape, ne_is_blocked___calls, ne_is_blocked__shape, ne_is_front_free___calls, ne_is_front_free__shape, ne_look_at_ends___calls, ne_look_at_ends__shape, ne_middles___calls, ne_middles__shape, ne_shape____eq__, ne_shape____init__, ne_shape___calls, ne_shape__call, ne_shape__calls, ne_shape__demand_ends, ne_shape__end, ne_shape__free_outlets, ne_shape__has_outlet, ne_shape__is_behind_free, ne_shape__is_blocked, ne_shape__is_front_free, ne_shape__look_at_ends, ne_shape__middles, ne_shape__twin, ne_shape__ways, ne_twin___calls, ne_twin__shape, ne_ways___calls, ne_ways__shape, sp_is_in_eq, sp_is_tuple_eq, sp_demand_eq, sp__law_dice_eq, sp__law_roll_eq, sp__law_pick_eq, $xs,*])
local macro_rules | `(tactic| dsimp! only [$xs,*]) => `(tactic| simp only [dVar, dC, dOp, dUn, dTest_eq, dAnd, dOr, dNot, dAndV_eq, dOrV_eq, dNotV_eq, dIf, dChain_eq, dNil, dCons, dTup, dLst, dLstM, dCB, dBM, dNoPart, dPart_eq, dSl, dCall, dCallK, dNext, dBrk, dCnt, dDrop, dRet, dRetN, dIfS, γName, γNil, γCons, γSub, dAsg, dPar, dPar3, dAug, ιSeq_eq, ιZip, ιRng1_eq, ιRng2_eq, dFor, dLc, dLcM, dYes, dT, dTold, onBl_eq, onInt_eq, onSeq_lst, onSeq_tup, onSeq_str, onSome_eq, lstAt_same, dRaise, startD, List.map_cons, List.map_nil, List.length_cons, List.length_nil, List.replicate_succ, List.replicate_zero, List.cons_append, List.nil_append, List.append_nil, List.getElem?_cons_zero, List.getElem?_cons_succ, List.set_cons_zero, List.set_cons_succ, Nat.reduceAdd, Nat.reduceSub, Nat.zero_add, Nat.sub_self, ρEq_int, ρEq_str, ρEq_bl, ρNe_int, ρNe_str, ρNe_bl, ρEq_t3, ρNe_t3, ρEq_t2, ρNe_t2, intsOf_mapf, strsOf_mapf, blsOf_mapf, gK_01_0, gK_02_01, gK_02_10, gK_03_012, gK_03_021, gK_03_102, gK_03_120, gK_03_201, gK_03_210, gK_11_0, gK_12_01, gK_12_10, gK_13_012, gK_13_021, gK_13_102, gK_13_120, gK_13_201, gK_13_210, dLstRg, ρLstOM_eq, seqAt_lst, seqAt_tup, seqAt_ref, ρMulT_int, ρMulT_str, ρMulT_tup, ρInU_one, ρPopAt_ref, eq_self, Bool.not_true, Bool.not_false, decide_true, decide_false, strsOf_c0, strsOf_c1, strsOf_c2, strsOf_c3, strsOf_c4, strsOf_c5, strsOf_c6, strsOf_c7, strsOf_c8, intsOf_c0, intsOf_c1, intsOf_c2, intsOf_c3, intsOf_c4, intsOf_c5, intsOf_c6, intsOf_c7, intsOf_c8, blsOf_c0, blsOf_c1, blsOf_c2, blsOf_c3, blsOf_c4, blsOf_c5, blsOf_c6, blsOf_c7, blsOf_c8, ixN_30, ixN_31, ixN_32, wipeD, if_true, if_false, Bool.false_eq_true, Bool.true_eq_false, true_and, and_true, ρAdd_int, ρAdd_str, ρAdd_tup, ρAdd_lst, ρAdd_rl, ρI_int, ρI0_int, ρMul_int, ρMul_str, ρNeg_int, ρCmp_int, ρCmp_str, ρIsN_eq, ρNotN_eq, isNonD_bl, isNonD_int, isNonD_str, isNonD_tup, isNonD_lst, isNonD_ref, isNonD_non, ρSgn_one, ρAbs_int, ρMax_two, ρMin_two, ρMax_lst, ρMin_lst, ρInt_int, ρInt_bl, ρStr_int, ρLen_str, ρLen_tup, ρLen_lst, ρLen_ref, ρSum_lst, ρAll_lst, ρAny_lst, ρTupO_tup, ρTupO_lst, ρIsi_eq, is_non_int, is_non_bool, is_non_str, is_non_tuple, is_non_list, is_bl_int, is_bl_bool, is_bl_str, is_bl_tuple, is_bl_list, is_int_int, is_int_bool, is_int_str, is_int_tuple, is_int_list, is_str_int, is_str_bool, is_str_str, is_str_tuple, is_str_list, is_tup_int, is_tup_bool, is_tup_str, is_tup_tuple, is_tup_list, is_lst_int, is_lst_bool, is_lst_str, is_lst_tuple, is_lst_list, tyN_non, tyN_bl, tyN_int, tyN_str, tyN_tup, tyN_lst, ρIx_tup, ρIx_lst, ρIx_str, ρIx_ref, ρSl_str, ρSl_lst, ρSl_tup, ρApp_ref, θLst_ref, θStr_str, ςLst_ref, ρJoin_lst, γTup_tup, atI_0, atI_1, atI_2, atI_3, atI_4, atI_5, atI_6, atI_7, ρEqR_eq, ρNeR_eq, resD_non, resD_bl, resD_int, resD_str, resD_tup, resD_lst, eqA_nn, eqA_ii, eqA_bb, eqA_ss, eqA_ni, eqA_in, eqA_nb, eqA_bn, eqA_ns, eqA_sn, eqA_is, eqA_si, eqA_tt, eqA_ll, eqA_tl, eqA_lt, eqA_tn, eqA_nt, eqA_ti', eqA_it, eqA_ts, eqA_st, shB_non, shB_bl, shB_int, shB_str, shB_t63, shB_t62, shB_t61, shB_t60, shB_t59, shB_l63, shB_l62, shB_l61, shB_l60, shBs_nil, shBs_cons, shBs_append, shBs_ints, eqDs_nil, eqDs_cons, eqDs_cn, eqDs_nc, eqDs_ints, eqDs_strs, eqD_ii, eqD_bb, eqD_ss, eqD_tt, eqD_ll, eqD_nn, ρLstO_seq, ρTupO_ref, Option.isSome_some, dNewK, dNewT, dGetK, dGetT, dInK, dInT, dPutK, dPutT, dAugK, dAugT, dGet2K, dGet2T, dPop1K, onRef_eq, dkAt_same, dtAt_same, dkW_same, dtW_same, keyOf_int, keyOf_str, keysOf_ii, keysOf_iii, ιEnum_eq, onSq_tup, onSq_lst, ρLtV_int, ρLtV_str, ρLtV_tup, ρPop_ref, ρIdx_lst, dFld, dSFld, dSFldAug, dMeth, dMake, dMethK, dMakeK, dEqI, insAt_same, lkF_cons, lkF_nil, putFD_cons, putFD_nil, ρIsC_non, ρIsC_ref, ρLenD_eq, dSortIt, ρSortD_eq, ρMinD_eq, ρMaxD_eq, dMet, dTm, mem_h, mem_h2, onBool_eq, insOrNon, ρCopy_ref, ιItems, ιVals, ιKeys, lkW_same, dLockE, dLockS, ρCopyT_ref, ρInX_eq, itsD_tup, itsD_lst, itsD_ref, dStar, ρSortKI_ref, ρRemX_ref, dForM, dLcR, Cs_shape, Cs__calls, ne___eq_____calls, ne___eq____shape, ne___init_____calls, ne___init____shape, ne__calls____eq__, ne__calls____init__, ne__calls__call, ne__calls__calls, ne__calls__demand_ends, ne__calls__end, ne__calls__free_outlets, ne__calls__has_outlet, ne__calls__is_behind_free, ne__calls__is_blocked, ne__calls__is_front_free, ne__calls__look_at_ends, ne__calls__middles, ne__calls__shape, ne__calls__twin, ne__calls__ways, ne_call___calls, ne_call__shape, ne_calls___calls, ne_calls__shape, ne_demand_ends___calls, ne_demand_ends__shape, ne_end___calls, ne_end__shape, ne_free_outlets___calls, ne_free_outlets__shape, ne_has_outlet___calls, ne_has_outlet__shape, ne_is_behind_free___calls, ne_is_behind_free__shape, ne_is_blocked___calls, ne_is_blocked__shape, ne_is_front_free___calls, ne_is_front_free__shape, ne_look_at_ends___calls, ne_look_at_ends__shape, ne_middles___calls, ne_middles__shape, ne_shape____eq__, ne_shape____init__, ne_shape___calls, ne_shape__call, ne_shape__calls, ne_shape__demand_ends, ne_shape__end, ne_shape__free_outlets, ne_shape__has_outlet, ne_shape__is_behind_free, ne_shape__is_blocked, ne_shape__is_front_free, ne_shape__look_at_ends, ne_shape__middles, ne_shape__twin, ne_shape__ways, ne_twin___calls, ne_twin__shape, ne_ways___calls, ne_ways__shape, sp_is_in_eq, sp_is_tuple_eq, sp_demand_eq, sp__law_dice_eq, sp__law_roll_eq, sp__law_pick_eq, $xs,*])
/-! ### _law_refuses -/
theorem sc__law_refuses : FnScope ["dice", "fabric", "shape", "ends", "bad", "told"] ["dice", "fabric", "shape"] (defScope s__law_refuses) := ⟨rfl, rfl, rfl, by decide +kernel, rfl, by decide +kernel, by decide +kernel⟩
theorem bn__law_refuses (M : Mod K mg) : L2.Binds K M.f__law_refuses.choose ["dice", "fabric", "shape"] [] := fun_binds M.f__law_refuses.choose_spec fun _ _ _ _ _ _ us hl => match us, hl with | [_, _, _], _ => rfl
def sp__law_refuses (K : PySem.W.Frag) : SpD := fun τ ds k KE => ∃ (p a : Addr) (q : Addr) (s : Shp) (cs : List C3), ds = [.ref p, .ref a, shD s] ∧ ((∃ m zs, Dc m zs ∧ m ≤ 100000 ∧ s.ends ≤ 16 ∧ lstAt τ p = some zs ∧ FabAt K τ a q ⟨s, cs⟩ ∧ Fb.Ok ⟨s, cs⟩ ∧ ∀ τ', k τ' (.bl true)))
theorem sp__law_refuses_of {K : PySem.W.Frag} {τ : TD} {k : DK} {KE : XD} {p a : Addr} {q : Addr} {s : Shp} {cs : List C3} (h_ : (∃ m zs, Dc m zs ∧ m ≤ 100000 ∧ s.ends ≤ 16 ∧ lstAt τ p = some zs ∧ FabAt K τ a q ⟨s, cs⟩ ∧ Fb.Ok ⟨s, cs⟩ ∧ ∀ τ', k τ' (.bl true))) : sp__law_refuses K τ [.ref p, .ref a, shD s] k KE := ⟨_, _, _, _, _, rfl, h_⟩
theorem ok__law_refuses (M : Mod K mg) (TB__law_refuses : LamX.TabB base mg (He.cT K ("_law_refuses", none)).1 (He.cT K ("_law_refuses", none)).2) : FnD prog w K mg base (TT K) 8 (He.fAd K ("_law_refuses", none)) M.f__law_refuses.choose ["dice", "fabric", "shape"] (sp__law_refuses K) := by
  refine fnD_ofL M.f__law_refuses.choose_spec sc__law_refuses fun KE => ⟨_, fun A outer s H E hr => (pdss_cons (pds_asg (pd_tup (pda_cons (pd_op op_mulT ok_mulT (pd_ix ix_seq ok_ix (pd_var (pv 2)) pd_int) (pd_ix ix_seq ok_ix (pd_var (pv 2)) pd_int)) (pda_cons (pd_call (ok__law_pick M) (hr.mono (by decide)) rfl M.g__law_pick M.f__law_pick.choose_spec.kp (bn__law_pick M) .nil .nil passD (pda_cons (pd_var (pv 0)) (pda_cons (pd_lst (pda_cons (pd_un un_neg ok_neg pd_int) (pda_cons pd_int (pda_cons pd_non (pda_cons pd_bl pda_nil))))) pda_nil))) pda_nil))) (pdg_tup (n := 2) rfl (pdgs_cons (pdg_name (i := 3) sc__law_refuses.nd rfl (by first | exact .inl rfl | exact .inr rfl)) (pdgs_cons (pdg_name (i := 4) sc__law_refuses.nd rfl (by first | exact .inl rfl | exact .inr rfl)) pdgs_nil)))) (pdss_cons (pds_set (i := 5) sc__law_refuses.nd rfl (by first | exact .inl rfl | exact .inr rfl) (pd_lst (pda_cons (told M rfl rfl rfl TB__law_refuses rfl ttm__law_refuses (tt__law_refuses M) (k := 5) (hr.mono (by decide)) (show LamX.LamS (defScope s__law_refuses) _ from LamX.lamS_by (by decide +kernel)) rfl (fun _ _ _ _ _ => rfl) fun A outer s H E f c' KE hr2 => (pd_make (M.mk_Fabric) (ok_Fabric___init__ M) (hr2.mono (by decide)) rfl M.gc_Fabric (bn_Fabric___init__ M) .nil .nil passLm (pda_cons (pd_call (ok__law_pick M) (hr2.mono (by decide)) rfl M.g__law_pick M.f__law_pick.choose_spec.kp (bn__law_pick M) .nil .nil passLm (pda_cons (pd_var (pv 0)) (pda_cons (pd_lst (pda_cons pd_non (pda_cons (pd_tup pda_nil) (pda_cons (pd_tup (pda_cons pd_int (pda_cons pd_int (pda_cons pd_int pda_nil)))) (pda_cons (pd_tup (pda_cons pd_int (pda_cons pd_int (pda_cons pd_int pda_nil)))) (pda_cons (pd_tup (pda_cons pd_int (pda_cons pd_int (pda_cons pd_int pda_nil)))) (pda_cons (pd_tup (pda_cons pd_int (pda_cons pd_int (pda_cons pd_int pda_nil)))) (pda_cons (pd_tup (pda_cons pd_int (pda_cons pd_int pda_nil))) (pda_cons (pd_lst (pda_cons pd_int (pda_cons pd_int (pda_cons pd_int pda_nil)))) (pda_cons (pd_tup (pda_cons pd_bl (pda_cons pd_int (pda_cons pd_int pda_nil)))) pda_nil)))))))))) pda_nil))) pda_nil))) pda_nil))) (pdss_cons (pds_set (i := 5) sc__law_refuses.nd rfl (by first | exact .inl rfl | exact .inr rfl) (pd_op op_addU ok_add (pd_var (pv 5)) (pd_lst (pda_cons (told M rfl rfl rfl TB__law_refuses rfl ttm__law_refuses (tt__law_refuses M) (k := 4) (hr.mono (by decide)) (show LamX.LamS (defScope s__law_refuses) _ from LamX.lamS_by (by decide +kernel)) rfl (fun _ _ _ _ _ => rfl) fun A outer s H E f c' KE hr2 => (pd_meth M.cl_Fabric M.me_Fabric_call (ok_Fabric_call M) (hr2.mono (by decide)) (bn_Fabric_call M) .nil .nil passLm (pd_var (pv 1)) (pda_cons (pd_var (pv 4)) (pda_cons (pd_var (pv 3)) (pda_cons (pd_un un_neg ok_neg pd_int) pda_nil))))) (pda_cons (told M rfl rfl rfl TB__law_refuses rfl ttm__law_refuses (tt__law_refuses M) (k := 4) (hr.mono (by decide)) (show LamX.LamS (defScope s__law_refuses) _ from LamX.lamS_by (by decide +kernel)) rfl (fun _ _ _ _ _ => rfl) fun A outer s H E f c' KE hr2 => (pd_meth M.cl_Fabric M.me_Fabric_call (ok_Fabric_call M) (hr2.mono (by decide)) (bn_Fabric_call M) .nil .nil passLm (pd_var (pv 1)) (pda_cons pd_int (pda_cons (pd_var (pv 4)) (pda_cons (pd_un un_neg ok_neg pd_int) pda_nil))))) (pda_cons (told M rfl rfl rfl TB__law_refuses rfl ttm__law_refuses (tt__law_refuses M) (k := 4) (hr.mono (by decide)) (show LamX.LamS (defScope s__law_refuses) _ from LamX.lamS_by (by decide +kernel)) rfl (fun _ _ _ _ _ => rfl) fun A outer s H E f c' KE hr2 => (pd_meth M.cl_Fabric M.me_Fabric_call (ok_Fabric_call M) (hr2.mono (by decide)) (bn_Fabric_call M) .nil .nil passLm (pd_var (pv 1)) (pda_cons pd_int (pda_cons pd_int (pda_cons (pd_ix ix_seq ok_ix (pd_var (pv 2)) pd_int) pda_nil))))) pda_nil)))))) (pdss_cons (pds_set (i := 5) sc__law_refuses.nd rfl (by first | exact .inl rfl | exact .inr rfl) (pd_op op_addU ok_add (pd_var (pv 5)) (pd_lst (pda_cons (told M rfl rfl rfl TB__law_refuses rfl ttm__law_refuses (tt__law_refuses M) (k := 3) (hr.mono (by decide)) (show LamX.LamS (defScope s__law_refuses) _ from LamX.lamS_by (by decide +kernel)) rfl (fun _ _ _ _ _ => rfl) fun A outer s H E f c' KE hr2 => (pd_meth M.cl_Fabric M.me_Fabric_end (ok_Fabric_end M) (hr2.mono (by decide)) (bn_Fabric_end M) .nil .nil passLm (pd_var (pv 1)) (pda_cons (pd_var (pv 4)) pda_nil))) (pda_cons (told M rfl rfl rfl TB__law_refuses rfl ttm__law_refuses (tt__law_refuses M) (k := 4) (hr.mono (by decide)) (show LamX.LamS (defScope s__law_refuses) _ from LamX.lamS_by (by decide +kernel)) rfl (fun _ _ _ _ _ => rfl) fun A outer s H E f c' KE hr2 => (pd_meth M.cl_Fabric M.me_Fabric_middles (ok_Fabric_middles M) (hr2.mono (by decide)) (bn_Fabric_middles M) .nil .nil passLm (pd_var (pv 1)) (pda_cons (pd_var (pv 4)) (pda_cons pd_int pda_nil)))) (pda_cons (told M rfl rfl rfl TB__law_refuses rfl ttm__law_refuses (tt__law_refuses M) (k := 4) (hr.mono (by decide)) (show LamX.LamS (defScope s__law_refuses) _ from LamX.lamS_by (by decide +kernel)) rfl (fun _ _ _ _ _ => rfl) fun A outer s H E f c' KE hr2 => (pd_meth M.cl_Fabric M.me_Fabric_middles (ok_Fabric_middles M) (hr2.mono (by decide)) (bn_Fabric_middles M) .nil .nil passLm (pd_var (pv 1)) (pda_cons pd_int (pda_cons (pd_var (pv 4)) pda_nil)))) pda_nil)))))) (pdss_one (pds_ret (pd_cmp (op_eqU (room_eq hr)) ok_eqR (pd_var (pv 5)) (pd_lst (pda_cons pd_str (pda_cons pd_str (pda_cons pd_str (pda_cons pd_str (pda_cons pd_str (pda_cons pd_str (pda_cons pd_str pda_nil)))))))) (nomark _)))))))), ?_⟩
  intro τ ds k hl h
  unfold sp__law_refuses at h
  obtain ⟨p, a, q, s, cs, rfl, hh⟩ := h
  obtain ⟨m, zs, hd, hm, he, hp, h, ok, hk⟩ := hh
  have pa : p ≠ a := fun z => by have := insAt_iff.mp h.ins; rw [← z, lstAt_iff hp] at this; cases this
  have pq : p ≠ q := fun z => by have := h.cs; rw [← z, lstAt_iff hp] at this; cases this
  have oe : 1 ≤ s.ends ∧ s.ends ≤ 64 := ok.s.e
  have on : 1 ≤ s.n ∧ s.n ≤ 8 := ok.s.n
  have om : 1 ≤ s.m ∧ s.m ≤ 20 := ok.s.m
  have or : 1 ≤ s.r ∧ s.r ≤ 8 := ok.s.r
  have ix0 : ∀ (τ : TD) (k : DK), ρIx τ (shD s) (.int 0) k = k τ (.int s.n) := fun τ k => by simp only [shD, dVar, dC, dOp, dUn, dTest_eq, dAnd, dOr, dNot, dAndV_eq, dOrV_eq, dNotV_eq, dIf, dChain_eq, dNil, dCons, dTup, dLst, dLstM, dCB, dBM, dNoPart, dPart_eq, dSl, dCall, dCallK, dNext, dBrk, dCnt, dSeq, dDrop, dRet, dRetN, dIfS, γName, γNil, γCons, γSub, dAsg, dPar, dPar3, dAug, ιSeq_eq, ιZip, ιRng1_eq, ιRng2_eq, dFor, dLc, dLcM, dYes, dT, dTold, onBl_eq, onInt_eq, onSeq_lst, onSeq_tup, onSeq_str, onSome_eq, lstAt_same, dRaise, startD, List.map_cons, List.map_nil, List.length_cons, List.length_nil, List.replicate_succ, List.replicate_zero, List.cons_append, List.nil_append, List.append_nil, List.getElem?_cons_zero, List.getElem?_cons_succ, List.set_cons_zero, List.set_cons_succ, Nat.reduceAdd, Nat.reduceSub, Nat.zero_add, Nat.sub_self, ρEq_int, ρEq_str, ρEq_bl, ρNe_int, ρNe_str, ρNe_bl, ρEq_t3, ρNe_t3, ρEq_t2, ρNe_t2, intsOf_mapf, strsOf_mapf, blsOf_mapf, gK_01_0, gK_02_01, gK_02_10, gK_03_012, gK_03_021, gK_03_102, gK_03_120, gK_03_201, gK_03_210, gK_11_0, gK_12_01, gK_12_10, gK_13_012, gK_13_021, gK_13_102, gK_13_120, gK_13_201, gK_13_210, dLstRg, ρLstOM_eq, seqAt_lst, seqAt_tup, seqAt_ref, ρMulT_int, ρMulT_str, ρMulT_tup, ρInU_one, ρPopAt_ref, eq_self, Bool.not_true, Bool.not_false, decide_true, decide_false, strsOf_c0, strsOf_c1, strsOf_c2, strsOf_c3, strsOf_c4, strsOf_c5, strsOf_c6, strsOf_c7, strsOf_c8, intsOf_c0, intsOf_c1, intsOf_c2, intsOf_c3, intsOf_c4, intsOf_c5, intsOf_c6, intsOf_c7, intsOf_c8, blsOf_c0, blsOf_c1, blsOf_c2, blsOf_c3, blsOf_c4, blsOf_c5, blsOf_c6, blsOf_c7, blsOf_c8, ixN_30, ixN_31, ixN_32, wipeD, if_true, if_false, Bool.false_eq_true, Bool.true_eq_false, true_and, and_true, ρAdd_int, ρAdd_str, ρAdd_tup, ρAdd_lst, ρAdd_rl, ρI_int, ρI0_int, ρMul_int, ρMul_str, ρNeg_int, ρCmp_int, ρCmp_str, ρIsN_eq, ρNotN_eq, isNonD_bl, isNonD_int, isNonD_str, isNonD_tup, isNonD_lst, isNonD_ref, isNonD_non, ρSgn_one, ρAbs_int, ρMax_two, ρMin_two, ρMax_lst, ρMin_lst, ρInt_int, ρInt_bl, ρStr_int, ρLen_str, ρLen_tup, ρLen_lst, ρLen_ref, ρSum_lst, ρAll_lst, ρAny_lst, ρTupO_tup, ρTupO_lst, ρIsi_eq, is_non_int, is_non_bool, is_non_str, is_non_tuple, is_non_list, is_bl_int, is_bl_bool, is_bl_str, is_bl_tuple, is_bl_list, is_int_int, is_int_bool, is_int_str, is_int_tuple, is_int_list, is_str_int, is_str_bool, is_str_str, is_str_tuple, is_str_list, is_tup_int, is_tup_bool, is_tup_str, is_tup_tuple, is_tup_list, is_lst_int, is_lst_bool, is_lst_str, is_lst_tuple, is_lst_list, tyN_non, tyN_bl, tyN_int, tyN_str, tyN_tup, tyN_lst, ρIx_tup, ρIx_lst, ρIx_str, ρIx_ref, ρSl_str, ρSl_lst, ρSl_tup, ρApp_ref, θLst_ref, θStr_str, ςLst_ref, ρJoin_lst, γTup_tup, atI_0, atI_1, atI_2, atI_3, atI_4, atI_5, atI_6, atI_7, ρEqR_eq, ρNeR_eq, resD_non, resD_bl, resD_int, resD_str, resD_tup, resD_lst, eqA_nn, eqA_ii, eqA_bb, eqA_ss, eqA_ni, eqA_in, eqA_nb, eqA_bn, eqA_ns, eqA_sn, eqA_is, eqA_si, eqA_tt, eqA_ll, eqA_tl, eqA_lt, eqA_tn, eqA_nt, eqA_ti', eqA_it, eqA_ts, eqA_st, shB_non, shB_bl, shB_int, shB_str, shB_t63, shB_t62, shB_t61, shB_t60, shB_t59, shB_l63, shB_l62, shB_l61, shB_l60, shBs_nil, shBs_cons, shBs_append, shBs_ints, eqDs_nil, eqDs_cons, eqDs_cn, eqDs_nc, eqDs_ints, eqDs_strs, eqD_ii, eqD_bb, eqD_ss, eqD_tt, eqD_ll, eqD_nn, ρLstO_seq, ρTupO_ref, Option.isSome_some, dNewK, dNewT, dGetK, dGetT, dInK, dInT, dPutK, dPutT, dAugK, dAugT, dGet2K, dGet2T, dPop1K, onRef_eq, dkAt_same, dtAt_same, dkW_same, dtW_same, keyOf_int, keyOf_str, keysOf_ii, keysOf_iii, ιEnum_eq, onSq_tup, onSq_lst, ρLtV_int, ρLtV_str, ρLtV_tup, ρPop_ref, ρIdx_lst, dFld, dSFld, dSFldAug, dMeth, dMake, dMethK, dMakeK, dEqI, insAt_same, lkF_cons, lkF_nil, putFD_cons, putFD_nil, ρIsC_non, ρIsC_ref, ρLenD_eq, dSortIt, ρSortD_eq, ρMinD_eq, ρMaxD_eq, dMet, dTm, mem_h, mem_h2, onBool_eq, insOrNon, ρCopy_ref, ιItems, ιVals, ιKeys, lkW_same, dLockE, dLockS, ρCopyT_ref, ρInX_eq, itsD_tup, itsD_lst, itsD_ref, dStar, ρSortKI_ref, ρRemX_ref, dForM, dLcR, Cs_shape, Cs__calls, ne___eq_____calls, ne___eq____shape, ne___init_____calls, ne___init____shape, ne__calls____eq__, ne__calls____init__, ne__calls__call, ne__calls__calls, ne__calls__demand_ends, ne__calls__end, ne__calls__free_outlets, ne__calls__has_outlet, ne__calls__is_behind_free, ne__calls__is_blocked, ne__calls__is_front_free, ne__calls__look_at_ends, ne__calls__middles, ne__calls__shape, ne__calls__twin, ne__calls__ways, ne_call___calls, ne_call__shape, ne_calls___calls, ne_calls__shape, ne_demand_ends___calls, ne_demand_ends__shape, ne_end___calls, ne_end__shape, ne_free_outlets___calls, ne_free_outlets__shape, ne_has_outlet___calls, ne_has_outlet__shape, ne_is_behind_free___calls, ne_is_behind_free__shape, ne_is_blocked___calls, ne_is_blocked__shape, ne_is_front_free___calls, ne_is_front_free__shape, ne_look_at_ends___calls, ne_look_at_ends__shape, ne_middles___calls, ne_middles__shape, ne_shape____eq__, ne_shape____init__, ne_shape___calls, ne_shape__call, ne_shape__calls, ne_shape__demand_ends, ne_shape__end, ne_shape__free_outlets, ne_shape__has_outlet, ne_shape__is_behind_free, ne_shape__is_blocked, ne_shape__is_front_free, ne_shape__look_at_ends, ne_shape__middles, ne_shape__twin, ne_shape__ways, ne_twin___calls, ne_twin__shape, ne_ways___calls, ne_ways__shape, sp_is_in_eq, sp_is_tuple_eq, sp_demand_eq, sp__law_dice_eq, sp__law_roll_eq, sp__law_pick_eq]
  have ix1 : ∀ (τ : TD) (k : DK), ρIx τ (shD s) (.int 1) k = k τ (.int s.m) := fun τ k => by simp only [shD, dVar, dC, dOp, dUn, dTest_eq, dAnd, dOr, dNot, dAndV_eq, dOrV_eq, dNotV_eq, dIf, dChain_eq, dNil, dCons, dTup, dLst, dLstM, dCB, dBM, dNoPart, dPart_eq, dSl, dCall, dCallK, dNext, dBrk, dCnt, dSeq, dDrop, dRet, dRetN, dIfS, γName, γNil, γCons, γSub, dAsg, dPar, dPar3, dAug, ιSeq_eq, ιZip, ιRng1_eq, ιRng2_eq, dFor, dLc, dLcM, dYes, dT, dTold, onBl_eq, onInt_eq, onSeq_lst, onSeq_tup, onSeq_str, onSome_eq, lstAt_same, dRaise, startD, List.map_cons, List.map_nil, List.length_cons, List.length_nil, List.replicate_succ, List.replicate_zero, List.cons_append, List.nil_append, List.append_nil, List.getElem?_cons_zero, List.getElem?_cons_succ, List.set_cons_zero, List.set_cons_succ, Nat.reduceAdd, Nat.reduceSub, Nat.zero_add, Nat.sub_self, ρEq_int, ρEq_str, ρEq_bl, ρNe_int, ρNe_str, ρNe_bl, ρEq_t3, ρNe_t3, ρEq_t2, ρNe_t2, intsOf_mapf, strsOf_mapf, blsOf_mapf, gK_01_0, gK_02_01, gK_02_10, gK_03_012, gK_03_021, gK_03_102, gK_03_120, gK_03_201, gK_03_210, gK_11_0, gK_12_01, gK_12_10, gK_13_012, gK_13_021, gK_13_102, gK_13_120, gK_13_201, gK_13_210, dLstRg, ρLstOM_eq, seqAt_lst, seqAt_tup, seqAt_ref, ρMulT_int, ρMulT_str, ρMulT_tup, ρInU_one, ρPopAt_ref, eq_self, Bool.not_true, Bool.not_false, decide_true, decide_false, strsOf_c0, strsOf_c1, strsOf_c2, strsOf_c3, strsOf_c4, strsOf_c5, strsOf_c6, strsOf_c7, strsOf_c8, intsOf_c0, intsOf_c1, intsOf_c2, intsOf_c3, intsOf_c4, intsOf_c5, intsOf_c6, intsOf_c7, intsOf_c8, blsOf_c0, blsOf_c1, blsOf_c2, blsOf_c3, blsOf_c4, blsOf_c5, blsOf_c6, blsOf_c7, blsOf_c8, ixN_30, ixN_31, ixN_32, wipeD, if_true, if_false, Bool.false_eq_true, Bool.true_eq_false, true_and, and_true, ρAdd_int, ρAdd_str, ρAdd_tup, ρAdd_lst, ρAdd_rl, ρI_int, ρI0_int, ρMul_int, ρMul_str, ρNeg_int, ρCmp_int, ρCmp_str, ρIsN_eq, ρNotN_eq, isNonD_bl, isNonD_int, isNonD_str, isNonD_tup, isNonD_lst, isNonD_ref, isNonD_non, ρSgn_one, ρAbs_int, ρMax_two, ρMin_two, ρMax_lst, ρMin_lst, ρInt_int, ρInt_bl, ρStr_int, ρLen_str, ρLen_tup, ρLen_lst, ρLen_ref, ρSum_lst, ρAll_lst, ρAny_lst, ρTupO_tup, ρTupO_lst, ρIsi_eq, is_non_int, is_non_bool, is_non_str, is_non_tuple, is_non_list, is_bl_int, is_bl_bool, is_bl_str, is_bl_tuple, is_bl_list, is_int_int, is_int_bool, is_int_str, is_int_tuple, is_int_list, is_str_int, is_str_bool, is_str_str, is_str_tuple, is_str_list, is_tup_int, is_tup_bool, is_tup_str, is_tup_tuple, is_tup_list, is_lst_int, is_lst_bool, is_lst_str, is_lst_tuple, is_lst_list, tyN_non, tyN_bl, tyN_int, tyN_str, tyN_tup, tyN_lst, ρIx_tup, ρIx_lst, ρIx_str, ρIx_ref, ρSl_str, ρSl_lst, ρSl_tup, ρApp_ref, θLst_ref, θStr_str, ςLst_ref, ρJoin_lst, γTup_tup, atI_0, atI_1, atI_2, atI_3, atI_4, atI_5, atI_6, atI_7, ρEqR_eq, ρNeR_eq, resD_non, resD_bl, resD_int, resD_str, resD_tup, resD_lst, eqA_nn, eqA_ii, eqA_bb, eqA_ss, eqA_ni, eqA_in, eqA_nb, eqA_bn, eqA_ns, eqA_sn, eqA_is, eqA_si, eqA_tt, eqA_ll, eqA_tl, eqA_lt, eqA_tn, eqA_nt, eqA_ti', eqA_it, eqA_ts, eqA_st, shB_non, shB_bl, shB_int, shB_str, shB_t63, shB_t62, shB_t61, shB_t60, shB_t59, shB_l63, shB_l62, shB_l61, shB_l60, shBs_nil, shBs_cons, shBs_append, shBs_ints, eqDs_nil, eqDs_cons, eqDs_cn, eqDs_nc, eqDs_ints, eqDs_strs, eqD_ii, eqD_bb, eqD_ss, eqD_tt, eqD_ll, eqD_nn, ρLstO_seq, ρTupO_ref, Option.isSome_some, dNewK, dNewT, dGetK, dGetT, dInK, dInT, dPutK, dPutT, dAugK, dAugT, dGet2K, dGet2T, dPop1K, onRef_eq, dkAt_same, dtAt_same, dkW_same, dtW_same, keyOf_int, keyOf_str, keysOf_ii, keysOf_iii, ιEnum_eq, onSq_tup, onSq_lst, ρLtV_int, ρLtV_str, ρLtV_tup, ρPop_ref, ρIdx_lst, dFld, dSFld, dSFldAug, dMeth, dMake, dMethK, dMakeK, dEqI, insAt_same, lkF_cons, lkF_nil, putFD_cons, putFD_nil, ρIsC_non, ρIsC_ref, ρLenD_eq, dSortIt, ρSortD_eq, ρMinD_eq, ρMaxD_eq, dMet, dTm, mem_h, mem_h2, onBool_eq, insOrNon, ρCopy_ref, ιItems, ιVals, ιKeys, lkW_same, dLockE, dLockS, ρCopyT_ref, ρInX_eq, itsD_tup, itsD_lst, itsD_ref, dStar, ρSortKI_ref, ρRemX_ref, dForM, dLcR, Cs_shape, Cs__calls, ne___eq_____calls, ne___eq____shape, ne___init_____calls, ne___init____shape, ne__calls____eq__, ne__calls____init__, ne__calls__call, ne__calls__calls, ne__calls__demand_ends, ne__calls__end, ne__calls__free_outlets, ne__calls__has_outlet, ne__calls__is_behind_free, ne__calls__is_blocked, ne__calls__is_front_free, ne__calls__look_at_ends, ne__calls__middles, ne__calls__shape, ne__calls__twin, ne__calls__ways, ne_call___calls, ne_call__shape, ne_calls___calls, ne_calls__shape, ne_demand_ends___calls, ne_demand_ends__shape, ne_end___calls, ne_end__shape, ne_free_outlets___calls, ne_free_outlets__shape, ne_has_outlet___calls, ne_has_outlet__shape, ne_is_behind_free___calls, ne_is_behind_free__shape, ne_is_blocked___calls, ne_is_blocked__shape, ne_is_front_free___calls, ne_is_front_free__shape, ne_look_at_ends___calls, ne_look_at_ends__shape, ne_middles___calls, ne_middles__shape, ne_shape____eq__, ne_shape____init__, ne_shape___calls, ne_shape__call, ne_shape__calls, ne_shape__demand_ends, ne_shape__end, ne_shape__free_outlets, ne_shape__has_outlet, ne_shape__is_behind_free, ne_shape__is_blocked, ne_shape__is_front_free, ne_shape__look_at_ends, ne_shape__middles, ne_shape__twin, ne_shape__ways, ne_twin___calls, ne_twin__shape, ne_ways___calls, ne_ways__shape, sp_is_in_eq, sp_is_tuple_eq, sp_demand_eq, sp__law_dice_eq, sp__law_roll_eq, sp__law_pick_eq]
  have ix2 : ∀ (τ : TD) (k : DK), ρIx τ (shD s) (.int 2) k = k τ (.int s.r) := fun τ k => by simp only [shD, dVar, dC, dOp, dUn, dTest_eq, dAnd, dOr, dNot, dAndV_eq, dOrV_eq, dNotV_eq, dIf, dChain_eq, dNil, dCons, dTup, dLst, dLstM, dCB, dBM, dNoPart, dPart_eq, dSl, dCall, dCallK, dNext, dBrk, dCnt, dSeq, dDrop, dRet, dRetN, dIfS, γName, γNil, γCons, γSub, dAsg, dPar, dPar3, dAug, ιSeq_eq, ιZip, ιRng1_eq, ιRng2_eq, dFor, dLc, dLcM, dYes, dT, dTold, onBl_eq, onInt_eq, onSeq_lst, onSeq_tup, onSeq_str, onSome_eq, lstAt_same, dRaise, startD, List.map_cons, List.map_nil, List.length_cons, List.length_nil, List.replicate_succ, List.replicate_zero, List.cons_append, List.nil_append, List.append_nil, List.getElem?_cons_zero, List.getElem?_cons_succ, List.set_cons_zero, List.set_cons_succ, Nat.reduceAdd, Nat.reduceSub, Nat.zero_add, Nat.sub_self, ρEq_int, ρEq_str, ρEq_bl, ρNe_int, ρNe_str, ρNe_bl, ρEq_t3, ρNe_t3, ρEq_t2, ρNe_t2, intsOf_mapf, strsOf_mapf, blsOf_mapf, gK_01_0, gK_02_01, gK_02_10, gK_03_012, gK_03_021, gK_03_102, gK_03_120, gK_03_201, gK_03_210, gK_11_0, gK_12_01, gK_12_10, gK_13_012, gK_13_021, gK_13_102, gK_13_120, gK_13_201, gK_13_210, dLstRg, ρLstOM_eq, seqAt_lst, seqAt_tup, seqAt_ref, ρMulT_int, ρMulT_str, ρMulT_tup, ρInU_one, ρPopAt_ref, eq_self, Bool.not_true, Bool.not_false, decide_true, decide_false, strsOf_c0, strsOf_c1, strsOf_c2, strsOf_c3, strsOf_c4, strsOf_c5, strsOf_c6, strsOf_c7, strsOf_c8, intsOf_c0, intsOf_c1, intsOf_c2, intsOf_c3, intsOf_c4, intsOf_c5, intsOf_c6, intsOf_c7, intsOf_c8, blsOf_c0, blsOf_c1, blsOf_c2, blsOf_c3, blsOf_c4, blsOf_c5, blsOf_c6, blsOf_c7, blsOf_c8, ixN_30, ixN_31, ixN_32, wipeD, if_true, if_false, Bool.false_eq_true, Bool.true_eq_false, true_and, and_true, ρAdd_int, ρAdd_str, ρAdd_tup, ρAdd_lst, ρAdd_rl, ρI_int, ρI0_int, ρMul_int, ρMul_str, ρNeg_int, ρCmp_int, ρCmp_str, ρIsN_eq, ρNotN_eq, isNonD_bl, isNonD_int, isNonD_str, isNonD_tup, isNonD_lst, isNonD_ref, isNonD_non, ρSgn_one, ρAbs_int, ρMax_two, ρMin_two, ρMax_lst, ρMin_lst, ρInt_int, ρInt_bl, ρStr_int, ρLen_str, ρLen_tup, ρLen_lst, ρLen_ref, ρSum_lst, ρAll_lst, ρAny_lst, ρTupO_tup, ρTupO_lst, ρIsi_eq, is_non_int, is_non_bool, is_non_str, is_non_tuple, is_non_list, is_bl_int, is_bl_bool, is_bl_str, is_bl_tuple, is_bl_list, is_int_int, is_int_bool, is_int_str, is_int_tuple, is_int_list, is_str_int, is_str_bool, is_str_str, is_str_tuple, is_str_list, is_tup_int, is_tup_bool, is_tup_str, is_tup_tuple, is_tup_list, is_lst_int, is_lst_bool, is_lst_str, is_lst_tuple, is_lst_list, tyN_non, tyN_bl, tyN_int, tyN_str, tyN_tup, tyN_lst, ρIx_tup, ρIx_lst, ρIx_str, ρIx_ref, ρSl_str, ρSl_lst, ρSl_tup, ρApp_ref, θLst_ref, θStr_str, ςLst_ref, ρJoin_lst, γTup_tup, atI_0, atI_1, atI_2, atI_3, atI_4, atI_5, atI_6, atI_7, ρEqR_eq, ρNeR_eq, resD_non, resD_bl, resD_int, resD_str, resD_tup, resD_lst, eqA_nn, eqA_ii, eqA_bb, eqA_ss, eqA_ni, eqA_in, eqA_nb, eqA_bn, eqA_ns, eqA_sn, eqA_is, eqA_si, eqA_tt, eqA_ll, eqA_tl, eqA_lt, eqA_tn, eqA_nt, eqA_ti', eqA_it, eqA_ts, eqA_st, shB_non, shB_bl, shB_int, shB_str, shB_t63, shB_t62, shB_t61, shB_t60, shB_t59, shB_l63, shB_l62, shB_l61, shB_l60, shBs_nil, shBs_cons, shBs_append, shBs_ints, eqDs_nil, eqDs_cons, eqDs_cn, eqDs_nc, eqDs_ints, eqDs_strs, eqD_ii, eqD_bb, eqD_ss, eqD_tt, eqD_ll, eqD_nn, ρLstO_seq, ρTupO_ref, Option.isSome_some, dNewK, dNewT, dGetK, dGetT, dInK, dInT, dPutK, dPutT, dAugK, dAugT, dGet2K, dGet2T, dPop1K, onRef_eq, dkAt_same, dtAt_same, dkW_same, dtW_same, keyOf_int, keyOf_str, keysOf_ii, keysOf_iii, ιEnum_eq, onSq_tup, onSq_lst, ρLtV_int, ρLtV_str, ρLtV_tup, ρPop_ref, ρIdx_lst, dFld, dSFld, dSFldAug, dMeth, dMake, dMethK, dMakeK, dEqI, insAt_same, lkF_cons, lkF_nil, putFD_cons, putFD_nil, ρIsC_non, ρIsC_ref, ρLenD_eq, dSortIt, ρSortD_eq, ρMinD_eq, ρMaxD_eq, dMet, dTm, mem_h, mem_h2, onBool_eq, insOrNon, ρCopy_ref, ιItems, ιVals, ιKeys, lkW_same, dLockE, dLockS, ρCopyT_ref, ρInX_eq, itsD_tup, itsD_lst, itsD_ref, dStar, ρSortKI_ref, ρRemX_ref, dForM, dLcR, Cs_shape, Cs__calls, ne___eq_____calls, ne___eq____shape, ne___init_____calls, ne___init____shape, ne__calls____eq__, ne__calls____init__, ne__calls__call, ne__calls__calls, ne__calls__demand_ends, ne__calls__end, ne__calls__free_outlets, ne__calls__has_outlet, ne__calls__is_behind_free, ne__calls__is_blocked, ne__calls__is_front_free, ne__calls__look_at_ends, ne__calls__middles, ne__calls__shape, ne__calls__twin, ne__calls__ways, ne_call___calls, ne_call__shape, ne_calls___calls, ne_calls__shape, ne_demand_ends___calls, ne_demand_ends__shape, ne_end___calls, ne_end__shape, ne_free_outlets___calls, ne_free_outlets__shape, ne_has_outlet___calls, ne_has_outlet__shape, ne_is_behind_free___calls, ne_is_behind_free__shape, ne_is_blocked___calls, ne_is_blocked__shape, ne_is_front_free___calls, ne_is_front_free__shape, ne_look_at_ends___calls, ne_look_at_ends__shape, ne_middles___calls, ne_middles__shape, ne_shape____eq__, ne_shape____init__, ne_shape___calls, ne_shape__call, ne_shape__calls, ne_shape__demand_ends, ne_shape__end, ne_shape__free_outlets, ne_shape__has_outlet, ne_shape__is_behind_free, ne_shape__is_blocked, ne_shape__is_front_free, ne_shape__look_at_ends, ne_shape__middles, ne_shape__twin, ne_shape__ways, ne_twin___calls, ne_twin__shape, ne_ways___calls, ne_ways__shape, sp_is_in_eq, sp_is_tuple_eq, sp_demand_eq, sp__law_dice_eq, sp__law_roll_eq, sp__law_pick_eq]
  refine dSeq_step fun Z hZ => ?_
  try simp! only [true_and, ix0, ix2]
  refine ⟨mul_ok ⟨by omega, by omega⟩, ?_⟩
  rw [show s.n * s.r = s.ends from rfl]
  refine ⟨szn, m, zs, hp, hd, by omega, ⟨by decide, by decide⟩, fun y1 b d1 m1 => ?_⟩
  refine ⟨szn, hZ _ _ ?_⟩
  clear hZ Z
  have h := h.keep (F := [p]) (τ' := tset τ p (.lst y1)) (SubX.refl.set (by simp)) (not1 (Ne.symm pa)) (not1 (Ne.symm pq))
  have hb : (tyN b).isSome = true ∧ isInD b 0 (s.ends - 1) = false := by
    simp only [seqOf, List.mem_cons, List.not_mem_nil, or_false] at m1
    rcases m1 with rfl | rfl | rfl | rfl
    · exact ⟨rfl, rfl⟩
    · exact ⟨rfl, isIn_not (by omega)⟩
    · exact ⟨rfl, rfl⟩
    · exact ⟨rfl, rfl⟩
  have hp : lstAt (tset τ p (.lst y1)) p = some y1 := lstAt_same
  generalize tset τ p (.lst y1) = τ1 at h hp
  refine dSeq_step fun Z hZ => ?_
  try simp! only [true_and, h.ins, hp]
  refine ⟨szn, szn, szn, szn, szn, szn, szn, szn, szn, _, y1, rfl, d1, by omega, ⟨by decide, by decide⟩, fun y2 v d2 m2 a3 ha3 => ?_⟩
  have hv : tyT v = true ∧ isShD v = false := by
    simp only [seqOf, List.mem_cons, List.not_mem_nil, or_false] at m2
    rcases m2 with rfl | rfl | rfl | rfl | rfl | rfl | rfl | rfl | rfl <;> exact ⟨rfl, rfl⟩
  have h := (h.keep (F := [p]) (τ' := tset τ1 p (.lst y2)) (SubX.refl.set (by simp)) (not1 (Ne.symm pa)) (not1 (Ne.symm pq))).new (u := .ins (He.ga K "Fabric") []) ha3
  refine sp_Fabric___init___of ⟨insAt_same, hv.1, fun _ => ⟨rfl, rfl, szn, hZ _ _ ?_⟩, fun s' e ok' => ?_⟩
  · clear hZ Z
    generalize tset (tset τ1 p (.lst y2)) a3 (.ins (He.ga K "Fabric") []) = τ2 at h
    refine dSeq_step fun Z hZ => ?_
    have n0 : isInD (.int 0) 0 (s.ends - 1) = true := isIn_of ⟨by omega, by omega⟩
    have nm : isInD (.int s.m) 0 (s.m - 1) = false := isIn_not (by omega)
    have n0' : isInD (.int 0) 0 (s.ends - 1) = false → False := fun e => absurd (n0.symm.trans e) (by decide)
    have nb' : isInD b 0 (s.ends - 1) = true → False := fun e => absurd (hb.2.symm.trans e) (by decide)
    have nbi : ∀ i : Int, b = .int i → (0 ≤ i ∧ i ≤ s.ends - 1) → False := fun i e hi => by
      subst e
      exact nb' (isIn_of hi)
    try simp! only [true_and, h.ins]
    refine sp_Fabric_call_of ⟨h, ok, hb.1, fun _ => ⟨rfl, rfl, ?_⟩, fun e => (nb' e).elim⟩
    try simp! only [true_and, h.ins]
    refine sp_Fabric_call_of ⟨h, ok, rfl, fun e => (n0' e).elim, fun _ => ⟨hb.1, fun _ => ⟨rfl, rfl, ?_⟩, fun e => (nb' e).elim⟩⟩
    try simp! only [true_and, h.ins, ix1]
    refine sp_Fabric_call_of ⟨h, ok, rfl, fun e => (n0' e).elim, fun _ => ⟨rfl, fun e => (n0' e).elim, fun _ => ⟨rfl, fun _ => ⟨rfl, rfl, szn, szn, hZ _ _ ?_⟩, fun i o m' ei eo em hm => ?_⟩⟩⟩
    · clear hZ Z
      refine dSeq_step fun Z hZ => ?_
      try simp! only [true_and, h.ins]
      refine sp_Fabric_end_of ⟨h, ok, hb.1, fun _ => ⟨rfl, rfl, ?_⟩, fun i ei hi => (nbi i ei hi).elim⟩
      try simp! only [true_and, h.ins]
      refine sp_Fabric_middles_of ⟨h, ok, hb.1, fun _ => ⟨rfl, rfl, ?_⟩, fun e => (nb' e).elim⟩
      try simp! only [true_and, h.ins]
      refine sp_Fabric_middles_of ⟨h, ok, rfl, fun e => (n0' e).elim, fun _ => ⟨hb.1, fun _ => ⟨rfl, rfl, szn, szn, hZ _ _ ?_⟩, fun i o ei eo ho => (nbi o eo ho).elim⟩⟩
      clear hZ Z
      try simp! only [true_and]
      refine ⟨szn, by decide +kernel, by decide +kernel, ?_⟩
      exact Fin.same (hk _)
    · cases em
      have hm : 0 ≤ s.m ∧ s.m ≤ s.m - 1 := hm
      omega
  · rw [e, isShD_ok ok'] at hv
    cases hv.2
end
end LW

set_option Elab.async false
set_option linter.all false
set_option maxRecDepth 100000
set_option maxHeartbeats 0
namespace LW
open PySem PySem.Spec PyProof.Rows L2 DL DX
section
variable {w : World} {K : PySem.W.Frag} {mg : Str → Option Value} {base : Heap}
local macro_rules | `(tactic| simp! only [$xs,*]) => `(tactic| simp only [dVar, dC, dOp, dUn, dTest_eq, dAnd, dOr, dNot, dAndV_eq, dOrV_eq, dNotV_eq, dIf, dChain_eq, dNil, dCons, dTup, dLst, dLstM, dCB, dBM, dNoPart, dPart_eq, dSl, dCall, dCallK, dNext, dBrk, dCnt, dSeq, dDrop, dRet, dRetN, dIfS, γName, γNil, γCons, γSub, dAsg, dPar, dPar3, dAug, ιSeq_eq, ιZip, ιRng1_eq, ιRng2_eq, dFor, dLc, dLcM, dYes, dT, dTold, onBl_eq, onInt_eq, onSeq_lst, onSeq_tup, onSeq_str, onSome_eq, lstAt_same, dRaise, startD, List.map_cons, List.map_nil, List.length_cons, List.length_nil, List.replicate_succ, List.replicate_zero, List.cons_append, List.nil_append, List.append_nil, List.getElem?_cons_zero, List.getElem?_cons_succ, List.set_cons_zero, List.set_cons_succ, Nat.reduceAdd, Nat.reduceSub, Nat.zero_add, Nat.sub_self, ρEq_int, ρEq_str, ρEq_bl, ρNe_int, ρNe_str, ρNe_bl, ρEq_t3, ρNe_t3, ρEq_t2, ρNe_t2, intsOf_mapf, strsOf_mapf, blsOf_mapf, gK_01_0, gK_02_01, gK_02_10, gK_03_012, gK_03_021, gK_03_102, gK_03_120, gK_03_201, gK_03_210, gK_11_0, gK_12_01, gK_12_10, gK_13_012, gK_13_021, gK_13_102, gK_13_120, gK_13_201, gK_13_210, dLstRg, ρLstOM_eq, seqAt_lst, seqAt_tup, seqAt_ref, ρMulT_int, ρMulT_str, ρMulT_tup, ρInU_one, ρPopAt_ref, eq_self, Bool.not_true, Bool.not_false, decide_true, decide_false, strsOf_c0, strsOf_c1, strsOf_c2, strsOf_c3, strsOf_c4, strsOf_c5, strsOf_c6, strsOf_c7, strsOf_c8, intsOf_c0, intsOf_c1, intsOf_c2, intsOf_c3, intsOf_c4, intsOf_c5, intsOf_c6, intsOf_c7, intsOf_c8, blsOf_c0, blsOf_c1, blsOf_c2, blsOf_c3, blsOf_c4, blsOf_c5, blsOf_c6, blsOf_c7, blsOf_c8, ixN_30, ixN_31, ixN_32, wipeD, if_true, if_false, Bool.false_eq_true, Bool.true_eq_false, true_and, and_true, ρAdd_int, ρAdd_str, ρAdd_tup, ρAdd_lst, ρAdd_rl, ρI_int, ρI0_int, ρMul_int, ρMul_str, ρNeg_int, ρCmp_int, ρCmp_str, ρIsN_eq, ρNotN_eq, isNonD_bl, isNonD_int, isNonD_str, isNonD_tup, isNonD_lst, isNonD_ref, isNonD_non, ρSgn_one, ρAbs_int, ρMax_two, ρMin_two, ρMax_lst, ρMin_lst, ρInt_int, ρInt_bl, ρStr_int, ρLen_str, ρLen_tup, ρLen_lst, ρLen_ref, ρSum_lst, ρAll_lst, ρAny_lst, ρTupO_tup, ρTupO_lst, ρIsi_eq, is_non_int, is_non_bool, is_non_str, is_non_tuple, is_non_list, is_bl_int, is_bl_bool, is_bl_str, is_bl_tuple, is_bl_list, is_int_int, is_int_bool, is_int_str, is_int_tuple, is_int_list, is_str_int, is_str_bool, is_str_str, is_str_tuple, is_str_list, is_tup_int, is_tup_bool, is_tup_str, is_tup_tuple, is_tup_list, is_lst_int, is_lst_bool, is_lst_str, is_lst_tuple, is_lst_list, tyN_non, tyN_bl, tyN_int, tyN_str, tyN_tup, tyN_lst, ρIx_tup, ρIx_lst, ρIx_str, ρIx_ref, ρSl_str, ρSl_lst, ρSl_tup, ρApp_ref, θLst_ref, θStr_str, ςLst_ref, ρJoin_lst, γTup_tup, atI_0, atI_1, atI_2, atI_3, atI_4, atI_5, atI_6, atI_7, ρEqR_eq, ρNeR_eq, resD_non, resD_bl, resD_int, resD_str, resD_tup, resD_lst, eqA_nn, eqA_ii, eqA_bb, eqA_ss, eqA_ni, eqA_in, eqA_nb, eqA_bn, eqA_ns, eqA_sn, eqA_is, eqA_si, eqA_tt, eqA_ll, eqA_tl, eqA_lt, eqA_tn, eqA_nt, eqA_ti', eqA_it, eqA_ts, eqA_st, shB_non, shB_bl, shB_int, shB_str, shB_t63, shB_t62, shB_t61, shB_t60, shB_t59, shB_l63, shB_l62, shB_l61, shB_l60, shBs_nil, shBs_cons, shBs_append, shBs_ints, eqDs_nil, eqDs_cons, eqDs_cn, eqDs_nc, eqDs_ints, eqDs_strs, eqD_ii, eqD_bb, eqD_ss, eqD_tt, eqD_ll, eqD_nn, ρLstO_seq, ρTupO_ref, Option.isSome_some, dNewK, dNewT, dGetK, dGetT, dInK, dInT, dPutK, dPutT, dAugK, dAugT, dGet2K, dGet2T, dPop1K, onRef_eq, dkAt_same, dtAt_same, dkW_same, dtW_same, keyOf_int, keyOf_str, keysOf_ii, keysOf_iii, ιEnum_eq, onSq_tup, onSq_lst, ρLtV_int, ρLtV_str, ρLtV_tup, ρPop_ref, ρIdx_lst, dFld, dSFld, dSFldAug, dMeth, dMake, dMethK, dMakeK, dEqI, insAt_same, lkF_cons, lkF_nil, putFD_cons, putFD_nil, ρIsC_non, ρIsC_ref, ρLenD_eq, dSortIt, ρSortD_eq, ρMinD_eq, ρMaxD_eq, dMet, dTm, mem_h, mem_h2, onBool_eq, insOrNon, ρCopy_ref, ιItems, ιVals, ιKeys, lkW_same, dLockE, dLockS, ρCopyT_ref, ρInX_eq, itsD_tup, itsD_lst, itsD_ref, dStar, ρSortKI_ref, ρRemX_ref, dForM, dLcR, Cs_shape, Cs__calls, ne___eq_____calls, ne___eq____shape, ne___init_____calls, ne___init____shape, ne__calls____eq__, ne__calls____init__, ne__calls__call, ne__calls__calls, ne__calls__demand_ends, ne__calls__end, ne__calls__free_outlets, ne__calls__has_outlet, ne__calls__is_behind_free, ne__calls__is_blocked, ne__calls__is_front_free, ne__calls__look_at_ends, ne__calls__middles, ne__calls__shape, ne__calls__twin, ne__calls__ways, ne_call___calls, ne_call__shape, ne_calls___calls, ne_calls__shape, ne_demand_ends___calls, ne_demand_ends__shape, ne_end___calls, ne_end__shape, ne_free_outlets___calls, ne_free_outlets__shape, ne_has_outlet___calls, ne_has_outlet__shape, ne_is_behind_free___calls, ne_is_behind_free__shape, ne_is_blocked___calls, ne_is_blocked__shape, ne_is_front_free___calls, ne_is_front_free__shape, ne_look_at_ends___calls, ne_look_at_ends__shape, ne_middles___calls, ne_middles__shape, ne_shape____eq__, ne_shape____init__, ne_shape___calls, ne_shape__call, ne_shape__calls, ne_shape__demand_ends, ne_shape__end, ne_shape__free_outlets, ne_shape__has_outlet, ne_shape__is_behind_free, ne_shape__is_blocked, ne_shape__is_front_free, ne_shape__look_at_ends, ne_shape__middles, ne_shape__twin, ne_shape__ways, ne_twin___calls, ne_twin__shape, ne_ways___calls, ne_ways__shape, sp_is_in_eq, sp_is_tuple_eq, sp_demand_eq, sp__law_dice_eq, sp__law_roll_eq, sp__law_pick_eq, $xs,*])
local macro_rules | `(tactic| dsimp! only [$xs,*]) => `(tactic| simp only [dVar, dC, dOp, dUn, dTest_eq, dAnd, dOr, dNot, dAndV_eq, dOrV_eq, dNotV_eq, dIf, dChain_eq, dNil, dCons, dTup, dLst, dLstM, dCB, dBM, dNoPart, dPart_eq, dSl, dCall, dCallK, dNext, dBrk, dCnt, dDrop, dRet, dRetN, dIfS, γName, γNil, γCons, γSub, dAsg, dPar, dPar3, dAug, ιSeq_eq, ιZip, ιRng1_eq, ιRng2_eq, dFor, dLc, dLcM, dYes, dT, dTold, onBl_eq, onInt_eq, onSeq_lst, onSeq_tup, onSeq_str, onSome_eq, lstAt_same, dRaise, startD, List.map_cons, List.map_nil, List.length_cons, List.length_nil, List.replicate_succ, List.replicate_zero, List.cons_append, List.nil_append, List.append_nil, List.getElem?_cons_zero, List.getElem?_cons_succ, List.set_cons_zero, List.set_cons_succ, Nat.reduceAdd, Nat.reduceSub, Nat.zero_add, Nat.sub_self, ρEq_int, ρEq_str, ρEq_bl, ρNe_int, ρNe_str, ρNe_bl, ρEq_t3, ρNe_t3, ρEq_t2, ρNe_t2, intsOf_mapf, strsOf_mapf, blsOf_mapf, gK_01_0, gK_02_01, gK_02_10, gK_03_012, gK_03_021, gK_03_102, gK_03_120, gK_03_201, gK_03_210, gK_11_0, gK_12_01, gK_12_10, gK_13_012, gK_13_021, gK_13_102, gK_13_120, gK_13_201, gK_13_210, dLstRg, ρLstOM_eq, seqAt_lst, seqAt_tup, seqAt_ref, ρMulT_int, ρMulT_str, ρMulT_tup, ρInU_one, ρPopAt_ref, eq_self, Bool.not_true, Bool.not_false, decide_true, decide_false, strsOf_c0, strsOf_c1, strsOf_c2, strsOf_c3, strsOf_c4, strsOf_c5, strsOf_c6, strsOf_c7, strsOf_c8, intsOf_c0, intsOf_c1, intsOf_c2, intsOf_c3, intsOf_c4, intsOf_c5, intsOf_c6, intsOf_c7, intsOf_c8, blsOf_c0, blsOf_c1, blsOf_c2, blsOf_c3, blsOf_c4, blsOf_c5, blsOf_c6, blsOf_c7, blsOf_c8, ixN_30, ixN_31, ixN_32, wipeD, if_true, if_false, Bool.false_eq_true, Bool.true_eq_false, true_and, and_true, ρAdd_int, ρAdd_str, ρAdd_tup, ρAdd_lst, ρAdd_rl, ρI_int, ρI0_int, ρMul_int, ρMul_str, ρNeg_int, ρCmp_int, ρCmp_str, ρIsN_eq, ρNotN_eq, isNonD_bl, isNonD_int, isNonD_str, isNonD_tup, isNonD_lst, isNonD_ref, isNonD_non, ρSgn_one, ρAbs_int, ρMax_two, ρMin_two, ρMax_lst, ρMin_lst, ρInt_int, ρInt_bl, ρStr_int, ρLen_str, ρLen_tup, ρLen_lst, ρLen_ref, ρSum_lst, ρAll_lst, ρAny_lst, ρTupO_tup, ρTupO_lst, ρIsi_eq, is_non_int, is_non_bool, is_non_str, is_non_tuple, is_non_list, is_bl_int, is_bl_bool, is_bl_str, is_bl_tuple, is_bl_list, is_int_int, is_int_bool, is_int_str, is_int_tuple, is_int_list, is_str_int, is_str_bool, is_str_str, is_str_tuple, is_str_list, is_tup_int, is_tup_bool, is_tup_str, is_tup_tuple, is_tup_list, is_lst_int, is_lst_bool, is_lst_str, is_lst_tuple, is_lst_list, tyN_non, tyN_bl, tyN_int, tyN_str, tyN_tup, tyN_lst, ρIx_tup, ρIx_lst, ρIx_str, ρIx_ref, ρSl_str, ρSl_lst, ρSl_tup, ρApp_ref, θLst_ref, θStr_str, ςLst_ref, ρJoin_lst, γTup_tup, atI_0, atI_1, atI_2, atI_3, atI_4, atI_5, atI_6, atI_7, ρEqR_eq, ρNeR_eq, resD_non, resD_bl, resD_int, resD_str, resD_tup, resD_lst, eqA_nn, eqA_ii, eqA_bb, eqA_ss, eqA_ni, eqA_in, eqA_nb, eqA_bn, eqA_ns, eqA_sn, eqA_is, eqA_si, eqA_tt, eqA_ll, eqA_tl, eqA_lt, eqA_tn, eqA_nt, eqA_ti', eqA_it, eqA_ts, eqA_st, shB_non, shB_bl, shB_int, shB_str, shB_t63, shB_t62, shB_t61, shB_t60, shB_t59, shB_l63, shB_l62, shB_l61, shB_l60, shBs_nil, shBs_cons, shBs_append, shBs_ints, eqDs_nil, eqDs_cons, eqDs_cn, eqDs_nc, eqDs_ints, eqDs_strs, eqD_ii, eqD_bb, eqD_ss, eqD_tt, eqD_ll, eqD_nn, ρLstO_seq, ρTupO_ref, Option.isSome_some, dNewK, dNewT, dGetK, dGetT, dInK, dInT, dPutK, dPutT, dAugK, dAugT, dGet2K, dGet2T, dPop1K, onRef_eq, dkAt_same, dtAt_same, dkW_same, dtW_same, keyOf_int, keyOf_str, keysOf_ii, keysOf_iii, ιEnum_eq, onSq_tup, onSq_lst, ρLtV_int, ρLtV_str, ρLtV_tup, ρPop_ref, ρIdx_lst, dFld, dSFld, dSFldAug, dMeth, dMake, dMethK, dMakeK, dEqI, insAt_same, lkF_cons, lkF_nil, putFD_cons, putFD_nil, ρIsC_non, ρIsC_ref, ρLenD_eq, dSortIt, ρSortD_eq, ρMinD_eq, ρMaxD_eq, dMet, dTm, mem_h, mem_h2, onBool_eq, insOrNon, ρCopy_ref, ιItems, ιVals, ιKeys, lkW_same, dLockE, dLockS, ρCopyT_ref, ρInX_eq, itsD_tup, itsD_lst, itsD_ref, dStar, ρSortKI_ref, ρRemX_ref, dForM, dLcR, Cs_shape, Cs__calls, ne___eq_____calls, ne___eq____shape, ne___init_____calls, ne___init____shape, ne__calls____eq__, ne__calls____init__, ne__calls__call, ne__calls__calls, ne__calls__demand_ends, ne__calls__end, ne__calls__free_outlets, ne__calls__has_outlet, ne__calls__is_behind_free, ne__calls__is_blocked, ne__calls__is_front_free, ne__calls__look_at_ends, ne__calls__middles, ne__calls__shape, ne__calls__twin, ne__calls__ways, ne_call___calls, ne_call__shape, ne_calls___calls, ne_calls__shape, ne_demand_ends___calls, ne_demand_ends__shape, ne_end___calls, ne_end__shape, ne_free_outlets___calls, ne_free_outlets__shape, ne_has_outlet___calls, ne_has_outlet__shape, ne_is_behind_free___calls, ne_is_behind_free__shape, ne_is_blocked___calls, ne_is_blocked__shape, ne_is_front_free___calls, ne_is_front_free__shape, ne_look_at_ends___calls, ne_look_at_ends__shape, ne_middles___calls, ne_middles__shape, ne_shape____eq__, ne_shape____init__, ne_shape___calls, ne_shape__call, ne_shape__calls, ne_shape__demand_ends, ne_shape__end, ne_shape__free_outlets, ne_shape__has_outlet, ne_shape__is_behind_free, ne_shape__is_blocked, ne_shape__is_front_free, ne_shape__look_at_ends, ne_shape__middles, ne_shape__twin, ne_shape__ways, ne_twin___calls, ne_twin__shape, ne_ways___calls, ne_ways__shape, sp_is_in_eq, sp_is_tuple_eq, sp_demand_eq, sp__law_dice_eq, sp__law_roll_eq, sp__law_pick_eq, $xs,*])
/-! ### _law_right -/
theorem sc__law_right : FnScope ["dice", "shape", "calls", "fabric", "turn", "before", "old"] ["dice"] (defScope s__law_right) := ⟨rfl, rfl, rfl, by decide +kernel, rfl, by decide +kernel, by decide +kernel⟩
theorem bn__law_right (M : Mod K mg) : L2.Binds K M.f__law_right.choose ["dice"] [] := fun_binds M.f__law_right.choose_spec fun _ _ _ _ _ _ us hl => match us, hl with | [_], _ => rfl
theorem shD_inj {s t : Shp} (h : shD s = shD t) : s = t := by
  unfold shD at h
  simp only [D.tup.injEq, List.cons.injEq, D.int.injEq, and_true] at h
  obtain ⟨n, m, r⟩ := t
  cases s
  simp_all
theorem sortOk_c3 (l : List C3) : sortOk (l.map c3D) :=
  ⟨_, pyAll_map (f := fun c : C3 => PyData.tuple [.int c.1, .int c.2.1, .int c.2.2]) (fun c => by unfold c3D; rw [pyOf_tup, pyAll_cons, pyAll_cons, pyAll_cons, pyAll_nil, pyOf_int, pyOf_int, pyOf_int]; rfl) l, PySem.W.AllAlike.of fun _ _ => rfl, PySem.W.Sortable.tuples fun _ => ⟨_, _, rfl⟩, fun p hp => by
    obtain ⟨a, _, rfl⟩ := List.mem_map.mp hp
    show PyData.depth (.tuple [.int a.1, .int a.2.1, .int a.2.2]) ≤ 60
    simp [PyData.depth, PyData.depthAll]⟩
theorem lstOf_ref {τ : TD} {a : Addr} {xs : List D} (h : lstAt τ a = some xs) : lstOf τ (.ref a) = some xs := by
  have := lstAt_iff h
  show (match τ a with | some (.lst xs) => some xs | _ => none) = _
  rw [this]
theorem sorted_calls {cs : List C3} (nd : (cs.map (·.1)).Nodup) : (cs.map c3D).mergeSort leD = (sortC cs).map c3D := by
  refine sort_key (key := fun c : C3 => c.1) (fun a b h => ?_) (List.mergeSort_perm _ _) ?_ nd
  · unfold c3D at h
    exact leD_fst rfl rfl h
  · have := List.pairwise_mergeSort (le := fun a b : C3 => leI a.1 b.1) (fun a b c h1 h2 => by unfold leI at h1 h2 ⊢; simp only [decide_eq_true_eq] at h1 h2 ⊢; omega) (fun a b => by unfold leI; simp only [Bool.or_eq_true, decide_eq_true_eq]; omega) cs
    exact this.imp fun h => by unfold leI at h; simpa using h
def sp__law_right : SpD := fun τ ds k KE => ∃ (p : Addr), ds = [.ref p] ∧ (∃ xs, lstAt τ p = some xs ∧ Dc 0 xs ∧ ∀ τ', k τ' (.bl true))
theorem sp__law_right_of {τ : TD} {k : DK} {KE : XD} {p : Addr} (h_ : ∃ xs, lstAt τ p = some xs ∧ Dc 0 xs ∧ ∀ τ', k τ' (.bl true)) : sp__law_right τ [.ref p] k KE := ⟨_, rfl, h_⟩
theorem kb_Fabric___init___1_shape (M : Mod K mg) : KBinds K M.f_Fabric___init__.choose ["self", "shape"] ["shape"] (gK 1 1 [0]) (gK 1 1 [0]) := kb_of M.f_Fabric___init__.choose_spec 1 1 [0] (by decide) fun _ _ _ _ _ _ us ws h1 h2 => match us, ws, h1, h2 with | [_], [_], _, _ => rfl
theorem ok__law_right (M : Mod K mg) (TB__law_step_right : LamX.TabB base mg (He.cT K ("_law_step_right", none)).1 (He.cT K ("_law_step_right", none)).2) (TB__law_refuses : LamX.TabB base mg (He.cT K ("_law_refuses", none)).1 (He.cT K ("_law_refuses", none)).2) : FnD prog w K mg base (TT K) 9 (He.fAd K ("_law_right", none)) M.f__law_right.choose ["dice"] sp__law_right := by
  refine fnD_of M.f__law_right.choose_spec sc__law_right fun KE => ⟨_, fun cdv A outer s H E hr => (pdss_cons (pds_par (i := 1) (j := 2) rfl sc__law_right.nd rfl rfl (by decide) rfl rfl (pda_cons (pd_call (ok__law_r_shape M) (hr.mono (by decide)) rfl M.g__law_r_shape M.f__law_r_shape.choose_spec.kp (bn__law_r_shape M) .nil .nil passD (pda_cons (pd_var (pv 0)) (pda_cons pd_int pda_nil))) (pda_cons (pd_lstM pda_nil) pda_nil))) (pdss_cons (pds_set (i := 3) sc__law_right.nd rfl (by first | exact .inl rfl | exact .inr rfl) (pd_makeK (M.mk_Fabric) (ok_Fabric___init__ M) (hr.mono (by decide)) rfl M.gc_Fabric (kb_Fabric___init___1_shape M) passD (pdkc (pd_var (pv 1)) pdk_nil))) (pdss_cons (pds_for ownD rfl (pdi_range1 rfl M.b_range (pda_cons pd_int pda_nil)) (pdg_name (i := 4) sc__law_right.nd rfl (by first | exact .inl rfl | exact .inr rfl)) (pdss_cons (pds_par (i := 5) (j := 6) rfl sc__law_right.nd rfl rfl (by decide) rfl rfl (pda_cons (pd_meth0 M.cl_Fabric M.me_Fabric_twin (ok_Fabric_twin M) (hr.mono (by decide)) (bn_Fabric_twin M) .nil .nil passD (pd_var (pv 3))) (pda_cons (pd_meth0 M.cl_Fabric M.me_Fabric_calls (ok_Fabric_calls M) (hr.mono (by decide)) (bn_Fabric_calls M) .nil .nil passD (pd_var (pv 3))) pda_nil))) (pdss_cons (pds_if (pdt_not (pdt_val (pd_call (ok__law_step_right M TB__law_step_right) (hr.mono (by decide)) rfl M.g__law_step_right M.f__law_step_right.choose_spec.kp (bn__law_step_right M) .nil .nil passD (pda_cons (pd_var (pv 0)) (pda_cons (pd_var (pv 3)) (pda_cons (pd_var (pv 1)) (pda_cons (pd_var (pv 2)) pda_nil))))))) (pdss_one (pds_ret pd_bl)) pdss_nil) (pdss_cons (pds_if (PDW.pt (pdw_or (pdt_cmp (op_neU (room_eq hr)) ok_neR (pd_meth0 M.cl_Fabric M.me_Fabric_calls (ok_Fabric_calls M) (hr.mono (by decide)) (bn_Fabric_calls M) .nil .nil passD (pd_var (pv 3))) (pd_callTy cr_tupO ok_tupO rfl M.b_tuple boot_tuple (pda_cons (pd_callB (cr_sortD (room_eq hr)) ok_sortD rfl M.b_sorted boot_sorted (pda_cons (pd_var (pv 2)) pda_nil)) pda_nil)) (nomark _)) (pdw_or (pdt_cmp (op_neU (room_eq hr)) ok_neR (pd_meth0 M.cl_Fabric M.me_Fabric_is_blocked (ok_Fabric_is_blocked M) (hr.mono (by decide)) (bn_Fabric_is_blocked M) .nil .nil passD (pd_var (pv 3))) (pd_call (ok__law_r_blocked M) (hr.mono (by decide)) rfl M.g__law_r_blocked M.f__law_r_blocked.choose_spec.kp (bn__law_r_blocked M) .nil .nil passD (pda_cons (pd_var (pv 1)) (pda_cons (pd_var (pv 2)) pda_nil))) (nomark _)) (pdw_or1 (pdt_cmp (op_neU (room_eq hr)) ok_neR (pd_fld (Cs := Cs_shape K) (fld_shape M) (pd_var (pv 3))) (pd_var (pv 1)) (nomark _)))))) (pdss_one (pds_ret pd_bl)) pdss_nil) (pdss_one (pds_if (PDW.pt (pdw_or (pdt_cmp (op_neU (room_eq hr)) ok_neR (pd_meth0 M.cl_Fabric M.me_Fabric_calls (ok_Fabric_calls M) (hr.mono (by decide)) (bn_Fabric_calls M) .nil .nil passD (pd_var (pv 5))) (pd_var (pv 6)) (nomark _)) (pdw_or (pdt_cmp (op_neU (room_eq hr)) ok_neR (pd_eqI M.eqc_Fabric (ok_Fabric___eq__ M) (hr.mono (by decide)) (bn_Fabric___eq__ M) passD (pd_var (pv 5)) (pd_var (pv 3)) (nomark _)) (pd_cmp (op_eqU (room_eq hr)) ok_eqR (pd_var (pv 6)) (pd_meth0 M.cl_Fabric M.me_Fabric_calls (ok_Fabric_calls M) (hr.mono (by decide)) (bn_Fabric_calls M) .nil .nil passD (pd_var (pv 3))) (nomark _)) (nomark _)) (pdw_or1 (pdt_neI M.eqc_Fabric (ok_Fabric___eq__ M) (hr.mono (by decide)) (bn_Fabric___eq__ M) passD (pd_meth0 M.cl_Fabric M.me_Fabric_twin (ok_Fabric_twin M) (hr.mono (by decide)) (bn_Fabric_twin M) .nil .nil passD (pd_var (pv 3))) (pd_var (pv 3)) (nomark _)))))) (pdss_one (pds_ret pd_bl)) pdss_nil)))))) (pdss_one (pds_ret (pd_and (pd_neI M.eqc_Fabric (ok_Fabric___eq__ M) (hr.mono (by decide)) (bn_Fabric___eq__ M) passD (pd_var (pv 3)) pd_non (nomark _)) (pd_and (pd_neI M.eqc_Fabric (ok_Fabric___eq__ M) (hr.mono (by decide)) (bn_Fabric___eq__ M) passD (pd_make (M.mk_Fabric) (ok_Fabric___init__ M) (hr.mono (by decide)) rfl M.gc_Fabric (bn_Fabric___init__ M) .nil .nil passD (pda_cons (pd_var (pv 1)) pda_nil)) (pd_make (M.mk_Fabric) (ok_Fabric___init__ M) (hr.mono (by decide)) rfl M.gc_Fabric (bn_Fabric___init__ M) .nil .nil passD (pda_cons (pd_tup (pda_cons (pd_ix ix_seq ok_ix (pd_var (pv 1)) pd_int) (pda_cons (pd_op op_addU ok_add (pd_op op_mod ok_mod (pd_ix ix_seq ok_ix (pd_var (pv 1)) pd_int) pd_int) pd_int) (pda_cons (pd_ix ix_seq ok_ix (pd_var (pv 1)) pd_int) pda_nil)))) pda_nil)) (nomark _)) (pd_one (pd_call (ok__law_refuses M TB__law_refuses) (hr.mono (by decide)) rfl M.g__law_refuses M.f__law_refuses.choose_spec.kp (bn__law_refuses M) .nil .nil passD (pda_cons (pd_var (pv 0)) (pda_cons (pd_var (pv 3)) (pda_cons (pd_var (pv 1)) pda_nil)))))))))))), ?_⟩
  intro τ ds k hl h
  unfold sp__law_right at h
  obtain ⟨p, rfl, hh⟩ := h
  obtain ⟨xs, hx, hd, hk⟩ := hh
  refine dSeq_step fun Z hZ => ?_
  try simp! only [true_and]
  refine sp__law_r_shape_of ⟨0, xs, hx, hd, by decide, rfl, fun y1 s d1 ok he hm => ?_⟩
  try simp! only [true_and]
  refine ⟨szn, fun c hc => ?_⟩
  have oe : 1 ≤ s.ends ∧ s.ends ≤ 64 := ok.e
  have on := ok.n
  have om := ok.m
  have or := ok.r
  have hp : lstAt (tset (tset τ p (.lst y1)) c (.lst [])) p = some y1 := by
    have : p ≠ c := sub_ne' tset_same hc
    unfold lstAt
    rw [tset_ne this, tset_same]
  have pc : p ≠ c := sub_ne' tset_same hc
  have hcl : lstAt (tset (tset τ p (.lst y1)) c (.lst [])) c = some [] := lstAt_same
  refine hZ _ _ ?_
  clear hZ Z hc hx
  generalize tset (tset τ p (.lst y1)) c (.lst []) = τ1 at hp hcl
  refine dSeq_step fun Z hZ => ?_
  try simp! only [true_and]
  intro a ha
  refine sp_Fabric___init___of ⟨insAt_same, rfl, (fun e => by rw [isShD_ok ok] at e; cases e), fun s' es _ τ2 q B g fq => ⟨rfl, hZ _ _ ?_⟩⟩
  have es : s = s' := by
    unfold shD at es
    simp only [D.tup.injEq, List.cons.injEq, D.int.injEq, and_true] at es
    obtain ⟨n, m, r⟩ := s'
    cases s
    simp_all
  subst es
  clear hZ Z
  have h : LS K p a q c τ2 y1 ⟨s, []⟩ := by
    have pa : p ≠ a := sub_ne' (lstAt_iff hp) ha
    have ca : c ≠ a := sub_ne' (lstAt_iff hcl) ha
    have g2 : SubX [a] τ1 τ2 := (SubX.refl.new ha).trans g
    exact ⟨g2.lst (not1 pa) hp, B, g2.lst (not1 ca) hcl, pc⟩
  clear g fq B ha hp hcl
  have okf : Fb.Ok ⟨s, []⟩ := ⟨ok, by simp only; omega, List.nodup_nil, fun c hc => by cases hc⟩
  refine dSeq_step fun Z hZ => ?_
  try simp! only [true_and]
  refine ⟨⟨by decide, by decide⟩, ?_⟩
  refine loop_stn (α := Nat) (g := fun (i : Nat) => .int (0 + (i : Int))) (s0 := ()) (fun j _ τ' ds => ∃ zs cs x1 x2 x3, ds = [some (.ref p), some (shD s), some (.ref c), some (.ref a), x1, x2, x3] ∧ Dc (4 + 4 * j) zs ∧ LS K p a q c τ' zs ⟨s, cs⟩ ∧ Fb.Ok ⟨s, cs⟩) (fun _ _ => ()) (List.range (Int.toNat 40)) (fun j cc hj hcc _ τ' ds hI G hG => ?_) ⟨y1, [], _, _, _, rfl, d1, h, okf⟩ (fun τ' ds hI => ?_)
  · clear h τ1
    obtain ⟨zs, cs, x1, x2, x3, rfl, hd, h, okc⟩ := hI
    rw [List.length_range] at hj
    refine dSeq_step fun Z2 hZ2 => ?_
    try simp! only [true_and, h.fab.ins]
    refine sp_Fabric_twin_of ⟨h.fab, okc, fun τ3 a2 q2 B2 g2 n1 n2 => ?_⟩
    have h3 := h.keep g2 (by simp) (by simp) (by simp) (by simp)
    obtain ⟨u1, u2, u3, u4⟩ := h.fresh n1
    obtain ⟨v1, v2, v3, v4⟩ := h.fresh n2
    clear h n1 n2 g2
    try simp! only [true_and, h3.fab.ins]
    refine sp_Fabric_calls_of ⟨h3.fab, okc, ?_⟩
    try simp! only [true_and]
    refine hZ2 _ _ ?_
    clear hZ2 Z2
    refine dSeq_step fun Z2 hZ2 => ?_
    try simp! only [true_and]
    refine sp__law_step_right_of ⟨_, zs, hd, (by have : (Int.toNat 40) = 40 := rfl; omega), he, h3, okc, fun τ4 ys cs' d4 h4 ok4 g4 => ?_⟩
    have B4 := B2.keep g4 (by simp; exact ⟨Ne.symm u1, Ne.symm u2, Ne.symm u3, Ne.symm u4⟩) (by simp; exact ⟨Ne.symm v1, Ne.symm v2, Ne.symm v3, Ne.symm v4⟩)
    clear B2 h3 g4
    try simp! only [true_and]
    refine hZ2 _ _ ?_
    clear hZ2 Z2
    refine dSeq_step fun Z2 hZ2 => ?_
    refine dIf_step fun kk hT hF => ?_
    try simp! only [true_and, h4.fab.ins]
    refine sp_Fabric_calls_of ⟨h4.fab, ok4, ?_⟩
    refine ⟨_, lstOf_ref h4.cl, sortOk_c3 _, ?_⟩
    rw [sorted_calls ok4.nd, resD_calls]
    refine eqA_refl (sh_calls _ 62) ?_
    try simp! only [true_and, h4.fab.ins]
    refine sp_Fabric_is_blocked_of ⟨h4.fab, ok4, ?_⟩
    refine sp__law_r_blocked_of ⟨h4.cl, (show cs'.length ≤ 1000 by have := ok4.len; simp only at this; omega), ok, ?_⟩
    try simp! only [true_and, h4.fab.ins, resD_sh]
    refine eqA_refl (sh_sh s 63) ?_
    try simp! only [true_and]
    refine hF _ ?_
    clear hT hF
    refine hZ2 _ _ ?_
    clear hZ2 Z2
    refine dIf_step fun kk hT hF => ?_
    try simp! only [true_and, B4.ins]
    refine sp_Fabric_calls_of ⟨B4, okc, ?_⟩
    try simp! only [true_and, resD_calls]
    refine eqA_refl (sh_calls _ 62) ?_
    try simp! only [true_and, B4.ins, h4.fab.ins]
    refine sp_Fabric___eq___of ⟨B4, okc, .inr ⟨a, q, _, rfl, h4.fab, ok4, ?_⟩⟩
    try simp! only [true_and, h4.fab.ins]
    refine sp_Fabric_calls_of ⟨h4.fab, ok4, ?_⟩
    rw [resD_calls]
    refine eqA_gen (sh_calls _ 62) (sh_calls _ 62) ?_
    rw [eqD_calls]
    try simp! only [true_and, Bool.true_and]
    try simp! only [true_and, h4.fab.ins]
    refine sp_Fabric_twin_of ⟨h4.fab, ok4, fun τ5 a5 q5 B5 g5 n5 m5 => ?_⟩
    have h5 := h4.keep g5 (by simp) (by simp) (by simp) (by simp)
    try simp! only [true_and, B5.ins, h5.fab.ins]
    refine sp_Fabric___eq___of ⟨B5, ok4, .inr ⟨a, q, _, rfl, h5.fab, ok4, ?_⟩⟩
    try simp! only [true_and]
    refine hF _ ?_
    clear hT hF
    try simp! only [true_and]
    refine hG _ _ ⟨ys, cs', _, _, _, rfl, ?_, h5, ok4⟩
    rw [show 4 + 4 * (j + 1) = 4 + 4 * j + 4 by omega]
    exact d4
  · obtain ⟨zs, cs, x1, x2, x3, rfl, hd, h, okc⟩ := hI
    refine hZ _ _ ?_
    clear hZ Z
    have ix0 : ∀ (τ : TD) (k : DK), ρIx τ (shD s) (.int 0) k = k τ (.int s.n) := fun τ k => by simp only [shD, dVar, dC, dOp, dUn, dTest_eq, dAnd, dOr, dNot, dAndV_eq, dOrV_eq, dNotV_eq, dIf, dChain_eq, dNil, dCons, dTup, dLst, dLstM, dCB, dBM, dNoPart, dPart_eq, dSl, dCall, dCallK, dNext, dBrk, dCnt, dSeq, dDrop, dRet, dRetN, dIfS, γName, γNil, γCons, γSub, dAsg, dPar, dPar3, dAug, ιSeq_eq, ιZip, ιRng1_eq, ιRng2_eq, dFor, dLc, dLcM, dYes, dT, dTold, onBl_eq, onInt_eq, onSeq_lst, onSeq_tup, onSeq_str, onSome_eq, lstAt_same, dRaise, startD, List.map_cons, List.map_nil, List.length_cons, List.length_nil, List.replicate_succ, List.replicate_zero, List.cons_append, List.nil_append, List.append_nil, List.getElem?_cons_zero, List.getElem?_cons_succ, List.set_cons_zero, List.set_cons_succ, Nat.reduceAdd, Nat.reduceSub, Nat.zero_add, Nat.sub_self, ρEq_int, ρEq_str, ρEq_bl, ρNe_int, ρNe_str, ρNe_bl, ρEq_t3, ρNe_t3, ρEq_t2, ρNe_t2, intsOf_mapf, strsOf_mapf, blsOf_mapf, gK_01_0, gK_02_01, gK_02_10, gK_03_012, gK_03_021, gK_03_102, gK_03_120, gK_03_201, gK_03_210, gK_11_0, gK_12_01, gK_12_10, gK_13_012, gK_13_021, gK_13_102, gK_13_120, gK_13_201, gK_13_210, dLstRg, ρLstOM_eq, seqAt_lst, seqAt_tup, seqAt_ref, ρMulT_int, ρMulT_str, ρMulT_tup, ρInU_one, ρPopAt_ref, eq_self, Bool.not_true, Bool.not_false, decide_true, decide_false, strsOf_c0, strsOf_c1, strsOf_c2, strsOf_c3, strsOf_c4, strsOf_c5, strsOf_c6, strsOf_c7, strsOf_c8, intsOf_c0, intsOf_c1, intsOf_c2, intsOf_c3, intsOf_c4, intsOf_c5, intsOf_c6, intsOf_c7, intsOf_c8, blsOf_c0, blsOf_c1, blsOf_c2, blsOf_c3, blsOf_c4, blsOf_c5, blsOf_c6, blsOf_c7, blsOf_c8, ixN_30, ixN_31, ixN_32, wipeD, if_true, if_false, Bool.false_eq_true, Bool.true_eq_false, true_and, and_true, ρAdd_int, ρAdd_str, ρAdd_tup, ρAdd_lst, ρAdd_rl, ρI_int, ρI0_int, ρMul_int, ρMul_str, ρNeg_int, ρCmp_int, ρCmp_str, ρIsN_eq, ρNotN_eq, isNonD_bl, isNonD_int, isNonD_str, isNonD_tup, isNonD_lst, isNonD_ref, isNonD_non, ρSgn_one, ρAbs_int, ρMax_two, ρMin_two, ρMax_lst, ρMin_lst, ρInt_int, ρInt_bl, ρStr_int, ρLen_str, ρLen_tup, ρLen_lst, ρLen_ref, ρSum_lst, ρAll_lst, ρAny_lst, ρTupO_tup, ρTupO_lst, ρIsi_eq, is_non_int, is_non_bool, is_non_str, is_non_tuple, is_non_list, is_bl_int, is_bl_bool, is_bl_str, is_bl_tuple, is_bl_list, is_int_int, is_int_bool, is_int_str, is_int_tuple, is_int_list, is_str_int, is_str_bool, is_str_str, is_str_tuple, is_str_list, is_tup_int, is_tup_bool, is_tup_str, is_tup_tuple, is_tup_list, is_lst_int, is_lst_bool, is_lst_str, is_lst_tuple, is_lst_list, tyN_non, tyN_bl, tyN_int, tyN_str, tyN_tup, tyN_lst, ρIx_tup, ρIx_lst, ρIx_str, ρIx_ref, ρSl_str, ρSl_lst, ρSl_tup, ρApp_ref, θLst_ref, θStr_str, ςLst_ref, ρJoin_lst, γTup_tup, atI_0, atI_1, atI_2, atI_3, atI_4, atI_5, atI_6, atI_7, ρEqR_eq, ρNeR_eq, resD_non, resD_bl, resD_int, resD_str, resD_tup, resD_lst, eqA_nn, eqA_ii, eqA_bb, eqA_ss, eqA_ni, eqA_in, eqA_nb, eqA_bn, eqA_ns, eqA_sn, eqA_is, eqA_si, eqA_tt, eqA_ll, eqA_tl, eqA_lt, eqA_tn, eqA_nt, eqA_ti', eqA_it, eqA_ts, eqA_st, shB_non, shB_bl, shB_int, shB_str, shB_t63, shB_t62, shB_t61, shB_t60, shB_t59, shB_l63, shB_l62, shB_l61, shB_l60, shBs_nil, shBs_cons, shBs_append, shBs_ints, eqDs_nil, eqDs_cons, eqDs_cn, eqDs_nc, eqDs_ints, eqDs_strs, eqD_ii, eqD_bb, eqD_ss, eqD_tt, eqD_ll, eqD_nn, ρLstO_seq, ρTupO_ref, Option.isSome_some, dNewK, dNewT, dGetK, dGetT, dInK, dInT, dPutK, dPutT, dAugK, dAugT, dGet2K, dGet2T, dPop1K, onRef_eq, dkAt_same, dtAt_same, dkW_same, dtW_same, keyOf_int, keyOf_str, keysOf_ii, keysOf_iii, ιEnum_eq, onSq_tup, onSq_lst, ρLtV_int, ρLtV_str, ρLtV_tup, ρPop_ref, ρIdx_lst, dFld, dSFld, dSFldAug, dMeth, dMake, dMethK, dMakeK, dEqI, insAt_same, lkF_cons, lkF_nil, putFD_cons, putFD_nil, ρIsC_non, ρIsC_ref, ρLenD_eq, dSortIt, ρSortD_eq, ρMinD_eq, ρMaxD_eq, dMet, dTm, mem_h, mem_h2, onBool_eq, insOrNon, ρCopy_ref, ιItems, ιVals, ιKeys, lkW_same, dLockE, dLockS, ρCopyT_ref, ρInX_eq, itsD_tup, itsD_lst, itsD_ref, dStar, ρSortKI_ref, ρRemX_ref, dForM, dLcR, Cs_shape, Cs__calls, ne___eq_____calls, ne___eq____shape, ne___init_____calls, ne___init____shape, ne__calls____eq__, ne__calls____init__, ne__calls__call, ne__calls__calls, ne__calls__demand_ends, ne__calls__end, ne__calls__free_outlets, ne__calls__has_outlet, ne__calls__is_behind_free, ne__calls__is_blocked, ne__calls__is_front_free, ne__calls__look_at_ends, ne__calls__middles, ne__calls__shape, ne__calls__twin, ne__calls__ways, ne_call___calls, ne_call__shape, ne_calls___calls, ne_calls__shape, ne_demand_ends___calls, ne_demand_ends__shape, ne_end___calls, ne_end__shape, ne_free_outlets___calls, ne_free_outlets__shape, ne_has_outlet___calls, ne_has_outlet__shape, ne_is_behind_free___calls, ne_is_behind_free__shape, ne_is_blocked___calls, ne_is_blocked__shape, ne_is_front_free___calls, ne_is_front_free__shape, ne_look_at_ends___calls, ne_look_at_ends__shape, ne_middles___calls, ne_middles__shape, ne_shape____eq__, ne_shape____init__, ne_shape___calls, ne_shape__call, ne_shape__calls, ne_shape__demand_ends, ne_shape__end, ne_shape__free_outlets, ne_shape__has_outlet, ne_shape__is_behind_free, ne_shape__is_blocked, ne_shape__is_front_free, ne_shape__look_at_ends, ne_shape__middles, ne_shape__twin, ne_shape__ways, ne_twin___calls, ne_twin__shape, ne_ways___calls, ne_ways__shape, sp_is_in_eq, sp_is_tuple_eq, sp_demand_eq, sp__law_dice_eq, sp__law_roll_eq, sp__law_pick_eq]
    have ix1 : ∀ (τ : TD) (k : DK), ρIx τ (shD s) (.int 1) k = k τ (.int s.m) := fun τ k => by simp only [shD, dVar, dC, dOp, dUn, dTest_eq, dAnd, dOr, dNot, dAndV_eq, dOrV_eq, dNotV_eq, dIf, dChain_eq, dNil, dCons, dTup, dLst, dLstM, dCB, dBM, dNoPart, dPart_eq, dSl, dCall, dCallK, dNext, dBrk, dCnt, dSeq, dDrop, dRet, dRetN, dIfS, γName, γNil, γCons, γSub, dAsg, dPar, dPar3, dAug, ιSeq_eq, ιZip, ιRng1_eq, ιRng2_eq, dFor, dLc, dLcM, dYes, dT, dTold, onBl_eq, onInt_eq, onSeq_lst, onSeq_tup, onSeq_str, onSome_eq, lstAt_same, dRaise, startD, List.map_cons, List.map_nil, List.length_cons, List.length_nil, List.replicate_succ, List.replicate_zero, List.cons_append, List.nil_append, List.append_nil, List.getElem?_cons_zero, List.getElem?_cons_succ, List.set_cons_zero, List.set_cons_succ, Nat.reduceAdd, Nat.reduceSub, Nat.zero_add, Nat.sub_self, ρEq_int, ρEq_str, ρEq_bl, ρNe_int, ρNe_str, ρNe_bl, ρEq_t3, ρNe_t3, ρEq_t2, ρNe_t2, intsOf_mapf, strsOf_mapf, blsOf_mapf, gK_01_0, gK_02_01, gK_02_10, gK_03_012, gK_03_021, gK_03_102, gK_03_120, gK_03_201, gK_03_210, gK_11_0, gK_12_01, gK_12_10, gK_13_012, gK_13_021, gK_13_102, gK_13_120, gK_13_201, gK_13_210, dLstRg, ρLstOM_eq, seqAt_lst, seqAt_tup, seqAt_ref, ρMulT_int, ρMulT_str, ρMulT_tup, ρInU_one, ρPopAt_ref, eq_self, Bool.not_true, Bool.not_false, decide_true, decide_false, strsOf_c0, strsOf_c1, strsOf_c2, strsOf_c3, strsOf_c4, strsOf_c5, strsOf_c6, strsOf_c7, strsOf_c8, intsOf_c0, intsOf_c1, intsOf_c2, intsOf_c3, intsOf_c4, intsOf_c5, intsOf_c6, intsOf_c7, intsOf_c8, blsOf_c0, blsOf_c1, blsOf_c2, blsOf_c3, blsOf_c4, blsOf_c5, blsOf_c6, blsOf_c7, blsOf_c8, ixN_30, ixN_31, ixN_32, wipeD, if_true, if_false, Bool.false_eq_true, Bool.true_eq_false, true_and, and_true, ρAdd_int, ρAdd_str, ρAdd_tup, ρAdd_lst, ρAdd_rl, ρI_int, ρI0_int, ρMul_int, ρMul_str, ρNeg_int, ρCmp_int, ρCmp_str, ρIsN_eq, ρNotN_eq, isNonD_bl, isNonD_int, isNonD_str, isNonD_tup, isNonD_lst, isNonD_ref, isNonD_non, ρSgn_one, ρAbs_int, ρMax_two, ρMin_two, ρMax_lst, ρMin_lst, ρInt_int, ρInt_bl, ρStr_int, ρLen_str, ρLen_tup, ρLen_lst, ρLen_ref, ρSum_lst, ρAll_lst, ρAny_lst, ρTupO_tup, ρTupO_lst, ρIsi_eq, is_non_int, is_non_bool, is_non_str, is_non_tuple, is_non_list, is_bl_int, is_bl_bool, is_bl_str, is_bl_tuple, is_bl_list, is_int_int, is_int_bool, is_int_str, is_int_tuple, is_int_list, is_str_int, is_str_bool, is_str_str, is_str_tuple, is_str_list, is_tup_int, is_tup_bool, is_tup_str, is_tup_tuple, is_tup_list, is_lst_int, is_lst_bool, is_lst_str, is_lst_tuple, is_lst_list, tyN_non, tyN_bl, tyN_int, tyN_str, tyN_tup, tyN_lst, ρIx_tup, ρIx_lst, ρIx_str, ρIx_ref, ρSl_str, ρSl_lst, ρSl_tup, ρApp_ref, θLst_ref, θStr_str, ςLst_ref, ρJoin_lst, γTup_tup, atI_0, atI_1, atI_2, atI_3, atI_4, atI_5, atI_6, atI_7, ρEqR_eq, ρNeR_eq, resD_non, resD_bl, resD_int, resD_str, resD_tup, resD_lst, eqA_nn, eqA_ii, eqA_bb, eqA_ss, eqA_ni, eqA_in, eqA_nb, eqA_bn, eqA_ns, eqA_sn, eqA_is, eqA_si, eqA_tt, eqA_ll, eqA_tl, eqA_lt, eqA_tn, eqA_nt, eqA_ti', eqA_it, eqA_ts, eqA_st, shB_non, shB_bl, shB_int, shB_str, shB_t63, shB_t62, shB_t61, shB_t60, shB_t59, shB_l63, shB_l62, shB_l61, shB_l60, shBs_nil, shBs_cons, shBs_append, shBs_ints, eqDs_nil, eqDs_cons, eqDs_cn, eqDs_nc, eqDs_ints, eqDs_strs, eqD_ii, eqD_bb, eqD_ss, eqD_tt, eqD_ll, eqD_nn, ρLstO_seq, ρTupO_ref, Option.isSome_some, dNewK, dNewT, dGetK, dGetT, dInK, dInT, dPutK, dPutT, dAugK, dAugT, dGet2K, dGet2T, dPop1K, onRef_eq, dkAt_same, dtAt_same, dkW_same, dtW_same, keyOf_int, keyOf_str, keysOf_ii, keysOf_iii, ιEnum_eq, onSq_tup, onSq_lst, ρLtV_int, ρLtV_str, ρLtV_tup, ρPop_ref, ρIdx_lst, dFld, dSFld, dSFldAug, dMeth, dMake, dMethK, dMakeK, dEqI, insAt_same, lkF_cons, lkF_nil, putFD_cons, putFD_nil, ρIsC_non, ρIsC_ref, ρLenD_eq, dSortIt, ρSortD_eq, ρMinD_eq, ρMaxD_eq, dMet, dTm, mem_h, mem_h2, onBool_eq, insOrNon, ρCopy_ref, ιItems, ιVals, ιKeys, lkW_same, dLockE, dLockS, ρCopyT_ref, ρInX_eq, itsD_tup, itsD_lst, itsD_ref, dStar, ρSortKI_ref, ρRemX_ref, dForM, dLcR, Cs_shape, Cs__calls, ne___eq_____calls, ne___eq____shape, ne___init_____calls, ne___init____shape, ne__calls____eq__, ne__calls____init__, ne__calls__call, ne__calls__calls, ne__calls__demand_ends, ne__calls__end, ne__calls__free_outlets, ne__calls__has_outlet, ne__calls__is_behind_free, ne__calls__is_blocked, ne__calls__is_front_free, ne__calls__look_at_ends, ne__calls__middles, ne__calls__shape, ne__calls__twin, ne__calls__ways, ne_call___calls, ne_call__shape, ne_calls___calls, ne_calls__shape, ne_demand_ends___calls, ne_demand_ends__shape, ne_end___calls, ne_end__shape, ne_free_outlets___calls, ne_free_outlets__shape, ne_has_outlet___calls, ne_has_outlet__shape, ne_is_behind_free___calls, ne_is_behind_free__shape, ne_is_blocked___calls, ne_is_blocked__shape, ne_is_front_free___calls, ne_is_front_free__shape, ne_look_at_ends___calls, ne_look_at_ends__shape, ne_middles___calls, ne_middles__shape, ne_shape____eq__, ne_shape____init__, ne_shape___calls, ne_shape__call, ne_shape__calls, ne_shape__demand_ends, ne_shape__end, ne_shape__free_outlets, ne_shape__has_outlet, ne_shape__is_behind_free, ne_shape__is_blocked, ne_shape__is_front_free, ne_shape__look_at_ends, ne_shape__middles, ne_shape__twin, ne_shape__ways, ne_twin___calls, ne_twin__shape, ne_ways___calls, ne_ways__shape, sp_is_in_eq, sp_is_tuple_eq, sp_demand_eq, sp__law_dice_eq, sp__law_roll_eq, sp__law_pick_eq]
    have ix2 : ∀ (τ : TD) (k : DK), ρIx τ (shD s) (.int 2) k = k τ (.int s.r) := fun τ k => by simp only [shD, dVar, dC, dOp, dUn, dTest_eq, dAnd, dOr, dNot, dAndV_eq, dOrV_eq, dNotV_eq, dIf, dChain_eq, dNil, dCons, dTup, dLst, dLstM, dCB, dBM, dNoPart, dPart_eq, dSl, dCall, dCallK, dNext, dBrk, dCnt, dSeq, dDrop, dRet, dRetN, dIfS, γName, γNil, γCons, γSub, dAsg, dPar, dPar3, dAug, ιSeq_eq, ιZip, ιRng1_eq, ιRng2_eq, dFor, dLc, dLcM, dYes, dT, dTold, onBl_eq, onInt_eq, onSeq_lst, onSeq_tup, onSeq_str, onSome_eq, lstAt_same, dRaise, startD, List.map_cons, List.map_nil, List.length_cons, List.length_nil, List.replicate_succ, List.replicate_zero, List.cons_append, List.nil_append, List.append_nil, List.getElem?_cons_zero, List.getElem?_cons_succ, List.set_cons_zero, List.set_cons_succ, Nat.reduceAdd, Nat.reduceSub, Nat.zero_add, Nat.sub_self, ρEq_int, ρEq_str, ρEq_bl, ρNe_int, ρNe_str, ρNe_bl, ρEq_t3, ρNe_t3, ρEq_t2, ρNe_t2, intsOf_mapf, strsOf_mapf, blsOf_mapf, gK_01_0, gK_02_01, gK_02_10, gK_03_012, gK_03_021, gK_03_102, gK_03_120, gK_03_201, gK_03_210, gK_11_0, gK_12_01, gK_12_10, gK_13_012, gK_13_021, gK_13_102, gK_13_120, gK_13_201, gK_13_210, dLstRg, ρLstOM_eq, seqAt_lst, seqAt_tup, seqAt_ref, ρMulT_int, ρMulT_str, ρMulT_tup, ρInU_one, ρPopAt_ref, eq_self, Bool.not_true, Bool.not_false, decide_true, decide_false, strsOf_c0, strsOf_c1, strsOf_c2, strsOf_c3, strsOf_c4, strsOf_c5, strsOf_c6, strsOf_c7, strsOf_c8, intsOf_c0, intsOf_c1, intsOf_c2, intsOf_c3, intsOf_c4, intsOf_c5, intsOf_c6, intsOf_c7, intsOf_c8, blsOf_c0, blsOf_c1, blsOf_c2, blsOf_c3, blsOf_c4, blsOf_c5, blsOf_c6, blsOf_c7, blsOf_c8, ixN_30, ixN_31, ixN_32, wipeD, if_true, if_false, Bool.false_eq_true, Bool.true_eq_false, true_and, and_true, ρAdd_int, ρAdd_str, ρAdd_tup, ρAdd_lst, ρAdd_rl, ρI_int, ρI0_int, ρMul_int, ρMul_str, ρNeg_int, ρCmp_int, ρCmp_str, ρIsN_eq, ρNotN_eq, isNonD_bl, isNonD_int, isNonD_str, isNonD_tup, isNonD_lst, isNonD_ref, isNonD_non, ρSgn_one, ρAbs_int, ρMax_two, ρMin_two, ρMax_lst, ρMin_lst, ρInt_int, ρInt_bl, ρStr_int, ρLen_str, ρLen_tup, ρLen_lst, ρLen_ref, ρSum_lst, ρAll_lst, ρAny_lst, ρTupO_tup, ρTupO_lst, ρIsi_eq, is_non_int, is_non_bool, is_non_str, is_non_tuple, is_non_list, is_bl_int, is_bl_bool, is_bl_str, is_bl_tuple, is_bl_list, is_int_int, is_int_bool, is_int_str, is_int_tuple, is_int_list, is_str_int, is_str_bool, is_str_str, is_str_tuple, is_str_list, is_tup_int, is_tup_bool, is_tup_str, is_tup_tuple, is_tup_list, is_lst_int, is_lst_bool, is_lst_str, is_lst_tuple, is_lst_list, tyN_non, tyN_bl, tyN_int, tyN_str, tyN_tup, tyN_lst, ρIx_tup, ρIx_lst, ρIx_str, ρIx_ref, ρSl_str, ρSl_lst, ρSl_tup, ρApp_ref, θLst_ref, θStr_str, ςLst_ref, ρJoin_lst, γTup_tup, atI_0, atI_1, atI_2, atI_3, atI_4, atI_5, atI_6, atI_7, ρEqR_eq, ρNeR_eq, resD_non, resD_bl, resD_int, resD_str, resD_tup, resD_lst, eqA_nn, eqA_ii, eqA_bb, eqA_ss, eqA_ni, eqA_in, eqA_nb, eqA_bn, eqA_ns, eqA_sn, eqA_is, eqA_si, eqA_tt, eqA_ll, eqA_tl, eqA_lt, eqA_tn, eqA_nt, eqA_ti', eqA_it, eqA_ts, eqA_st, shB_non, shB_bl, shB_int, shB_str, shB_t63, shB_t62, shB_t61, shB_t60, shB_t59, shB_l63, shB_l62, shB_l61, shB_l60, shBs_nil, shBs_cons, shBs_append, shBs_ints, eqDs_nil, eqDs_cons, eqDs_cn, eqDs_nc, eqDs_ints, eqDs_strs, eqD_ii, eqD_bb, eqD_ss, eqD_tt, eqD_ll, eqD_nn, ρLstO_seq, ρTupO_ref, Option.isSome_some, dNewK, dNewT, dGetK, dGetT, dInK, dInT, dPutK, dPutT, dAugK, dAugT, dGet2K, dGet2T, dPop1K, onRef_eq, dkAt_same, dtAt_same, dkW_same, dtW_same, keyOf_int, keyOf_str, keysOf_ii, keysOf_iii, ιEnum_eq, onSq_tup, onSq_lst, ρLtV_int, ρLtV_str, ρLtV_tup, ρPop_ref, ρIdx_lst, dFld, dSFld, dSFldAug, dMeth, dMake, dMethK, dMakeK, dEqI, insAt_same, lkF_cons, lkF_nil, putFD_cons, putFD_nil, ρIsC_non, ρIsC_ref, ρLenD_eq, dSortIt, ρSortD_eq, ρMinD_eq, ρMaxD_eq, dMet, dTm, mem_h, mem_h2, onBool_eq, insOrNon, ρCopy_ref, ιItems, ιVals, ιKeys, lkW_same, dLockE, dLockS, ρCopyT_ref, ρInX_eq, itsD_tup, itsD_lst, itsD_ref, dStar, ρSortKI_ref, ρRemX_ref, dForM, dLcR, Cs_shape, Cs__calls, ne___eq_____calls, ne___eq____shape, ne___init_____calls, ne___init____shape, ne__calls____eq__, ne__calls____init__, ne__calls__call, ne__calls__calls, ne__calls__demand_ends, ne__calls__end, ne__calls__free_outlets, ne__calls__has_outlet, ne__calls__is_behind_free, ne__calls__is_blocked, ne__calls__is_front_free, ne__calls__look_at_ends, ne__calls__middles, ne__calls__shape, ne__calls__twin, ne__calls__ways, ne_call___calls, ne_call__shape, ne_calls___calls, ne_calls__shape, ne_demand_ends___calls, ne_demand_ends__shape, ne_end___calls, ne_end__shape, ne_free_outlets___calls, ne_free_outlets__shape, ne_has_outlet___calls, ne_has_outlet__shape, ne_is_behind_free___calls, ne_is_behind_free__shape, ne_is_blocked___calls, ne_is_blocked__shape, ne_is_front_free___calls, ne_is_front_free__shape, ne_look_at_ends___calls, ne_look_at_ends__shape, ne_middles___calls, ne_middles__shape, ne_shape____eq__, ne_shape____init__, ne_shape___calls, ne_shape__call, ne_shape__calls, ne_shape__demand_ends, ne_shape__end, ne_shape__free_outlets, ne_shape__has_outlet, ne_shape__is_behind_free, ne_shape__is_blocked, ne_shape__is_front_free, ne_shape__look_at_ends, ne_shape__middles, ne_shape__twin, ne_shape__ways, ne_twin___calls, ne_twin__shape, ne_ways___calls, ne_ways__shape, sp_is_in_eq, sp_is_tuple_eq, sp_demand_eq, sp__law_dice_eq, sp__law_roll_eq, sp__law_pick_eq]
    try simp! only [true_and, h.fab.ins, ix0, ix1, ix2]
    refine sp_Fabric___eq___of ⟨h.fab, okc, .inl ⟨rfl, ?_⟩⟩
    try simp! only [true_and]
    intro a5 ha5
    refine sp_Fabric___init___of ⟨insAt_same, rfl, (fun e => by rw [isShD_ok ok] at e; cases e), fun s' es _ τ2 q5 B5 g5 fq5 => ⟨rfl, by decide, szn, fun a6 ha6 => ?_⟩⟩
    cases shD_inj es
    have h := h.new (u := .ins (He.ga K "Fabric") []) ha5
    obtain ⟨u1, u2, u3, u4⟩ := LS.fresh (K := K) (p := p) (a := a) (q := q) (c := c) (zs := zs) (f := ⟨s, cs⟩) ‹LS K p a q c τ' zs ⟨s, cs⟩› ha5
    have h := h.keep g5 (not1 u1) (not1 u2) (not1 u3) (not1 u4)
    clear g5 fq5 ha5 es
    have okt : Shp.Ok ⟨s.n, s.m % 20 + 1, s.r⟩ := ⟨on, by simp only; omega, or⟩
    refine sp_Fabric___init___of ⟨insAt_same, rfl, (fun e => absurd ((isShD_ok okt).symm.trans e) (by decide)), fun s' es _ τ3 q6 B6 g6 fq6 => ⟨rfl, ?_⟩⟩
    cases shD_inj (s := ⟨s.n, s.m % 20 + 1, s.r⟩) es
    obtain ⟨v1, v2, v3, v4⟩ := h.fresh ha6
    have h := (h.new (u := .ins (He.ga K "Fabric") []) ha6).keep g6 (not1 v1) (not1 v2) (not1 v3) (not1 v4)
    obtain ⟨w1, w2⟩ := B5.out ha6
    have B5 := (B5.new (u := .ins (He.ga K "Fabric") []) ha6).keep g6 (not1 w1) (not1 w2)
    have okt2 : Fb.Ok ⟨⟨s.n, s.m % 20 + 1, s.r⟩, []⟩ := ⟨okt, (show s.ends ≤ 60 by omega), List.nodup_nil, fun c hc => by cases hc⟩
    clear g6 fq6 ha6 es
    try simp! only [true_and, B5.ins, B6.ins]
    refine sp_Fabric___eq___of ⟨B5, okf, .inr ⟨a6, q6, _, rfl, B6, okt2, ?_⟩⟩
    have ne : s ≠ ⟨s.n, s.m % 20 + 1, s.r⟩ := fun z => by
      have := congrArg Shp.m z
      simp only at this
      omega
    try simp! only [true_and, ne, decide_false, Bool.false_and]
    exact sp__law_refuses_of ⟨_, zs, hd, (by rw [List.length_range]; have : Int.toNat 40 = 40 := rfl; omega), he, h.dp, h.fab, okc, fun _ => Fin.same (hk _)⟩
/-! ### law -/
theorem sc_law : FnScope ["script", "spot"] ["script"] (defScope s_law) := ⟨rfl, rfl, rfl, by decide +kernel, rfl, by decide +kernel, by decide +kernel⟩
theorem bn_law (M : Mod K mg) : L2.Binds K M.f_law.choose ["script"] [] := fun_binds M.f_law.choose_spec fun _ _ _ _ _ _ us hl => match us, hl with | [_], _ => rfl
def sp_law : SpD := fun τ ds k KE => match ds with
  | [.lst ns] => ∃ zs : List Int, ns = zs.map D.int ∧ zs.length ≤ 63 ∧ ∀ τ', k τ' (.bl true)
  | _ => False
theorem sp_law_eq {τ : TD} {k : DK} {KE : XD} {ns : List D} : sp_law τ [.lst ns] k KE = (∃ zs : List Int, ns = zs.map D.int ∧ zs.length ≤ 63 ∧ ∀ τ', k τ' (.bl true)) := rfl
theorem ok_law (M : Mod K mg) (TB__law_step_right : LamX.TabB base mg (He.cT K ("_law_step_right", none)).1 (He.cT K ("_law_step_right", none)).2) (TB__law_refuses : LamX.TabB base mg (He.cT K ("_law_refuses", none)).1 (He.cT K ("_law_refuses", none)).2) : FnD prog w K mg base (TT K) 10 (He.fAd K ("law", none)) M.f_law.choose ["script"] sp_law := by
  refine fnD_of M.f_law.choose_spec sc_law fun KE => ⟨_, fun cdv A outer s H E hr => (pdss_cons (pds_for ownD rfl (pdi_range1 rfl M.b_range (pda_cons (pd_callB (cr_maxU rfl) ok_max rfl M.b_max boot_max (pda_cons pd_int (pda_cons (pd_callB (cr_minU rfl) ok_min rfl M.b_min boot_min (pda_cons pd_int (pda_cons (pd_callB cr_len ok_len rfl M.b_len boot_len (pda_cons (pd_var (pv 0)) pda_nil)) pda_nil))) pda_nil))) pda_nil)) (pdg_name (i := 1) sc_law.nd rfl (by first | exact .inl rfl | exact .inr rfl)) (pdss_one (pds_if (pdt_not (pdt_val (pd_call (ok__law_right M TB__law_step_right TB__law_refuses) (hr.mono (by decide)) rfl M.g__law_right M.f__law_right.choose_spec.kp (bn__law_right M) .nil .nil passD (pda_cons (pd_call (ok__law_dice M) (hr.mono (by decide)) rfl M.g__law_dice M.f__law_dice.choose_spec.kp (bn__law_dice M) .nil .nil passD (pda_cons (pd_var (pv 0)) (pda_cons (pd_var (pv 1)) pda_nil))) pda_nil)))) (pdss_one (pds_ret pd_bl)) pdss_nil))) (pdss_one (pds_ret pd_bl))), ?_⟩
  intro τ ds k hl h
  unfold sp_law at h
  split at h
  case h_2 => exact h.elim
  rename_i ns
  obtain ⟨zs, rfl, hz, hk⟩ := h
  refine dSeq_step fun Z hZ => ?_
  simp! only [true_and, sp_law_eq, List.length_map]
  refine ⟨⟨by omega, by omega⟩, ?_⟩
  refine loop_st (α := Nat) (g := fun (i : Nat) => .int (0 + (i : Int))) (s0 := ()) (fun _ τ' ds => ∃ x, ds = [some (.lst (zs.map D.int)), x]) (fun _ _ => ()) _ (fun c hc _ τ' ds hI G hG => ?_) ⟨none, rfl⟩ (fun τ' ds hI => ?_)
  · obtain ⟨x, rfl⟩ := hI
    have hc : c < 1000 := by
      have := List.mem_range.mp hc
      omega
    simp! only [true_and, sp_law_eq]
    refine ⟨zs, rfl, hz, by omega, by omega, fun p xs hx hp => ?_⟩
    refine sp__law_right_of ⟨xs, lstAt_same, hx, fun ys => ?_⟩
    try simp! only [true_and, sp_law_eq]
    exact hG _ _ ⟨_, rfl⟩
  · obtain ⟨x, rfl⟩ := hI
    refine hZ _ _ ?_
    clear hZ Z
    try simp! only [true_and, sp_law_eq]
    exact Fin.same (hk _)
end
def d_is_in : He.DefD := ⟨("is_in", none), "is_in", "is_in", defArgs s_is_in, defBody s_is_in, defScope s_is_in, [], []⟩
def d_is_tuple : He.DefD := ⟨("is_tuple", none), "is_tuple", "is_tuple", defArgs s_is_tuple, defBody s_is_tuple, defScope s_is_tuple, [], []⟩
def d_demand : He.DefD := ⟨("demand", none), "demand", "demand", defArgs s_demand, defBody s_demand, defScope s_demand, [], []⟩
def d_is_shape : He.DefD := ⟨("is_shape", none), "is_shape", "is_shape", defArgs s_is_shape, defBody s_is_shape, defScope s_is_shape, [], []⟩
def d_ends_of : He.DefD := ⟨("ends_of", none), "ends_of", "ends_of", defArgs s_ends_of, defBody s_ends_of, defScope s_ends_of, [], []⟩
def d_Fabric___init__ : He.DefD := ⟨("Fabric", some "__init__"), "__init__", "Fabric.__init__", defArgs s_Fabric___init__, defBody s_Fabric___init__, defScope s_Fabric___init__, [], []⟩
def d_Fabric_calls : He.DefD := ⟨("Fabric", some "calls"), "calls", "Fabric.calls", defArgs s_Fabric_calls, defBody s_Fabric_calls, defScope s_Fabric_calls, [], []⟩
def d_Fabric___eq__ : He.DefD := ⟨("Fabric", some "__eq__"), "__eq__", "Fabric.__eq__", defArgs s_Fabric___eq__, defBody s_Fabric___eq__, defScope s_Fabric___eq__, [], []⟩
def d_Fabric_twin : He.DefD := ⟨("Fabric", some "twin"), "twin", "Fabric.twin", defArgs s_Fabric_twin, defBody s_Fabric_twin, defScope s_Fabric_twin, [], []⟩
def d_Fabric_has_outlet : He.DefD := ⟨("Fabric", some "has_outlet"), "has_outlet", "Fabric.has_outlet", defArgs s_Fabric_has_outlet, defBody s_Fabric_has_outlet, defScope s_Fabric_has_outlet, [], []⟩
def d_Fabric_is_front_free : He.DefD := ⟨("Fabric", some "is_front_free"), "is_front_free", "Fabric.is_front_free", defArgs s_Fabric_is_front_free, defBody s_Fabric_is_front_free, defScope s_Fabric_is_front_free, [], []⟩
def d_Fabric_is_behind_free : He.DefD := ⟨("Fabric", some "is_behind_free"), "is_behind_free", "Fabric.is_behind_free", defArgs s_Fabric_is_behind_free, defBody s_Fabric_is_behind_free, defScope s_Fabric_is_behind_free, [], []⟩
def d_Fabric_look_at_ends : He.DefD := ⟨("Fabric", some "look_at_ends"), "look_at_ends", "Fabric.look_at_ends", defArgs s_Fabric_look_at_ends, defBody s_Fabric_look_at_ends, defScope s_Fabric_look_at_ends, [], []⟩
def d_Fabric_demand_ends : He.DefD := ⟨("Fabric", some "demand_ends"), "demand_ends", "Fabric.demand_ends", defArgs s_Fabric_demand_ends, defBody s_Fabric_demand_ends, defScope s_Fabric_demand_ends, [], []⟩
def d_Fabric_call : He.DefD := ⟨("Fabric", some "call"), "call", "Fabric.call", defArgs s_Fabric_call, defBody s_Fabric_call, defScope s_Fabric_call, [], []⟩
def d_Fabric_end : He.DefD := ⟨("Fabric", some "end"), "end", "Fabric.end", defArgs s_Fabric_end, defBody s_Fabric_end, defScope s_Fabric_end, [], []⟩
def d_Fabric_ways : He.DefD := ⟨("Fabric", some "ways"), "ways", "Fabric.ways", defArgs s_Fabric_ways, defBody s_Fabric_ways, defScope s_Fabric_ways, [], []⟩
def d_Fabric_middles : He.DefD := ⟨("Fabric", some "middles"), "middles", "Fabric.middles", defArgs s_Fabric_middles, defBody s_Fabric_middles, defScope s_Fabric_middles, [], []⟩
def d_Fabric_free_outlets : He.DefD := ⟨("Fabric", some "free_outlets"), "free_outlets", "Fabric.free_outlets", defArgs s_Fabric_free_outlets, defBody s_Fabric_free_outlets, defScope s_Fabric_free_outlets, [], []⟩
def d_Fabric_is_blocked : He.DefD := ⟨("Fabric", some "is_blocked"), "is_blocked", "Fabric.is_blocked", defArgs s_Fabric_is_blocked, defBody s_Fabric_is_blocked, defScope s_Fabric_is_blocked, [], []⟩
def d__law_dice : He.DefD := ⟨("_law_dice", none), "_law_dice", "_law_dice", defArgs s__law_dice, defBody s__law_dice, defScope s__law_dice, [], []⟩
def d__law_roll : He.DefD := ⟨("_law_roll", none), "_law_roll", "_law_roll", defArgs s__law_roll, defBody s__law_roll, defScope s__law_roll, [], []⟩
def d__law_pick : He.DefD := ⟨("_law_pick", none), "_law_pick", "_law_pick", defArgs s__law_pick, defBody s__law_pick, defScope s__law_pick, [], []⟩
def d__law_refused : He.DefD := ⟨("_law_refused", none), "_law_refused", "_law_refused", defArgs s__law_refused, defBody s__law_refused, defScope s__law_refused, [], []⟩
def d__law_r_shape : He.DefD := ⟨("_law_r_shape", none), "_law_r_shape", "_law_r_shape", defArgs s__law_r_shape, defBody s__law_r_shape, defScope s__law_r_shape, [], []⟩
def d__law_r_can : He.DefD := ⟨("_law_r_can", none), "_law_r_can", "_law_r_can", defArgs s__law_r_can, defBody s__law_r_can, defScope s__law_r_can, [], []⟩
def d__law_r_blocked : He.DefD := ⟨("_law_r_blocked", none), "_law_r_blocked", "_law_r_blocked", defArgs s__law_r_blocked, defBody s__law_r_blocked, defScope s__law_r_blocked, [], []⟩
def d__law_met : He.DefD := ⟨("_law_met", none), "_law_met", "_law_met", defArgs s__law_met, defBody s__law_met, defScope s__law_met, [], []⟩
def d__law_middles_due : He.DefD := ⟨("_law_middles_due", none), "_law_middles_due", "_law_middles_due", defArgs s__law_middles_due, defBody s__law_middles_due, defScope s__law_middles_due, [], []⟩
def d__law_step_right : He.DefD := ⟨("_law_step_right", none), "_law_step_right", "_law_step_right", defArgs s__law_step_right, defBody s__law_step_right, defScope s__law_step_right, [], []⟩
def d__law_refuses : He.DefD := ⟨("_law_refuses", none), "_law_refuses", "_law_refuses", defArgs s__law_refuses, defBody s__law_refuses, defScope s__law_refuses, [], []⟩
def d__law_right : He.DefD := ⟨("_law_right", none), "_law_right", "_law_right", defArgs s__law_right, defBody s__law_right, defScope s__law_right, [], []⟩
def d_law : He.DefD := ⟨("law", none), "law", "law", defArgs s_law, defBody s_law, defScope s_law, [], []⟩
def fn : List He.DefD := [d_is_in, d_is_tuple, d_demand, d_is_shape, d_ends_of, d_Fabric___init__, d_Fabric_calls, d_Fabric___eq__, d_Fabric_twin, d_Fabric_has_outlet, d_Fabric_is_front_free, d_Fabric_is_behind_free, d_Fabric_look_at_ends, d_Fabric_demand_ends, d_Fabric_call, d_Fabric_end, d_Fabric_ways, d_Fabric_middles, d_Fabric_free_outlets, d_Fabric_is_blocked, d__law_dice, d__law_roll, d__law_pick, d__law_refused, d__law_r_shape, d__law_r_can, d__law_r_blocked, d__law_met, d__law_middles_due, d__law_step_right, d__law_refuses, d__law_right, d_law]
def fa : List He.Fa := [.glo "RingError", .glo "BadArgument", .glo "NotPossible", .glo "is_in", .glo "is_tuple", .glo "demand", .glo "is_shape", .glo "ends_of", .glo "Fabric", .glo "_law_dice", .glo "_law_roll", .glo "_law_pick", .glo "_law_refused", .glo "_law_r_shape", .glo "_law_r_can", .glo "_law_r_blocked", .glo "_law_met", .glo "_law_middles_due", .glo "_law_step_right", .glo "_law_refuses", .glo "_law_right", .glo "law", .cls "Fabric", .mkr "Fabric", .noat "Fabric" "shape", .noat "Fabric" "_calls", .meth "Fabric" "__init__", .meth "Fabric" "calls", .meth "Fabric" "__eq__", .meth "Fabric" "twin", .meth "Fabric" "has_outlet", .meth "Fabric" "is_front_free", .meth "Fabric" "is_behind_free", .meth "Fabric" "look_at_ends", .meth "Fabric" "demand_ends", .meth "Fabric" "call", .meth "Fabric" "end", .meth "Fabric" "ways", .meth "Fabric" "middles", .meth "Fabric" "free_outlets", .meth "Fabric" "is_blocked", .int "MOST_N" (8), .int "MOST_M" (20), .free "ValueError", .free "abs", .free "any", .free "bool", .free "dict", .free "int", .free "isinstance", .free "len", .free "max", .free "min", .free "range", .free "sorted", .free "super", .free "tuple"]
def er_BadArgument : DErr := ⟨"BadArgument", "name", (clsInit (top 2)).map fun q => (q.1, "BadArgument.__init__", q.2.1, .stmts q.2.2.1, q.2.2.2, mainGlobals, ["__class__"], builtinsNs)⟩
def er_NotPossible : DErr := ⟨"NotPossible", "word", (clsInit (top 3)).map fun q => (q.1, "NotPossible.__init__", q.2.1, .stmts q.2.2.1, q.2.2.2, mainGlobals, ["__class__"], builtinsNs)⟩
def es : List DErr := [er_BadArgument, er_NotPossible]
def tf : List He.Defn := [("_law_step_right", none), ("_law_refuses", none)]
def ex (K : PySem.W.Frag) : Bool := (iscB K "Fabric" && (eqcB K "Fabric" && (excIB K "NotPossible" && (decide (PySem.W.kitOne K (.ref (He.ga K "NotPossible")) (.ref (He.ga K "RingError")) = some true) && (decide (PySem.W.kitOne K (.ref (He.ga K "NotPossible")) (.type "ValueError") = some true) && (decide (PySem.W.kitOne K (.ref (He.ga K "NotPossible")) (.ref (He.ga K "BadArgument")) = some false) && (decide ((He.cT K ("_law_step_right", none)).2 ≠ (He.cT K ("_law_refuses", none)).2) && (errB K "BadArgument" "name" prog.main.file && (errB K "NotPossible" "word" prog.main.file && true)))))))))
def names : List PySem.Str := ["RingError", "BadArgument", "NotPossible", "is_in", "is_tuple", "demand", "MOST_N", "MOST_M", "is_shape", "ends_of", "Fabric", "_law_dice", "_law_roll", "_law_pick", "_law_refused", "_law_r_shape", "_law_r_can", "_law_r_blocked", "_law_met", "_law_middles_due", "_law_step_right", "_law_refuses", "_law_right"]
abbrev R : PySem.W.OpenRow := PySem.W.OpenLaw.row PySem.Challenge.rw_ringthrough_k05_whole_fabrics_step_by_st
abbrev hk : PySem.W.Hook := hookY 6 fa fn es tf ex
def ob (s : PySem.W.SharedT) : AlY := obsY 6 fa fn es tf ex (HandSHeadRun.getT s)
theorem ob_eq (s : PySem.W.SharedT) : ob s = hk.obs s.abs := obsY_eq (HandSHeadRun.getT_eq s)
theorem run (w : World) : HandSHeadRun.RunEq R (PySem.W.view R.prog [27]) hk ob 6000 names w := by
  intro os
  kernel_rfl
section
variable {K : PySem.W.Frag} {h : Heap} {mg : Str → Option Value}
theorem init_BadArgument (c : SaysY fa fn es tf ex h K) : initW K "BadArgument" = er_BadArgument.val := c.init 0 (e := er_BadArgument) rfl
theorem init_NotPossible (c : SaysY fa fn es tf ex h K) : initW K "NotPossible" = er_NotPossible.val := c.init 1 (e := er_NotPossible) rfl
theorem mod_of (X : K.In h) (G : h.Ns mainGlobals mg) (c : SaysY fa fn es tf ex h K) : Mod K mg := by
  have hx := c.more
  unfold ex at hx
  obtain ⟨x0, hx⟩ := He.ba hx
  obtain ⟨x1, hx⟩ := He.ba hx
  obtain ⟨x2, hx⟩ := He.ba hx
  obtain ⟨x3, hx⟩ := He.ba hx
  obtain ⟨x4, hx⟩ := He.ba hx
  obtain ⟨x5, hx⟩ := He.ba hx
  obtain ⟨x6, hx⟩ := He.ba hx
  obtain ⟨x7, hx⟩ := He.ba hx
  obtain ⟨x8, hx⟩ := He.ba hx
  exact ⟨(c.d.def_ 0 (d := d_is_in) rfl).elim fun fd F => ⟨fd, fun_of F⟩,
    He.glo_ok X G (c.d.fact 3 (f := .glo "is_in") rfl),
    (c.d.def_ 1 (d := d_is_tuple) rfl).elim fun fd F => ⟨fd, fun_of F⟩,
    He.glo_ok X G (c.d.fact 4 (f := .glo "is_tuple") rfl),
    (c.d.def_ 2 (d := d_demand) rfl).elim fun fd F => ⟨fd, fun_of F⟩,
    He.glo_ok X G (c.d.fact 5 (f := .glo "demand") rfl),
    (c.d.def_ 3 (d := d_is_shape) rfl).elim fun fd F => ⟨fd, fun_of F⟩,
    He.glo_ok X G (c.d.fact 6 (f := .glo "is_shape") rfl),
    (c.d.def_ 4 (d := d_ends_of) rfl).elim fun fd F => ⟨fd, fun_of F⟩,
    He.glo_ok X G (c.d.fact 7 (f := .glo "ends_of") rfl),
    (c.d.def_ 5 (d := d_Fabric___init__) rfl).elim fun fd F => ⟨fd, fun_of F⟩,
    He.meth_ok (c.d.fact 26 (f := .meth "Fabric" "__init__") rfl),
    (c.d.def_ 6 (d := d_Fabric_calls) rfl).elim fun fd F => ⟨fd, fun_of F⟩,
    He.meth_ok (c.d.fact 27 (f := .meth "Fabric" "calls") rfl),
    (c.d.def_ 7 (d := d_Fabric___eq__) rfl).elim fun fd F => ⟨fd, fun_of F⟩,
    He.meth_ok (c.d.fact 28 (f := .meth "Fabric" "__eq__") rfl),
    (c.d.def_ 8 (d := d_Fabric_twin) rfl).elim fun fd F => ⟨fd, fun_of F⟩,
    He.meth_ok (c.d.fact 29 (f := .meth "Fabric" "twin") rfl),
    (c.d.def_ 9 (d := d_Fabric_has_outlet) rfl).elim fun fd F => ⟨fd, fun_of F⟩,
    He.meth_ok (c.d.fact 30 (f := .meth "Fabric" "has_outlet") rfl),
    (c.d.def_ 10 (d := d_Fabric_is_front_free) rfl).elim fun fd F => ⟨fd, fun_of F⟩,
    He.meth_ok (c.d.fact 31 (f := .meth "Fabric" "is_front_free") rfl),
    (c.d.def_ 11 (d := d_Fabric_is_behind_free) rfl).elim fun fd F => ⟨fd, fun_of F⟩,
    He.meth_ok (c.d.fact 32 (f := .meth "Fabric" "is_behind_free") rfl),
    (c.d.def_ 12 (d := d_Fabric_look_at_ends) rfl).elim fun fd F => ⟨fd, fun_of F⟩,
    He.meth_ok (c.d.fact 33 (f := .meth "Fabric" "look_at_ends") rfl),
    (c.d.def_ 13 (d := d_Fabric_demand_ends) rfl).elim fun fd F => ⟨fd, fun_of F⟩,
    He.meth_ok (c.d.fact 34 (f := .meth "Fabric" "demand_ends") rfl),
    (c.d.def_ 14 (d := d_Fabric_call) rfl).elim fun fd F => ⟨fd, fun_of F⟩,
    He.meth_ok (c.d.fact 35 (f := .meth "Fabric" "call") rfl),
    (c.d.def_ 15 (d := d_Fabric_end) rfl).elim fun fd F => ⟨fd, fun_of F⟩,
    He.meth_ok (c.d.fact 36 (f := .meth "Fabric" "end") rfl),
    (c.d.def_ 16 (d := d_Fabric_ways) rfl).elim fun fd F => ⟨fd, fun_of F⟩,
    He.meth_ok (c.d.fact 37 (f := .meth "Fabric" "ways") rfl),
    (c.d.def_ 17 (d := d_Fabric_middles) rfl).elim fun fd F => ⟨fd, fun_of F⟩,
    He.meth_ok (c.d.fact 38 (f := .meth "Fabric" "middles") rfl),
    (c.d.def_ 18 (d := d_Fabric_free_outlets) rfl).elim fun fd F => ⟨fd, fun_of F⟩,
    He.meth_ok (c.d.fact 39 (f := .meth "Fabric" "free_outlets") rfl),
    (c.d.def_ 19 (d := d_Fabric_is_blocked) rfl).elim fun fd F => ⟨fd, fun_of F⟩,
    He.meth_ok (c.d.fact 40 (f := .meth "Fabric" "is_blocked") rfl),
    (c.d.def_ 20 (d := d__law_dice) rfl).elim fun fd F => ⟨fd, fun_of F⟩,
    He.glo_ok X G (c.d.fact 9 (f := .glo "_law_dice") rfl),
    (c.d.def_ 21 (d := d__law_roll) rfl).elim fun fd F => ⟨fd, fun_of F⟩,
    He.glo_ok X G (c.d.fact 10 (f := .glo "_law_roll") rfl),
    (c.d.def_ 22 (d := d__law_pick) rfl).elim fun fd F => ⟨fd, fun_of F⟩,
    He.glo_ok X G (c.d.fact 11 (f := .glo "_law_pick") rfl),
    (c.d.def_ 23 (d := d__law_refused) rfl).elim fun fd F => ⟨fd, fun_of F⟩,
    He.glo_ok X G (c.d.fact 12 (f := .glo "_law_refused") rfl),
    (c.d.def_ 24 (d := d__law_r_shape) rfl).elim fun fd F => ⟨fd, fun_of F⟩,
    He.glo_ok X G (c.d.fact 13 (f := .glo "_law_r_shape") rfl),
    (c.d.def_ 25 (d := d__law_r_can) rfl).elim fun fd F => ⟨fd, fun_of F⟩,
    He.glo_ok X G (c.d.fact 14 (f := .glo "_law_r_can") rfl),
    (c.d.def_ 26 (d := d__law_r_blocked) rfl).elim fun fd F => ⟨fd, fun_of F⟩,
    He.glo_ok X G (c.d.fact 15 (f := .glo "_law_r_blocked") rfl),
    (c.d.def_ 27 (d := d__law_met) rfl).elim fun fd F => ⟨fd, fun_of F⟩,
    He.glo_ok X G (c.d.fact 16 (f := .glo "_law_met") rfl),
    (c.d.def_ 28 (d := d__law_middles_due) rfl).elim fun fd F => ⟨fd, fun_of F⟩,
    He.glo_ok X G (c.d.fact 17 (f := .glo "_law_middles_due") rfl),
    (c.d.def_ 29 (d := d__law_step_right) rfl).elim fun fd F => ⟨fd, fun_of F⟩,
    He.glo_ok X G (c.d.fact 18 (f := .glo "_law_step_right") rfl),
    (c.d.def_ 30 (d := d__law_refuses) rfl).elim fun fd F => ⟨fd, fun_of F⟩,
    He.glo_ok X G (c.d.fact 19 (f := .glo "_law_refuses") rfl),
    (c.d.def_ 31 (d := d__law_right) rfl).elim fun fd F => ⟨fd, fun_of F⟩,
    He.glo_ok X G (c.d.fact 20 (f := .glo "_law_right") rfl),
    (c.d.def_ 32 (d := d_law) rfl).elim fun fd F => ⟨fd, fun_of F⟩,
    He.glo_ok X G (c.d.fact 21 (f := .glo "law") rfl),
    He.cls_ok (c.d.fact 22 (f := .cls "Fabric") rfl),
    He.mkr_ok (c.d.fact 23 (f := .mkr "Fabric") rfl),
    He.glo_ok X G (c.d.fact 8 (f := .glo "Fabric") rfl),
    iscB_ok (He.cls_ok (c.d.fact 22 (f := .cls "Fabric") rfl)) x0,
    eqcB_ok x1,
    He.noat_ok (c.d.fact 24 (f := .noat "Fabric" "shape") rfl),
    He.noat_ok (c.d.fact 25 (f := .noat "Fabric" "_calls") rfl),
    He.free_ok X G (c.d.fact 43 (f := .free "ValueError") rfl),
    He.free_ok X G (c.d.fact 44 (f := .free "abs") rfl),
    He.free_ok X G (c.d.fact 45 (f := .free "any") rfl),
    He.free_ok X G (c.d.fact 46 (f := .free "bool") rfl),
    He.free_ok X G (c.d.fact 47 (f := .free "dict") rfl),
    He.free_ok X G (c.d.fact 48 (f := .free "int") rfl),
    He.free_ok X G (c.d.fact 49 (f := .free "isinstance") rfl),
    He.free_ok X G (c.d.fact 50 (f := .free "len") rfl),
    He.free_ok X G (c.d.fact 51 (f := .free "max") rfl),
    He.free_ok X G (c.d.fact 52 (f := .free "min") rfl),
    He.free_ok X G (c.d.fact 53 (f := .free "range") rfl),
    He.free_ok X G (c.d.fact 54 (f := .free "sorted") rfl),
    He.free_ok X G (c.d.fact 55 (f := .free "super") rfl),
    He.free_ok X G (c.d.fact 56 (f := .free "tuple") rfl),
    He.int_ok X G (c.d.fact 41 (f := .int "MOST_N" (8)) rfl),
    He.int_ok X G (c.d.fact 42 (f := .int "MOST_M" (20)) rfl),
    excIB_ok x2,
    He.glo_ok X G (c.d.fact 1 (f := .glo "BadArgument") rfl),
    He.glo_ok X G (c.d.fact 0 (f := .glo "RingError") rfl),
    of_decide_eq_true x3,
    of_decide_eq_true x4,
    of_decide_eq_true x5,
    of_decide_eq_true x6,
    errTxt_of X G (init_BadArgument c) x7 (c.d.fact 1 (f := .glo "BadArgument") rfl) (c.d.fact 55 (f := .free "super") rfl) (by decide +kernel) ⟨fun env => L2.plainOf _ env, fun env => rfl⟩,
    xfc_of x7,
    errTxt_of X G (init_NotPossible c) x8 (c.d.fact 2 (f := .glo "NotPossible") rfl) (c.d.fact 55 (f := .free "super") rfl) (by decide +kernel) ⟨fun env => L2.plainOf _ env, fun env => rfl⟩,
    xfc_of x8⟩
end
theorem at_law {w : World} {mg : Str → Option Value} {fa : Addr} {h : Heap} {K : PySem.W.Frag} (X : K.In h) (G : h.Ns mainGlobals mg) (c : SaysY LW.fa fn es tf ex h K) (hm : mg "law" = some (.ref fa)) : LamX.LawAtS PySem.Challenge.rw_ringthrough_k05_whole_fabrics_step_by_st w K (L2.CX prog w) 10 63 "script" mg fa h := by
  have M := mod_of X G c
  have e := hm.symm.trans M.g_law
  cases e
  refine ⟨M.f_law.choose, [He.cT K ("_law_step_right", none), He.cT K ("_law_refuses", none)], spOf K (TT K) 1 sp_law, fun p hp => ?_, fun p hp => ?_, fun p hp => ?_, fun s u => ?_, fun H a ns hl hb hT hS => ?_, fun base kb gb hB => ?_⟩
  · simp only [List.mem_cons, List.not_mem_nil, or_false] at hp
    rcases hp with rfl | rfl
    · exact c.empty _ List.mem_cons_self
    · exact c.empty _ (List.mem_cons_of_mem _ List.mem_cons_self)
  · simp only [List.mem_cons, List.not_mem_nil, or_false] at hp
    rcases hp with rfl | rfl
    · exact c.out _ List.mem_cons_self
    · exact c.out _ (List.mem_cons_of_mem _ List.mem_cons_self)
  · simp only [List.mem_cons, List.not_mem_nil, or_false] at hp
    rcases hp with rfl | rfl
    · exact PySem.W.codeHd_of_K X (c.hd _ List.mem_cons_self)
    · exact PySem.W.codeHd_of_K X (c.hd _ (List.mem_cons_of_mem _ List.mem_cons_self))
  · obtain ⟨oc, od, kV, doc, pm, an, cdv, ct, osl, e, lk, hcd⟩ := M.f_law.choose_spec.ex
    rw [e]
    exact BindsTo.of_eq rfl
  · refine ⟨fun _ => none, [.lst (ns.map D.int)], fun _ d => d = .bl true, X0, ⟨fun a o z => (nomatch z), fun p hp => ?_⟩, ?_, rfl, ?_, fun _ _ _ _ _ _ _ _ _ _ _ z => z.elim, fun v τ' H' d _ _ r e => ?_⟩
    · simp only [TT, List.mem_cons, List.not_mem_nil, or_false] at hp
      rcases hp with rfl | rfl
      · exact LamX.TabS.nil (hT _ List.mem_cons_self)
      · exact LamX.TabS.nil (hT _ (List.mem_cons_of_mem _ List.mem_cons_self))
    · refine ⟨.ref a, [], rfl, ⟨a, ns.map V.int, rfl, ?_, ?_⟩, rfl⟩
      · rcases hS with z | z
        · exact .inl ⟨z, rfl⟩
        · exact .inr (.inr z)
      · clear hl hb hS
        induction ns with
        | nil => rfl
        | cons n ns ih => exact ⟨_, _, rfl, rfl, ih⟩
    · exact ⟨ns, rfl, hl, fun _ => rfl⟩
    · subst e
      exact r
  · exact ok_law M (hB _ List.mem_cons_self) (hB _ (List.mem_cons_of_mem _ List.mem_cons_self))
end LW
open PySem PySem.W PySem.Calls PyProof.Rows
theorem PySem.Challenge.cw_ringthrough_k05_whole_fabrics_step_by_st_holds : PySem.Challenge.rw_ringthrough_k05_whole_fabrics_step_by_st.Holds := by
  w_on; o_law
  refine HandSHeadRun.head_any (r := OpenLaw.row PySem.Challenge.rw_ringthrough_k05_whole_fabrics_step_by_st) (q := view (OpenLaw.row PySem.Challenge.rw_ringthrough_k05_whole_fabrics_step_by_st).prog [27]) (H := LW.hk) (ob := LW.ob) (M := 6000) (loose := LW.names) (d := HandSHeadRun.topDef (OpenLaw.row PySem.Challenge.rw_ringthrough_k05_whole_fabrics_step_by_st).prog 27) (kwd := []) LW.ob_eq
    (by kernel_rfl) (fun s => by kernel_rfl) LW.run (by kernel_rfl) (by kernel_rfl) (by kernel_rfl) (by rfl) (by first | assumption | decide +kernel) (by decide +kernel) ⟨rfl, rfl, rfl, rfl, rfl, by decide +kernel⟩ ?hw ?hc
  case hw => w_witness2
  case hc =>
    refine LamX.walk_ofTsE (l := PySem.Challenge.rw_ringthrough_k05_whole_fabrics_step_by_st) (n := 63) (k := 10) (x := "script") (CX := fun w => L2.CX LW.prog w) rfl (by decide) (by kernel_rfl) ⟨rfl, by decide, by decide⟩ ?F (fun w H s e s' hx => by
      obtain ⟨_, _, _, _, _, _, _, _, _, _, _, _, z⟩ := hx
      exact z.elim)
    intro w mg fa h Y G hmg0
    obtain ⟨K, KX, c⟩ := Y
    have hmg : mg ("law" : PySem.Str) = some (.ref fa) := by
      have e : (HandSHeadRun.topDef (OpenLaw.row PySem.Challenge.rw_ringthrough_k05_whole_fabrics_step_by_st).prog 27).name = ("law" : PySem.Str) := by kernel_rfl
      rw [← e]
      exact hmg0
    exact ⟨K, KX, LW.at_law KX G c hmg⟩

