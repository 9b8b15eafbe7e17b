import PyProof.Rows.All
import Wide.All
import OpenK.AllK
import Wide.FinOn
import HandS.ForMost
import HandS.Flow
import HandS.TupAny
import HandS.Exc
import HandS.RaiseMore
import HandS.Wide
import HandS.TupLe
import HandS.TupMul
import HandS.Small
import HandS.Style
import KE.DataMinMax
import KE.DataIsa
import KE.DataAny
import KE.DatumIndex
import PyProof.Rows.SeqMore
import HandS.Rev
import PyProof.ListRange
import HandS.More
import HandS.Dict
import PySem.Challenge.RW_redo_k74_at_odds
set_option Elab.async false
set_option linter.all false
set_option maxRecDepth 100000
set_option maxHeartbeats 4000000
namespace Fw
open PySem L2

/-! ## data, results -/
abbrev D := PyData
def kD : Key → D
  | .inl i => .int i
  | .inr x => .str x
def pD (p : Key × D) : D × D := (kD p.1, p.2)

inductive Cell where
  | lst (xs : List D)
  | dct (kvs : List (Key × D))
def Cell.toD : Cell → D
  | .lst xs => .list xs
  | .dct kvs => .dict (kvs.map pD)
inductive R where
  | fro (d : D)
  | own (c : Cell)
def R.dat : R → D
  | .fro d => d
  | .own c => c.toD
inductive SV where
  | no
  | d (d : D)
  | ow (c : Cell)
  | io (c : Cell)
abbrev Gm := List SV
def R.sv : R → SV
  | .fro d => .d d
  | .own c => .ow c
structure Ex where
  cls : Str
  arg : Option D
inductive Res (α : Type) where
  | ok (a : α)
  | er (x : Ex) (g : Gm)
  | no
namespace Res
variable {α β : Type}
def bind (r : Res α) (f : α → Res β) : Res β := match r with
  | .ok a => f a
  | .er x g => .er x g
  | .no => .no
def good (r : Res α) (k : α → Prop) (kx : Ex → Gm → Prop) : Prop := match r with
  | .ok a => k a
  | .er x g => kx x g
  | .no => False
@[simp] theorem bind_ok (a : α) (f : α → Res β) : (Res.ok a).bind f = f a := rfl
@[simp] theorem bind_er (x : Ex) (g : Gm) (f : α → Res β) : (Res.er x g).bind f = .er x g := rfl
@[simp] theorem bind_no (f : α → Res β) : (Res.no).bind f = .no := rfl
@[simp] theorem good_ok (a : α) (k : α → Prop) (kx : Ex → Gm → Prop) : (Res.ok a).good k kx = k a := rfl
@[simp] theorem good_er (x : Ex) (g : Gm) (k : α → Prop) (kx : Ex → Gm → Prop) : (Res.er x g).good k kx = kx x g := rfl
@[simp] theorem good_no (k : α → Prop) (kx : Ex → Gm → Prop) : (Res.no : Res α).good k kx = False := rfl
theorem good_bind (r : Res α) (f : α → Res β) (k : β → Prop) (kx : Ex → Gm → Prop) : (r.bind f).good k kx = r.good (fun a => (f a).good k kx) kx := by
  cases r <;> rfl
theorem good.mono {r : Res α} {k k' : α → Prop} {kx kx' : Ex → Gm → Prop} (h : r.good k kx) (h1 : ∀ a, k a → k' a) (h2 : ∀ x g, kx x g → kx' x g) : r.good k' kx' := by
  cases r with
  | ok a => exact h1 a h
  | er x g => exact h2 x g h
  | no => exact h
end Res

/-! ## representation -/
mutual
inductive Rp (K : PySem.W.Frag) (F : Hp) : V → D → Prop
  | non : Rp K F .non .none
  | bl (b : Bool) : Rp K F (.bl b) (.bool b)
  | int (i : Int) : Rp K F (.int i) (.int i)
  | str (x : Str) : Rp K F (.str x) (.str x)
  | lst {a : Addr} {xs : List V} {ds : List D} : SqL K F a xs → RpAll K F xs ds → Rp K F (.ref a) (.list ds)
  | tup {a : Addr} {xs : List V} {ds : List D} : SqT K F a xs → RpAll K F xs ds → Rp K F (.ref a) (.tuple ds)
  | dct {a : Addr} {kvs : List (Key × V)} {es : List (Key × D)} {ps : List (D × D)} : F a = some (.dK kvs) → RpKv K F kvs es → ps = es.map pD → Rp K F (.ref a) (.dict ps)
inductive RpAll (K : PySem.W.Frag) (F : Hp) : List V → List D → Prop
  | nil : RpAll K F [] []
  | cons {v : V} {vs : List V} {d : D} {ds : List D} : Rp K F v d → RpAll K F vs ds → RpAll K F (v :: vs) (d :: ds)
inductive RpKv (K : PySem.W.Frag) (F : Hp) : List (Key × V) → List (Key × D) → Prop
  | nil : RpKv K F [] []
  | cons {k : Key} {v : V} {vs : List (Key × V)} {d : D} {ds : List (Key × D)} : Rp K F v d → RpKv K F vs ds → RpKv K F ((k, v) :: vs) ((k, d) :: ds)
end
def Sub (F F' : Hp) : Prop := ∀ a o, F a = some o → F' a = some o
theorem Sub.refl (F : Hp) : Sub F F := fun _ _ h => h
theorem Sub.trans {F F1 F2 : Hp} (a : Sub F F1) (b : Sub F1 F2) : Sub F F2 := fun x o h => b x o (a x o h)
theorem Sub.rd {F F' : Hp} {a : Addr} {u : HO} (e : Sub F F') (h : Rd F a u) : Rd F' a u := by
  rcases h with h | ⟨o, h⟩
  · exact .inl (e a _ h)
  · exact .inr ⟨o, e a _ h⟩
theorem Sub.l {K : PySem.W.Frag} {F F' : Hp} {a : Addr} {xs : List V} (e : Sub F F') (h : SqL K F a xs) : SqL K F' a xs := by
  rcases h with h | h
  · exact .inl (e.rd h)
  · exact .inr h
theorem Sub.t {K : PySem.W.Frag} {F F' : Hp} {a : Addr} {xs : List V} (e : Sub F F') (h : SqT K F a xs) : SqT K F' a xs := by
  rcases h with h | h
  · exact .inl (e.rd h)
  · exact .inr h
theorem Sub.ne {F F' : Hp} {a : Addr} (e : Sub F F') (h : F' a = none) : F a = none := by
  cases q : F a with
  | none => rfl
  | some o => rw [e a o q] at h; cases h
section
variable {K : PySem.W.Frag} {F F' : Hp}
theorem Rp.mono (e : Sub F F') {v : V} {d : D} (h : Rp K F v d) : Rp K F' v d :=
  Rp.rec (motive_1 := fun v d _ => Rp K F' v d) (motive_2 := fun vs ds _ => RpAll K F' vs ds) (motive_3 := fun vs ds _ => RpKv K F' vs ds)
    .non (fun b => .bl b) (fun i => .int i) (fun x => .str x) (fun h _ r => .lst (e.l h) r) (fun h _ r => .tup (e.t h) r) (fun h _ q r => .dct (e _ _ h) r q)
    .nil (fun _ _ h t => .cons h t) .nil (fun _ _ h t => .cons h t) h
theorem RpAll.mono (e : Sub F F') {v : List V} {d : List D} (h : RpAll K F v d) : RpAll K F' v d :=
  RpAll.rec (motive_1 := fun v d _ => Rp K F' v d) (motive_2 := fun vs ds _ => RpAll K F' vs ds) (motive_3 := fun vs ds _ => RpKv K F' vs ds)
    .non (fun b => .bl b) (fun i => .int i) (fun x => .str x) (fun h _ r => .lst (e.l h) r) (fun h _ r => .tup (e.t h) r) (fun h _ q r => .dct (e _ _ h) r q)
    .nil (fun _ _ h t => .cons h t) .nil (fun _ _ h t => .cons h t) h
theorem RpKv.mono (e : Sub F F') {v : List (Key × V)} {d : List (Key × D)} (h : RpKv K F v d) : RpKv K F' v d :=
  RpKv.rec (motive_1 := fun v d _ => Rp K F' v d) (motive_2 := fun vs ds _ => RpAll K F' vs ds) (motive_3 := fun vs ds _ => RpKv K F' vs ds)
    .non (fun b => .bl b) (fun i => .int i) (fun x => .str x) (fun h _ r => .lst (e.l h) r) (fun h _ r => .tup (e.t h) r) (fun h _ q r => .dct (e _ _ h) r q)
    .nil (fun _ _ h t => .cons h t) .nil (fun _ _ h t => .cons h t) h
theorem RpAll.length {vs : List V} {ds : List D} (h : RpAll K F vs ds) : vs.length = ds.length := by
  induction ds generalizing vs with
  | nil => cases h; rfl
  | cons d ds ih => cases h with
    | cons h t => rw [List.length_cons, List.length_cons, ih t]
theorem RpAll.append {vs ws : List V} {ds es : List D} (h : RpAll K F vs ds) (k : RpAll K F ws es) : RpAll K F (vs ++ ws) (ds ++ es) := by
  induction ds generalizing vs with
  | nil => cases h; exact k
  | cons d ds ih => cases h with
    | cons h t => exact .cons h (ih t)
theorem RpAll.get {vs : List V} {ds : List D} {i : Nat} {d : D} (h : RpAll K F vs ds) (e : ds[i]? = some d) : ∃ v, vs[i]? = some v ∧ Rp K F v d := by
  induction ds generalizing vs i with
  | nil => cases e
  | cons d' ds ih => cases h with
    | cons h t =>
      cases i with
      | zero => simp at e; subst e; exact ⟨_, rfl, h⟩
      | succ i => exact ih (i := i) t (by simpa using e)
theorem RpAll.get' {vs : List V} {ds : List D} {i : Nat} {v : V} (h : RpAll K F vs ds) (e : vs[i]? = some v) : ∃ d, ds[i]? = some d ∧ Rp K F v d := by
  induction ds generalizing vs i with
  | nil => cases h; cases e
  | cons d' ds ih => cases h with
    | cons h t =>
      cases i with
      | zero => simp at e; subst e; exact ⟨_, rfl, h⟩
      | succ i => exact ih (i := i) t (by simpa using e)
theorem RpAll.take {vs : List V} {ds : List D} (h : RpAll K F vs ds) (n : Nat) : RpAll K F (vs.take n) (ds.take n) := by
  induction ds generalizing vs n with
  | nil => cases h; simp; exact .nil
  | cons d ds ih => cases h with
    | cons h t =>
      cases n with
      | zero => exact .nil
      | succ n => exact .cons h (ih t n)
theorem RpAll.drop {vs : List V} {ds : List D} (h : RpAll K F vs ds) (n : Nat) : RpAll K F (vs.drop n) (ds.drop n) := by
  induction ds generalizing vs n with
  | nil => cases h; simp; exact .nil
  | cons d ds ih => cases h with
    | cons h t =>
      cases n with
      | zero => exact .cons h t
      | succ n => exact ih t n
theorem RpAll.set {vs : List V} {ds : List D} {v : V} {d : D} (h : RpAll K F vs ds) (k : Rp K F v d) (n : Nat) : RpAll K F (vs.set n v) (ds.set n d) := by
  induction ds generalizing vs n with
  | nil => cases h; exact .nil
  | cons d' ds ih => cases h with
    | cons h t =>
      cases n with
      | zero => exact .cons k t
      | succ n => exact .cons h (ih t n)
end

/-! what represented data reads as in the heap -/
section
variable {X : Cx} {pins : List (Addr × Obj)} {σ : St} {H : Hp} {s : Shared}
theorem readsKey {k : Key} {v : Value} (h : keyIs k v = true) : ∃ as, Reads s.heap v (kD k) as := by
  rcases keyIs_shape h with ⟨i, t, rfl, rfl⟩ | ⟨x, t, rfl, rfl⟩
  · exact ⟨_, .int i t⟩
  · exact ⟨_, .str x t⟩
theorem Rp.reads (I : Inv X pins σ H s) {v : V} {d : D} (h : Rp X.K H v d) : ∀ u, RelV v u → ∃ as, Reads s.heap u d as :=
  Rp.rec (motive_1 := fun v d _ => ∀ u, RelV v u → ∃ as, Reads s.heap u d as) (motive_2 := fun vs ds _ => ∀ us, Vals vs us → ∃ as, ReadsAll s.heap us ds as)
    (motive_3 := fun kvs es _ => ∀ (ws : List (Key × Value)) (ents : List DictEntry), KV kvs ws → Pairs (mixKind X.prog X.w) ents ws → (∃ as, ReadsAll s.heap (ents.map (·.key)) ((es.map pD).map (·.1)) as) ∧ ∃ as, ReadsAll s.heap (ents.map (·.val)) ((es.map pD).map (·.2)) as)
    (fun u r => by cases (show u = Value.none from r); exact ⟨_, .none⟩) (fun b u r => by cases (show u = Value.bool b from r); exact ⟨_, .bool b⟩)
    (fun i u r => by obtain ⟨t, rfl⟩ := (show ∃ t, u = Value.int i t from r); exact ⟨_, .int i t⟩) (fun x u r => by obtain ⟨t, rfl⟩ := (show ∃ t, u = Value.str x t from r); exact ⟨_, .str x t⟩)
    (fun {a xs ds} h _ ih u r => by
      cases (show u = Value.ref a from r)
      obtain ⟨its, rv, ⟨o, n, ho, hc, hdn, hdt⟩, hlen⟩ := I.list h
      obtain ⟨as, q⟩ := ih its rv
      exact ⟨_, .list ho hc hdt q⟩)
    (fun {a xs ds} h _ ih u r => by
      cases (show u = Value.ref a from r)
      obtain ⟨its, rv, ⟨o, ho, hc, n, hdt⟩, hlen⟩ := I.tuple h
      obtain ⟨as, q⟩ := ih its rv
      exact ⟨_, .tuple ho hc hdt q⟩)
    (fun {a kvs es ps} h _ e ih u r => by
      cases (show u = Value.ref a from r)
      obtain ⟨_, _, vs, kv, o, ents, ep, h1, h2, h3, h4, h5, h6⟩ := I.hok a _ h
      obtain ⟨⟨as, q1⟩, ⟨bs, q2⟩⟩ := ih vs ents.toList kv h5
      subst e
      exact ⟨_, .dict h1 h2.1 h3 q1 q2⟩)
    (fun us r => by cases r; exact ⟨_, .nil⟩)
    (fun _ _ ih1 ih2 us r => by
      cases r with
      | cons r1 r2 =>
        obtain ⟨as, q1⟩ := ih1 _ r1
        obtain ⟨bs, q2⟩ := ih2 _ r2
        exact ⟨_, .cons q1 q2⟩)
    (fun ws ents r p => by
      cases r
      cases p
      exact ⟨⟨_, .nil⟩, ⟨_, .nil⟩⟩)
    (fun {k v vs d ds} _ _ ih1 ih2 ws ents r p => by
      cases r with
      | cons r1 r2 =>
        cases p with
        | cons p1 p2 p3 =>
          obtain ⟨⟨as, q1⟩, ⟨bs, q2⟩⟩ := ih2 _ _ r2 p3
          obtain ⟨e1, rv⟩ := r1
          obtain ⟨cs, q3⟩ := ih1 _ rv
          obtain ⟨ds', q4⟩ := readsKey (s := s) (k := k) (show keyIs k _ = true by rw [show k = _ from e1]; exact p1)
          refine ⟨⟨_, .cons q4 q1⟩, ⟨_, .cons (Eq.mpr (congrArg (fun z => Reads s.heap z d cs) p2) q3) q2⟩⟩) h
end

/-! ## the frame of a def: what is frozen, what is owned -/
structure Bd where
  U : Hp
  F0 : Hp
  π : List (Option Addr)
  n : Nat
def CellAt (K : PySem.W.Frag) (F H : Hp) (a : Addr) : Cell → Prop
  | .lst xs => ∃ vs, H a = some (.lst vs) ∧ RpAll K F vs xs
  | .dct kvs => ∃ es, H a = some (.dK es) ∧ RpKv K F es kvs
theorem CellAt.some {K : PySem.W.Frag} {F H : Hp} {a : Addr} {c : Cell} (h : CellAt K F H a c) : ∃ o, H a = some o := by
  cases c with
  | lst xs => obtain ⟨vs, h, _⟩ := h; exact ⟨_, h⟩
  | dct kvs => obtain ⟨vs, h, _⟩ := h; exact ⟨_, h⟩
theorem CellAt.mono {K : PySem.W.Frag} {F F' H H' : Hp} {a : Addr} {c : Cell} (h : CellAt K F H a c) (e : Sub F F') (eh : H' a = H a) : CellAt K F' H' a c := by
  cases c with
  | lst xs => obtain ⟨vs, h, r⟩ := h; exact ⟨vs, eh.trans h, r.mono e⟩
  | dct kvs => obtain ⟨vs, h, r⟩ := h; exact ⟨vs, eh.trans h, r.mono e⟩
def SlotOk (K : PySem.W.Frag) (F H : Hp) (p : Option Addr) (v : Option V) : SV → Prop
  | .no => True
  | .d d => ∃ x, v = some x ∧ Rp K F x d
  | .ow c => ∃ a, v = some (.ref a) ∧ CellAt K F H a c
  | .io c => ∃ a, p = some a ∧ v = some (.ref a) ∧ CellAt K F H a c
def SV.owned : SV → Bool
  | .ow _ => true
  | .io _ => true
  | _ => false
def Owns (σ : St) (Γ : Gm) (i : Nat) (a : Addr) : Prop := (∃ sv, Γ[i]? = some sv ∧ sv.owned = true) ∧ σ[i]? = some (some (.ref a))
structure Rel (B : Bd) (K : PySem.W.Frag) (F H : Hp) (σ : St) (Γ : Gm) : Prop where
  lσ : σ.length = B.n
  lΓ : Γ.length = B.n
  uh : Sub B.U H
  fh : Sub F H
  f0 : Sub B.F0 F
  nw : ∀ a o, F a = some o → B.F0 a ≠ none ∨ B.U a = none
  sl : ∀ i sv, Γ[i]? = some sv → SlotOk K F H (B.π.getD i none) (σ.getD i none) sv
  inj : ∀ i j a, Owns σ Γ i a → Owns σ Γ j a → i = j
  ofr : ∀ i a, Owns σ Γ i a → F a = none ∧ B.U a = none
theorem Rel.len {B : Bd} {K : PySem.W.Frag} {F H : Hp} {σ : St} {Γ : Gm} (r : Rel B K F H σ Γ) : σ.length = Γ.length := r.lσ.trans r.lΓ.symm
def RR (B : Bd) (K : PySem.W.Frag) (F H : Hp) (σ : St) (Γ : Gm) (v : V) : R → Prop
  | .fro d => Rp K F v d
  | .own c => ∃ a, v = .ref a ∧ F a = none ∧ B.U a = none ∧ (∀ i, ¬ Owns σ Γ i a) ∧ CellAt K F H a c
/-- a step that touches nothing that stood -/
structure Grow (F H F' H' : Hp) : Prop where
  hh : Sub H H'
  ff : Sub F F'
  fh : Sub F' H'
  nw : ∀ a o, F' a = some o → F a ≠ none ∨ H a = none
theorem Grow.refl {F H : Hp} (h : Sub F H) : Grow F H F H := ⟨Sub.refl _, Sub.refl _, h, fun a o e => .inl (by rw [e]; simp)⟩
theorem Grow.trans {F H F1 H1 F2 H2 : Hp} (a : Grow F H F1 H1) (b : Grow F1 H1 F2 H2) : Grow F H F2 H2 where
  hh := a.hh.trans b.hh
  ff := a.ff.trans b.ff
  fh := b.fh
  nw := fun c o e => by
    rcases b.nw c o e with q | q
    · cases q1 : F1 c with
      | none => exact absurd q1 q
      | some u => exact a.nw c u q1
    · exact .inr (a.hh.ne q)
/-- a new object is laid and frozen -/
theorem Grow.laid {F H : Hp} {p : Addr} {o : HO} (h : Sub F H) (hp : H p = none) : Grow F H (upd F p o) (upd H p o) where
  hh := fun a u e => by rw [upd_ne (ne_of_none e hp)]; exact e
  ff := fun a u e => by rw [upd_ne (ne_of_none e (h.ne hp))]; exact e
  fh := fun a u e => by
    by_cases q : a = p
    · subst q; rw [upd_same] at e ⊢; exact e
    · rw [upd_ne q] at e ⊢; exact h a u e
  nw := fun a u e => by
    by_cases q : a = p
    · subst q; exact .inr hp
    · rw [upd_ne q] at e; exact .inl (by rw [e]; simp)
/-- a new object is laid, not frozen -/
theorem Grow.new {F H : Hp} {p : Addr} {o : HO} (h : Sub F H) (hp : H p = none) : Grow F H F (upd H p o) where
  hh := fun a u e => by rw [upd_ne (ne_of_none e hp)]; exact e
  ff := Sub.refl _
  fh := fun a u e => by rw [upd_ne (ne_of_none (h a u e) hp)]; exact h a u e
  nw := fun a u e => .inl (by rw [e]; simp)
section
variable {B : Bd} {K : PySem.W.Frag} {F H F' H' : Hp} {σ : St} {Γ : Gm}
theorem Owns.cell (r : Rel B K F H σ Γ) {i : Nat} {a : Addr} (h : Owns σ Γ i a) : ∃ c, (Γ[i]? = some (.ow c) ∨ Γ[i]? = some (.io c)) ∧ CellAt K F H a c := by
  obtain ⟨⟨sv, e, o⟩, e2⟩ := h
  have q := r.sl i sv e
  have e3 : σ.getD i none = some (.ref a) := by rw [List.getD_eq_getElem?_getD, e2]; rfl
  rw [e3] at q
  cases sv with
  | no => cases o
  | d d => cases o
  | ow c =>
    obtain ⟨b, e4, q⟩ := q
    cases e4
    exact ⟨c, .inl e, q⟩
  | io c =>
    obtain ⟨b, _, e4, q⟩ := q
    cases e4
    exact ⟨c, .inr e, q⟩
theorem Owns.some (r : Rel B K F H σ Γ) {i : Nat} {a : Addr} (h : Owns σ Γ i a) : ∃ o, H a = some o := by
  obtain ⟨c, _, q⟩ := h.cell r
  exact q.some
theorem SlotOk.mono {p : Option Addr} {v : Option V} {sv : SV} (h : SlotOk K F H p v sv) (ff : Sub F F') (hh : sv.owned = true → ∀ a, v = Option.some (.ref a) → H' a = H a) : SlotOk K F' H' p v sv := by
  cases sv with
  | no => trivial
  | d d => obtain ⟨x, e, q⟩ := h; exact ⟨x, e, q.mono ff⟩
  | ow c => obtain ⟨a, e, q⟩ := h; exact ⟨a, e, q.mono ff (hh rfl a e)⟩
  | io c => obtain ⟨a, e0, e, q⟩ := h; exact ⟨a, e0, e, q.mono ff (hh rfl a e)⟩
theorem Rel.grow (r : Rel B K F H σ Γ) (g : Grow F H F' H') : Rel B K F' H' σ Γ where
  lσ := r.lσ
  lΓ := r.lΓ
  uh := r.uh.trans g.hh
  fh := g.fh
  f0 := r.f0.trans g.ff
  nw := fun a o e => by
    rcases g.nw a o e with q | q
    · cases q1 : F a with
      | none => exact absurd q1 q
      | some u => exact r.nw a u q1
    · exact .inr (r.uh.ne q)
  sl := fun i sv e => (r.sl i sv e).mono g.ff fun o a ea => by
    have ow : Owns σ Γ i a := ⟨⟨sv, e, o⟩, by
      rw [List.getD_eq_getElem?_getD] at ea
      cases q : σ[i]? with
      | none => rw [q] at ea; cases ea
      | some w => rw [q] at ea; exact congrArg Option.some ea⟩
    obtain ⟨u, hu⟩ := ow.some r
    rw [hu, g.hh a u hu]
  inj := r.inj
  ofr := fun i a o => by
    obtain ⟨f, u⟩ := r.ofr i a o
    refine ⟨?_, u⟩
    cases q : F' a with
    | none => rfl
    | some w =>
      rcases g.nw a w q with q1 | q1
      · exact absurd f q1
      · obtain ⟨z, hz⟩ := o.some r
        rw [hz] at q1; cases q1
/-- what the result of a value step is -/
def NR (K : PySem.W.Frag) (F' H H' : Hp) (v : V) : R → Prop
  | .fro d => Rp K F' v d
  | .own c => ∃ a, v = .ref a ∧ H a = none ∧ F' a = none ∧ CellAt K F' H' a c
theorem NR.rr (r : Rel B K F H σ Γ) {v : V} {q : R} (h : NR K F' H H' v q) : RR B K F' H' σ Γ v q := by
  cases q with
  | fro d => exact h
  | own c =>
    obtain ⟨a, e, n, f, k⟩ := h
    refine ⟨a, e, f, r.uh.ne n, fun i o => ?_, k⟩
    obtain ⟨u, hu⟩ := o.some r
    rw [hu] at n; cases n
theorem RR.grow (r : Rel B K F H σ Γ) {v : V} {q : R} (h : RR B K F H σ Γ v q) (g : Grow F H F' H') : RR B K F' H' σ Γ v q := by
  cases q with
  | fro d => exact Rp.mono g.ff h
  | own c =>
    obtain ⟨a, e, f, u, n, k⟩ := h
    obtain ⟨o, ho⟩ := k.some
    refine ⟨a, e, ?_, u, n, k.mono g.ff (by rw [ho, g.hh a o ho])⟩
    cases q : F' a with
    | none => rfl
    | some w =>
      rcases g.nw a w q with q1 | q1
      · exact absurd f q1
      · rw [ho] at q1; cases q1
/-- a result is frozen -/
theorem RR.freeze (r : Rel B K F H σ Γ) {v : V} {q : R} (h : RR B K F H σ Γ v q) : ∃ F', Rel B K F' H σ Γ ∧ Sub F F' ∧ Rp K F' v q.dat := by
  cases q with
  | fro d => exact ⟨F, r, Sub.refl _, h⟩
  | own c =>
    obtain ⟨a, e, f, u, n, k⟩ := h
    obtain ⟨o, ho⟩ := k.some
    have ff : Sub F (upd F a o) := fun b w q => by rw [upd_ne (ne_of_none q f)]; exact q
    refine ⟨upd F a o, ⟨r.lσ, r.lΓ, r.uh, ?_, r.f0.trans ff, ?_, ?_, r.inj, ?_⟩, ff, ?_⟩
    · intro b w q
      by_cases e1 : b = a
      · subst e1; rw [upd_same] at q; cases q; exact ho
      · rw [upd_ne e1] at q; exact r.fh b w q
    · intro b w q
      by_cases e1 : b = a
      · subst e1; exact .inr u
      · rw [upd_ne e1] at q; exact r.nw b w q
    · intro i sv e1
      exact (r.sl i sv e1).mono ff fun _ _ _ => rfl
    · intro i b o1
      obtain ⟨f1, u1⟩ := r.ofr i b o1
      refine ⟨?_, u1⟩
      rw [upd_ne (fun e1 => n i (by rw [← e1]; exact o1))]
      exact f1
    · subst e
      cases c with
      | lst xs =>
        obtain ⟨vs, h1, h2⟩ := k
        rw [h1] at ho; cases ho
        exact .lst (SqL.of upd_same) (h2.mono ff)
      | dct kvs =>
        obtain ⟨vs, h1, h2⟩ := k
        rw [h1] at ho; cases ho
        exact .dct upd_same (h2.mono ff) rfl
/-- a slot gets a value -/
theorem Rel.set (r : Rel B K F H σ Γ) {i : Nat} {v : V} {q : R} (h : RR B K F H σ Γ v q) : Rel B K F H (σ.set i (some v)) (Γ.set i q.sv) := by
  have other : ∀ j a, j ≠ i → Owns (σ.set i (some v)) (Γ.set i q.sv) j a → Owns σ Γ j a := by
    rintro j a hj ⟨⟨sv, e, o⟩, e2⟩
    rw [List.getElem?_set_ne (fun z => hj z.symm)] at e e2
    exact ⟨⟨sv, e, o⟩, e2⟩
  have own : ∀ a, Owns (σ.set i (some v)) (Γ.set i q.sv) i a → (F a = none ∧ B.U a = none) ∧ ∀ j, ¬ Owns σ Γ j a := by
    rintro a ⟨⟨sv, e, o⟩, e2⟩
    have hi : i < Γ.length := by
      have := (List.getElem?_eq_some_iff.mp e).1
      simpa using this
    rw [List.getElem?_set_self hi] at e
    rw [List.getElem?_set_self (by rw [r.len]; exact hi)] at e2
    cases e2
    cases q with
    | fro d => cases e; cases o
    | own c =>
      obtain ⟨b, e4, f, u, n, k⟩ := h
      cases e4
      exact ⟨⟨f, u⟩, n⟩
  refine ⟨by rw [List.length_set]; exact r.lσ, by rw [List.length_set]; exact r.lΓ, r.uh, r.fh, r.f0, r.nw, ?_, ?_, ?_⟩
  · intro j sv e
    by_cases hj : j = i
    · subst hj
      have hi : j < Γ.length := by
        have := (List.getElem?_eq_some_iff.mp e).1
        simpa using this
      rw [List.getElem?_set_self hi] at e
      have ev : (σ.set j (some v)).getD j none = some v := by rw [List.getD_eq_getElem?_getD, List.getElem?_set_self (by rw [r.len]; exact hi)]; rfl
      rw [ev]
      cases e
      cases q with
      | fro d => exact ⟨v, rfl, h⟩
      | own c =>
        obtain ⟨b, e4, f, u, n, k⟩ := h
        exact ⟨b, by rw [e4], k⟩
    · rw [List.getElem?_set_ne (fun z => hj z.symm)] at e
      have ev : (σ.set i (some v)).getD j none = σ.getD j none := by rw [List.getD_eq_getElem?_getD, List.getElem?_set_ne (fun z => hj z.symm), ← List.getD_eq_getElem?_getD]
      rw [ev]
      exact r.sl j sv e
  · intro j k a h1 h2
    by_cases hj : j = i
    · subst hj
      by_cases hk : k = j
      · exact hk.symm
      · exact absurd (other k a hk h2) ((own a h1).2 k)
    · by_cases hk : k = i
      · subst hk
        exact absurd (other j a hj h1) ((own a h2).2 j)
      · exact r.inj j k a (other j a hj h1) (other k a hk h2)
  · intro j a h1
    by_cases hj : j = i
    · subst hj; exact (own a h1).1
    · exact r.ofr j a (other j a hj h1)
/-- slots are forgotten -/
def Weak (Γ Γ' : Gm) : Prop := Γ.length = Γ'.length ∧ ∀ (i : Nat) (sv : SV), Γ'[i]? = some sv → sv = SV.no ∨ Γ[i]? = some sv
theorem Rel.weak (r : Rel B K F H σ Γ) {Γ' : Gm} (w : Weak Γ Γ') : Rel B K F H σ Γ' := by
  have own : ∀ j a, Owns σ Γ' j a → Owns σ Γ j a := by
    rintro j a ⟨⟨sv, e, o⟩, e2⟩
    rcases w.2 j sv e with q | q
    · subst q; cases o
    · exact ⟨⟨sv, q, o⟩, e2⟩
  refine ⟨r.lσ, w.1.symm.trans r.lΓ, r.uh, r.fh, r.f0, r.nw, ?_, fun i j a h1 h2 => r.inj i j a (own i a h1) (own j a h2), fun i a h => r.ofr i a (own i a h)⟩
  intro i sv e
  rcases w.2 i sv e with q | q
  · subst q; trivial
  · exact r.sl i sv q
theorem Weak.setNo (Γ : Gm) (i : Nat) : Weak Γ (Γ.set i SV.no) := by
  refine ⟨by rw [List.length_set], fun j sv e => ?_⟩
  by_cases hj : j = i
  · subst hj
    have hi : j < Γ.length := by
      have := (List.getElem?_eq_some_iff.mp e).1
      simpa using this
    rw [List.getElem?_set_self hi] at e
    cases e
    exact .inl rfl
  · rw [List.getElem?_set_ne (fun z => hj z.symm)] at e
    exact .inr e
end
end Fw

namespace Fw
open PySem L2 PySem.Spec PyProof.Rows

/-! ## a def that keeps its promise where no repr is under way -/
structure GOk (P : Program) (w : World) (K : PySem.W.Frag) (mg : Str → Option Value) (base : Heap) (CX : CXT) (k : Nat) (f : Addr) (fd : FuncData) (ps : List Str) (sp : Sp) : Prop where
  len : ∀ vs H Q E, sp vs H Q E → vs.length = ps.length
  run : ∀ (A : Around) (outer : List PySem.Env) (s : Shared) (H : Hp) (args : Args) (us : List Value) (vs : List V) (Q : VK) (E : XK), A.guards = some [] → Room k A →
    Env0 P w K mg base A outer s H → BindsTo s fd args (ps.zip us) → Vals vs us → sp vs H Q E → codeAny (model P w) A (.call (.ref f) args) (CR CX outer P w H s Q E) s
section
variable {P : Program} {w : World} {K : PySem.W.Frag} {mg : Str → Option Value} {base : Heap} {CX : CXT} {k : Nat} {f : Addr} {fd : FuncData} {ps : List Str} {sp : Sp}
theorem GOk.mono {j : Nat} (G : GOk P w K mg base CX j f fd ps sp) (h : j ≤ k) : GOk P w K mg base CX k f fd ps sp where
  len := G.len
  run := fun A outer s H args us vs Q E hg hr => G.run A outer s H args us vs Q E hg (hr.mono h)
theorem GOk.none (h : ∀ vs H Q E, ¬ sp vs H Q E) : GOk P w K mg base CX k f fd ps sp where
  len := fun vs H Q E z => (h vs H Q E z).elim
  run := fun _ _ _ H _ _ vs Q E _ _ _ _ _ z => (h vs H Q E z).elim
theorem GOk.of {name qual : Str} {st : Stmt} {N : List Str} (F : Fun K name qual st f fd) (S : FnScope N ps (defScope st)) (len : ∀ vs H Q E, sp vs H Q E → vs.length = ps.length)
    (body : ∀ (cdv : Value) (A : Around) (outer : List PySem.Env) (s : Shared) (H : Hp) (vs : List V) (Q : VK) (E : XK), A.guards = some [] → Room k (A.deeper (envOfC qual (defScope st) s.heap.objs.size f cdv)) → sp vs H Q E →
      ∃ t, PSs (cxOf CX P w K mg base N qual (defScope st) f cdv A outer s H E) (defBody st) t ∧ t { nx := fun _ H' => Q .non H', rt := Q } (start N vs) H) : GOk P w K mg base CX (k + 1) f fd ps sp := by
  obtain ⟨oc, od, kV, doc, pm, an, cdv, ct, osl, efd, lk, hcd⟩ := F.ex
  subst efd
  constructor
  · exact len
  intro A outer s H args us vs Q E hg hr e0 bnd rel hsp
  have inb : ∀ b o, base.get? b = some o → s.heap.get? b = some o := fun b o e => (e0.bs b o e).1
  have KX : K.In s.heap := e0.mod.kin.keeps inb
  refine codeAny_call_function hr.depth (KX _ _ lk) rfl S.co S.gen rfl (PySem.W.codeRec_of KX hcd) (bnd _ _ _ _ ?_)
  have hk : ∀ y ∈ ps.zip us, (defScope st).names.lookup y.1 = some .local ∨ ((defScope st).names.lookup y.1 = some .cell ∧ ((cellsFrom (s.heap.objs.size + 1) (defScope st).names []).lookup y.1).isSome = true) := by
    intro y hy
    have hp : y.1 ∈ ps := (List.of_mem_zip (a := y.1) (b := y.2) hy).1
    exact (S.par y.1 hp).imp id fun q => ⟨q, PySem.W.cellsFrom_some _ _ _ (.inl q)⟩
  refine wpAny_newFunctionEnv_cells S.kind hk ?_
  intro env he s1 x
  subst he
  refine ⟨(e0.mod.nolimit.keeps inb).keeps x.toInCall.keep, codeAny_func ?_⟩
  obtain ⟨t, ht, hq⟩ := body cdv A outer s H vs Q E hg (hr.deeper _) hsp
  have I : Inv (cxOf CX P w K mg base N qual (defScope st) f cdv A outer s H E) [] (start N vs) H s1 := inv_start S hr.hd e0 (len _ _ _ _ hsp) rel x
  refine wpAny_mono (ht.run [] s1 (start N vs) H _ I hq) ?_ fun e s' z => z
  intro fl s' z
  cases fl with
  | ret u => obtain ⟨v, σ', H', J, rv, q⟩ := z; exact ⟨v, H', J.os, J.bare, J.base, J.hok, rv, q⟩
  | next => obtain ⟨σ', H', J, q⟩ := z; exact ⟨.non, H', J.os, J.bare, J.base, J.hok, rfl, q⟩
  | brk => obtain ⟨_, _, _, q⟩ := z; cases q
  | cont => obtain ⟨_, _, _, q⟩ := z; cases q
end
section
variable {X : Cx} {CX : CXT} {k : Nat} {f : Addr} {fd : FuncData} {ps : List Str} {sp : Sp} {E : XK} {x : Str} {p pos : Pos} {e : Expr} {es : List Expr} {t : TA}
theorem GOk.here (G : GOk X.prog X.w X.K X.mg X.base CX k f fd ps sp) (hgd : X.A.guards = some []) (hr : Room k X.A) (hb : Binds X.K fd ps []) (hx : Passes CX X E) {pins : List (Addr × Obj)} {σ : L2.St} {H : Hp} {s : Shared} {Q : VK} {us : List Value} {vs : List V}
    (I : Inv X pins σ H s) (r : Vals vs us) (h : sp vs H Q E) : wpAny (model X.prog X.w) X.A (call (.ref f) us) (EP X pins σ Q) X.xe s := by
  have hl : (us ++ ([] : List Value)).length = ps.length := by rw [List.append_nil, ← r.length]; exact G.len _ _ _ _ h
  have hz := hb s us I.kIn hl
  rw [List.append_nil] at hz
  refine wpAny_call (codeAny_mono (G.run X.A X.stack s H ⟨us, []⟩ us vs Q E hgd hr I.env0 hz r h) ?_)
  intro r s' z
  cases r with
  | error e => exact hx _ _ _ _ _ _ I z
  | ok fl => cases fl with
    | ret u => exact I.after z
    | next => cases z
    | brk => cases z
    | cont => cases z
def gCall (sp : Sp) (E : XK) (t : TA) : TE := fun σ H Q => t σ H fun vs H1 => sp vs H1 Q E
theorem ge_call (G : GOk X.prog X.w X.K X.mg X.base CX k f fd ps sp) (hgd : X.A.guards = some []) (hr : Room k X.A) (hb : Binds X.K fd ps []) (hx : Passes CX X E) (hg : Gl X x) (hm : X.mg x = some (.ref f)) (hk : PySem.W.keepIn X.K (.ref f) = true)
    (ha : PA X (e :: es) t) (hdb : (x == ("__debug__" : Str)) = false := by decide) (he : starEach (e :: es) X.env = (false, eval e X.env) :: starEach es X.env := by rfl) (hpl : (backTo pos (starEach es X.env)).any (·.1) = false := by rfl) :
    PE X (.Call (.Name x p) (e :: es) [] pos) (gCall sp E t) := by
  constructor
  intro pins s σ H Q I h
  apply wpAny_Call_Name_kw
  refine ld_glob I hg hm (PySem.W.callWith_K (h₀ := X.base) I.ok.mod.kin hk (thn (ha.run pos pins s σ H _ I h) ?_) he hpl) hdb
  rintro us s1 ⟨vs, H1, I1, r, q⟩
  exact ⟨I1.kIn, G.here hgd hr hb hx I1 r q⟩
theorem ge_call0 (G : GOk X.prog X.w X.K X.mg X.base CX k f fd ps sp) (hgd : X.A.guards = some []) (hr : Room k X.A) (hb : Binds X.K fd ps []) (hx : Passes CX X E) (hg : Gl X x) (hm : X.mg x = some (.ref f)) (hk : PySem.W.keepIn X.K (.ref f) = true)
    (hdb : (x == ("__debug__" : Str)) = false := by decide) : PE X (.Call (.Name x p) [] [] pos) (gCall sp E tNil) := by
  constructor
  intro pins s σ H Q I h
  apply wpAny_Call_Name_kw
  exact ld_glob I hg hm (PySem.W.callWith_K0 I.kIn hk (G.here (us := []) hgd hr hb hx I .nil h)) hdb
end
/-! ## the law's own call -/
theorem law_run {P : Program} {w : World} {K : PySem.W.Frag} {mg mb : Str → Option Value} {CX : CXT} {k : Nat} {fa a : Addr} {fd : FuncData} {x : Str} {sp : Sp} {s₁ : Shared} {vs : List Value} {ns : List Int}
    (KX : K.In s₁.heap) (hns : s₁.heap.Ns mainGlobals mg) (hb : s₁.heap.Ns builtinsNs mb) (hbb : ∀ x : Str, x ≠ "__name__" → mb x = bootBuiltins x) (hlim : s₁.heap.NoLimit) (hg : s₁.gens = #[])
    (ha : s₁.heap.get? a = some { cls := .type "list", data := .seq vs.toArray }) (hi : IntsAre vs ns) (hl : ns.length ≤ sizeLine) (hr : Room k callerA)
    (G : ∀ base : Heap, K.In base → base.Ns mainGlobals mg → GOk P w K mg base CX k fa fd [x] sp) (hbind : Binds K fd [x] [])
    (hsp : ∀ H : Hp, Only H → SqL K H a (ns.map V.int) → sp [.ref a] H (fun v _ => v = .bl true) fun _ _ _ => False)
    (hCX : ∀ H e s', CX [] H s₁ (fun _ _ _ => False) e s' → False) :
    codeAny (model P w) callerA (.call (.ref fa) ⟨[.ref a], []⟩) (fun r s' => r = .ok (.ret (.bool true)) ∧ OldK s₁.heap s'.heap ∧ s'.os = s₁.os ∧ AllBare s'.gens) s₁ := by
  have rv : Vals (ns.map V.int) vs := vals_ints hi
  have lv : ns.length = vs.length := by have := rv.length; rwa [List.length_map] at this
  /- the script is tracked, if it is not the module's own -/
  suffices main : ∀ H : Hp, Only H → SqL K H a (ns.map V.int) → HOk P w H s₁.heap → (∀ b, H b ≠ none → b = a ∧ K.lookup a = none) →
      codeAny (model P w) callerA (.call (.ref fa) ⟨[.ref a], []⟩) (fun r s' => r = .ok (.ret (.bool true)) ∧ OldK s₁.heap s'.heap ∧ s'.os = s₁.os ∧ AllBare s'.gens) s₁ by
    cases hk : K.lookup a with
    | some o =>
      have e := (KX a o hk).symm.trans ha
      cases e
      refine main (fun _ => none) (fun _ => Or.inl rfl) ?_ (fun b u z => nomatch (show (none : Option HO) = some u from z)) (fun b z => (z rfl).elim)
      exact Or.inr ⟨_, vs.toArray, _, hk, rfl, rfl, rfl, by rw [List.size_toArray, ← lv]; exact hl, by simpa using rv⟩
    | none =>
      have there : (fun b => if b = a then some (HO.frz { cls := .type "list", data := .seq vs.toArray } (.lst (ns.map V.int))) else none : Hp) a = some (HO.frz { cls := .type "list", data := .seq vs.toArray } (.lst (ns.map V.int))) := if_pos rfl
      refine main (fun b => if b = a then some (HO.frz { cls := .type "list", data := .seq vs.toArray } (.lst (ns.map V.int))) else none) ?_ (Or.inl (Or.inr ⟨_, there⟩)) ?_ ?_
      · intro b
        by_cases q : b = a
        · exact Or.inr ⟨_, _, if_pos q⟩
        · exact Or.inl (if_neg q)
      · intro b u z
        by_cases q : b = a
        · subst q
          rw [there] at z
          cases z
          exact ⟨ha, by rw [List.length_map]; exact hl, vs, _, rv, ha⟩
        · have z' := (if_neg q).symm.trans z
          cases z'
      · intro b z
        by_cases q : b = a
        · exact ⟨q, hk⟩
        · exact (z (if_neg q)).elim
  intro H hO hS hok hA
  have nA : ∀ {b : Addr}, (b = a → False) → H b = none := by
    intro b hb
    cases q : H b with
    | none => rfl
    | some u => exact (hb (hA b (by rw [q]; intro z; cases z)).1).elim
  have bs : ∀ {b : Addr} {o : Obj}, s₁.heap.get? b = some o → (∃ es ep, o.data = .dict es ep) → (hidT s₁.heap H).get? b = some o := by
    rintro b o e ⟨es, ep, d⟩
    refine hidT_get e (nA fun q => ?_)
    subst q
    rw [ha] at e
    cases e
    cases d
  have ns' : ∀ {b : Addr} {m : Str → Option Value}, s₁.heap.Ns b m → (hidT s₁.heap H).Ns b m := by
    rintro b m ⟨o, es, ep, e, d, r⟩
    exact ⟨o, es, ep, bs e ⟨es, ep, d⟩, d, r⟩
  have kin : K.In (hidT s₁.heap H) := by
    intro b o e
    refine hidT_get (KX b o e) ?_
    cases q : H b with
    | none => rfl
    | some u =>
      obtain ⟨q1, q2⟩ := hA b (by rw [q]; intro z; cases z)
      rw [q1, q2] at e
      cases e
  obtain ⟨mc, l1, l2⟩ := hlim
  have e0 : Env0 P w K mg (hidT s₁.heap H) callerA [] s₁ H :=
    ⟨rfl, ⟨kin, ns' hns, ⟨mb, ns' hb, hbb⟩, ⟨mc, ns' l1, l2⟩⟩, fun b o e => of_hidT e, by rw [hidT_size]; exact Nat.le_refl _, trivial, (fun b z => absurd z (List.not_mem_nil)), hok, .of_eq hg⟩
  refine codeAny_mono ((G _ kin (ns' hns)).run callerA [] s₁ H ⟨[.ref a], []⟩ [.ref a] [.ref a] _ _ rfl hr e0 (hbind s₁ [.ref a] KX rfl) (.cons rfl .nil) (hsp H hO hS)) ?_
  intro r s' z
  cases r with
  | error e => exact (hCX H e s' z).elim
  | ok fl => cases fl with
    | next => cases z
    | brk => cases z
    | cont => cases z
    | ret u =>
      obtain ⟨v, H', os, bare, un, hok', r', q⟩ := z
      have q' : v = .bl true := q
      subst q'
      obtain rfl : u = Value.bool true := r'
      refine ⟨rfl, OldK.of_keep fun b o e => ?_, os, bare⟩
      rcases hO b with n | ⟨ob', xs, n⟩
      · exact un.keep b o e n (fun z => absurd z (List.not_mem_nil)) (fun z => absurd z (List.not_mem_nil))
      · have e1 := (hok b _ n).1
        rw [e] at e1
        cases e1
        exact (hok' b _ (un.frzs b _ _ n)).1
theorem walk_g {l : PySem.W.OpenLaw} {n k : Nat} {q : Program} {loose : List Str} {XP : (Str → Option Value) → Heap → Prop} {YP : World → Heap → Prop} {d : DefRec} {K : Params → PySem.W.Frag} {CX : World → CXT} {sp : World → Sp} {x : Str}
    (hn : l.most = some n) (hn2 : n ≤ sizeLine) (hdf : d.params.defaults = []) (hr : Room k callerA) (hY : ∀ (w : World) (h : Heap), YP w h → (K w.params).In h)
    (F : ∀ (w : World) (mg : Str → Option Value) (fa : Addr) (h : Heap), (K w.params).In h → h.Ns mainGlobals mg → mg d.name = some (.ref fa) →
      (∀ (H : Hp) (a : Addr) (ns : List Int), ns.length ≤ n → Only H → SqL (K w.params) H a (ns.map V.int) → sp w [.ref a] H (fun v _ => v = .bl true) fun _ _ _ => False) ∧
      ∃ fd : FuncData, Binds (K w.params) fd [x] [] ∧
        ∀ base : Heap, (K w.params).In base → base.Ns mainGlobals mg → GOk l.prog w (K w.params) mg base (CX w) k fa fd [x] (sp w))
    (hCX : ∀ (w : World) (H : Hp) (s : Shared) (e : Value) (s' : Shared), CX w [] H s (fun _ _ _ => False) e s' → False) :
    PySem.W.WalkO q loose XP YP l.row.toRowW d [] (fun f vs => PySem.call f vs) := by
  refine Att.attach_call hn hdf ?_
  intro w s₀ s₁ mg mb fa o pm cd doc a vs ns G Y ho hd hcd hmg hobj hints hlen hg
  obtain ⟨hsp, fd, hb, hF⟩ := F w mg fa _ (hY w _ Y) G.T.g hmg
  exact law_run (hY w _ Y) G.T.g G.T.b G.T.builtins G.T.nolimit hg hobj hints (Nat.le_trans hlen hn2) hr hF hb (fun H hO hS => hsp H a ns hlen hO hS) fun H e s' => hCX w H s₁ e s'
end Fw

namespace Fw
open PySem L2 PySem.Spec PyProof.Rows

/-! ## mirrors -/
abbrev EM := Gm → Res (R × Gm)
abbrev TM := Gm → Res (Bool × Gm)
abbrev AM := Gm → Res (List D × Gm)
inductive Out where
  | nx (g : Gm)
  | rt (r : R) (g : Gm)
  | bk (g : Gm)
  | ct (g : Gm)
abbrev SM := Gm → Res Out
abbrev Fn := List SV → Res (R × List SV)

/-! ## judgements -/
def argOk (K : PySem.W.Frag) (F' H' : Hp) (od : Option Addr) : Option D → Prop
  | none => True
  | some d => ∃ p v f, od = some p ∧ H' p = some (.xd [(f, v)]) ∧ Rp K F' v d
def XP (K : PySem.W.Frag) (mg : Str → Option Value) (B : Bd) (F : Hp) (E : XK) (x : Ex) (g : Gm) : Prop :=
  ∀ σ Cv od F' H', Rel B K F' H' σ g → Sub F F' → mg x.cls = some Cv → argOk K F' H' od x.arg → E Cv od H'
theorem XP.mono {K : PySem.W.Frag} {mg : Str → Option Value} {B : Bd} {F F1 : Hp} {E : XK} {x : Ex} {g : Gm} (h : XP K mg B F E x g) (e : Sub F F1) : XP K mg B F1 E x g :=
  fun σ Cv od F' H' r s => h σ Cv od F' H' r (e.trans s)
abbrev XPx (X : Cx) (B : Bd) (F : Hp) (E : XK) : Ex → Gm → Prop := XP X.K X.mg B F E
def Den (X : Cx) (E : XK) (t : TE) (m : EM) : Prop := ∀ (B : Bd) (F H : Hp) (σ : L2.St) (Γ : Gm) (Q : VK), Rel B X.K F H σ Γ →
  (m Γ).good (fun p => ∀ v F' H', Rel B X.K F' H' σ p.2 → Sub F F' → RR B X.K F' H' σ p.2 v p.1 → Q v H') (XPx X B F E) → t σ H Q
def DE (X : Cx) (E : XK) (e : Expr) (m : EM) : Prop := ∃ t, PE X e t ∧ Den X E t m
def DenT (X : Cx) (E : XK) (t : TT) (m : TM) : Prop := ∀ (B : Bd) (F H : Hp) (σ : L2.St) (Γ : Gm) (Q : Bool → Hp → Prop), Rel B X.K F H σ Γ →
  (m Γ).good (fun p => ∀ F' H', Rel B X.K F' H' σ p.2 → Sub F F' → Q p.1 H') (XPx X B F E) → t σ H Q
def DT (X : Cx) (E : XK) (e : Expr) (m : TM) : Prop := ∃ t, PT X e t ∧ DenT X E t m
def DW (X : Cx) (E : XK) (e : Expr) (m : TM) : Prop := ∃ t, PW X e t ∧ DenT X E t m
def DenA (X : Cx) (E : XK) (n : Nat) (t : TA) (m : AM) : Prop := ∀ (B : Bd) (F H : Hp) (σ : L2.St) (Γ : Gm) (Q : List V → Hp → Prop), Rel B X.K F H σ Γ →
  (m Γ).good (fun p => ∀ vs F' H', Rel B X.K F' H' σ p.2 → Sub F F' → RpAll X.K F' vs p.1 → vs.length = n → Q vs H') (XPx X B F E) → t σ H Q
def DA (X : Cx) (E : XK) (es : List Expr) (m : AM) : Prop := ∃ t, PA X es t ∧ DenA X E es.length t m
def OutOk (B : Bd) (K : PySem.W.Frag) (F : Hp) (De : Ends) : Out → Prop
  | .nx g => ∀ σ' F' H', Rel B K F' H' σ' g → Sub F F' → De.nx σ' H'
  | .rt r g => ∀ v σ' F' H', Rel B K F' H' σ' g → Sub F F' → RR B K F' H' σ' g v r → De.rt v H'
  | .bk g => ∀ σ' F' H', Rel B K F' H' σ' g → Sub F F' → De.bk σ' H'
  | .ct g => ∀ σ' F' H', Rel B K F' H' σ' g → Sub F F' → De.ct σ' H'
def DenS (X : Cx) (E : XK) (t : TS) (m : SM) : Prop := ∀ (B : Bd) (F H : Hp) (σ : L2.St) (Γ : Gm) (De : Ends), Rel B X.K F H σ Γ →
  (m Γ).good (OutOk B X.K F De) (XPx X B F E) → t De σ H
def DS (X : Cx) (E : XK) (st : Stmt) (m : SM) : Prop := ∃ t, PS X st t ∧ DenS X E t m
def DSs (X : Cx) (E : XK) (st : List Stmt) (m : SM) : Prop := ∃ t, PSs X st t ∧ DenS X E t m

/-! ## operands -/
def opd {β : Type} (m : EM) (k : D → Gm → Res β) : Gm → Res β := fun Γ => (m Γ).bind fun p => k p.1.dat p.2
section
variable {X : Cx} {E : XK} {B : Bd} {F H : Hp} {σ : L2.St} {Γ : Gm}
theorem Den.opd {β : Type} {t : TE} {m : EM} {k : D → Gm → Res β} {kk : β → Prop} {Q : VK} (h : Den X E t m) (r : Rel B X.K F H σ Γ) (g : (opd m k Γ).good kk (XPx X B F E))
    (c : ∀ v d Γ1 F1 H1, Rel B X.K F1 H1 σ Γ1 → Sub F F1 → Rp X.K F1 v d → (k d Γ1).good kk (XPx X B F1 E) → Q v H1) : t σ H Q := by
  refine h B F H σ Γ Q r ?_
  unfold Fw.opd at g
  rw [Res.good_bind] at g
  refine g.mono ?_ fun _ _ z => z
  intro p hp v F' H' r' s' rr
  obtain ⟨F2, r2, s2, rp⟩ := rr.freeze r'
  exact c v _ _ _ _ r2 (s'.trans s2) rp (hp.mono (fun _ z => z) fun _ _ z => z.mono (s'.trans s2))
theorem Den.raw {β : Type} {t : TE} {m : EM} {k : R × Gm → Res β} {kk : β → Prop} {Q : VK} (h : Den X E t m) (r : Rel B X.K F H σ Γ) (g : ((m Γ).bind k).good kk (XPx X B F E))
    (c : ∀ v q Γ1 F1 H1, Rel B X.K F1 H1 σ Γ1 → Sub F F1 → RR B X.K F1 H1 σ Γ1 v q → (k (q, Γ1)).good kk (XPx X B F1 E) → Q v H1) : t σ H Q := by
  refine h B F H σ Γ Q r ?_
  rw [Res.good_bind] at g
  refine g.mono ?_ fun _ _ z => z
  intro p hp v F' H' r' s' rr
  exact c v _ _ _ _ r' s' rr (hp.mono (fun _ z => z) fun _ _ z => z.mono s')
theorem DenA.raw {β : Type} {t : TA} {m : AM} {k : List D × Gm → Res β} {kk : β → Prop} {Q : List V → Hp → Prop} {n : Nat} (h : DenA X E n t m) (r : Rel B X.K F H σ Γ) (g : ((m Γ).bind k).good kk (XPx X B F E))
    (c : ∀ vs ds Γ1 F1 H1, Rel B X.K F1 H1 σ Γ1 → Sub F F1 → RpAll X.K F1 vs ds → vs.length = n → (k (ds, Γ1)).good kk (XPx X B F1 E) → Q vs H1) : t σ H Q := by
  refine h B F H σ Γ Q r ?_
  rw [Res.good_bind] at g
  refine g.mono ?_ fun _ _ z => z
  intro p hp v F' H' r' s' rr hn
  exact c v _ _ _ _ r' s' rr hn (hp.mono (fun _ z => z) fun _ _ z => z.mono s')
theorem DenT.raw {β : Type} {t : TT} {m : TM} {k : Bool × Gm → Res β} {kk : β → Prop} {Q : Bool → Hp → Prop} (h : DenT X E t m) (r : Rel B X.K F H σ Γ) (g : ((m Γ).bind k).good kk (XPx X B F E))
    (c : ∀ b Γ1 F1 H1, Rel B X.K F1 H1 σ Γ1 → Sub F F1 → (k (b, Γ1)).good kk (XPx X B F1 E) → Q b H1) : t σ H Q := by
  refine h B F H σ Γ Q r ?_
  rw [Res.good_bind] at g
  refine g.mono ?_ fun _ _ z => z
  intro p hp F' H' r' s'
  exact c _ _ _ _ r' s' (hp.mono (fun _ z => z) fun _ _ z => z.mono s')
end

/-! ## names and constants -/
def eC (d : D) : EM := fun Γ => .ok (.fro d, Γ)
/-- a name whose list or dict is frozen by being read -/
def eVar (i : Nat) : EM := fun Γ => match Γ[i]? with
  | some (.d d) => .ok (.fro d, Γ)
  | some (.ow c) => .ok (.fro c.toD, Γ.set i (.d c.toD))
  | _ => .no
/-- a name that is given away -/
def eMove (i : Nat) : EM := fun Γ => match Γ[i]? with
  | some (.d d) => .ok (.fro d, Γ)
  | some (.ow c) => .ok (.own c, Γ.set i .no)
  | _ => .no
section
variable {X : Cx} {E : XK} {B : Bd} {K : PySem.W.Frag} {F H : Hp} {σ : L2.St} {Γ : Gm}
theorem Rel.at (r : Rel B K F H σ Γ) {i : Nat} {d : D} (e : Γ[i]? = some (.d d)) : ∃ v, σ[i]? = some (some v) ∧ Rp K F v d := by
  obtain ⟨v, h1, h2⟩ := r.sl i _ e
  have hi : i < σ.length := by rw [r.len]; exact (List.getElem?_eq_some_iff.mp e).1
  refine ⟨v, ?_, h2⟩
  rw [List.getD_eq_getElem?_getD, List.getElem?_eq_getElem hi] at h1
  rw [List.getElem?_eq_getElem hi]
  exact congrArg some h1
theorem Rel.take (r : Rel B K F H σ Γ) {i : Nat} {c : Cell} (e : Γ[i]? = some (.ow c)) : ∃ a, σ[i]? = some (some (.ref a)) ∧ Rel B K F H σ (Γ.set i .no) ∧ RR B K F H σ (Γ.set i .no) (.ref a) (.own c) := by
  obtain ⟨a, h1, h2⟩ := r.sl i _ e
  have hi : i < σ.length := by rw [r.len]; exact (List.getElem?_eq_some_iff.mp e).1
  have hs : σ[i]? = some (some (.ref a)) := by
    rw [List.getD_eq_getElem?_getD, List.getElem?_eq_getElem hi] at h1
    rw [List.getElem?_eq_getElem hi]
    exact congrArg some h1
  have ow : Owns σ Γ i a := ⟨⟨_, e, rfl⟩, hs⟩
  have w := r.weak (Weak.setNo Γ i)
  refine ⟨a, hs, w, a, rfl, (r.ofr i a ow).1, (r.ofr i a ow).2, ?_, h2⟩
  rintro j ⟨⟨sv, e1, o⟩, e2⟩
  by_cases hj : j = i
  · subst hj
    rw [List.getElem?_set_self (by rw [← r.len]; exact hi)] at e1
    cases e1
    cases o
  · rw [List.getElem?_set_ne (fun z => hj z.symm)] at e1
    exact hj (r.inj j i a ⟨⟨sv, e1, o⟩, e2⟩ ow)
theorem set_same {α : Type} {l : List α} {i : Nat} {x : α} (h : l[i]? = some x) : l.set i x = l := by
  obtain ⟨hi, e⟩ := List.getElem?_eq_some_iff.mp h
  subst e
  exact List.set_getElem_self hi
theorem Rel.put (r : Rel B K F H σ Γ) {i : Nat} {v : V} {q : R} (h : RR B K F H σ Γ v q) (hs : σ[i]? = some (some v)) : Rel B K F H σ (Γ.set i q.sv) := by
  have z := r.set (i := i) h
  rwa [set_same hs] at z
theorem Den.c {v : V} {d : D} (h : ∀ K F, Rp K F v d) : Den X E (tC v) (eC d) := fun B F H σ Γ Q r g => g v F H r (Sub.refl _) (h _ _)
theorem Den.var {i : Nat} : Den X E (tVar i) (eVar i) := by
  intro B F H σ Γ Q r g
  unfold eVar at g
  split at g
  · rename_i d e
    obtain ⟨v, h1, h2⟩ := r.at e
    exact ⟨v, h1, g v F H r (Sub.refl _) h2⟩
  · rename_i c e
    obtain ⟨a, h1, h2, h3⟩ := r.take e
    obtain ⟨F', r', s', rp⟩ := h3.freeze h2
    refine ⟨.ref a, h1, g _ F' H ?_ s' rp⟩
    have z := r'.put (q := .fro c.toD) rp h1
    rwa [List.set_set] at z
  · cases g
theorem Den.move {i : Nat} : Den X E (tVar i) (eMove i) := by
  intro B F H σ Γ Q r g
  unfold eMove at g
  split at g
  · rename_i d e
    obtain ⟨v, h1, h2⟩ := r.at e
    exact ⟨v, h1, g v F H r (Sub.refl _) h2⟩
  · rename_i c e
    obtain ⟨a, h1, h2, h3⟩ := r.take e
    exact ⟨.ref a, h1, g _ F H h2 (Sub.refl _) h3⟩
  · cases g
theorem de_var (i : Nat) {x : Str} {pos : Pos} (hN : X.N[i]? = some x := by rfl) (hv : Vis X.env.scope x := by first | exact Or.inl rfl | exact Or.inr (Or.inl rfl) | exact Or.inr (Or.inr rfl)) (hd : (x == ("__debug__" : Str)) = false := by decide)
    (hcd : (x == ("__classdict__" : Str)) = false := by decide) : DE X E (.Name x pos) (eVar i) := ⟨_, pe_var hN hv hd hcd, Den.var⟩
theorem de_move (i : Nat) {x : Str} {pos : Pos} (hN : X.N[i]? = some x := by rfl) (hv : Vis X.env.scope x := by first | exact Or.inl rfl | exact Or.inr (Or.inl rfl) | exact Or.inr (Or.inr rfl)) (hd : (x == ("__debug__" : Str)) = false := by decide)
    (hcd : (x == ("__classdict__" : Str)) = false := by decide) : DE X E (.Name x pos) (eMove i) := ⟨_, pe_var hN hv hd hcd, Den.move⟩
theorem de_int {i : Int} {j : Nat} {pos : Pos} : DE X E (.Constant (.int i) j pos) (eC (.int i)) := ⟨_, pe_int, .c fun _ _ => .int i⟩
theorem de_str {x : Str} {j : Nat} {pos : Pos} : DE X E (.Constant (.str x) j pos) (eC (.str x)) := ⟨_, pe_str, .c fun _ _ => .str x⟩
theorem de_bl {b : Bool} {j : Nat} {pos : Pos} : DE X E (.Constant (.bool b) j pos) (eC (.bool b)) := ⟨_, pe_bl, .c fun _ _ => .bl b⟩
theorem de_non {j : Nat} {pos : Pos} : DE X E (.Constant .none j pos) (eC .none) := ⟨_, pe_non, .c fun _ _ => .non⟩
/-- a number or a text of the module -/
theorem de_globI {x : Str} {i : Int} {t : Tok} {pos : Pos} (hm : X.mg x = some (.int i t)) (hg : Gl X x := by rfl) (hd : (x == ("__debug__" : Str)) = false := by decide) : DE X E (.Name x pos) (eC (.int i)) :=
  ⟨_, pe_glob (v := .int i) hg hm ⟨t, rfl⟩ hd, .c fun _ _ => .int i⟩
theorem de_globS {x : Str} {i : Str} {t : Tok} {pos : Pos} (hm : X.mg x = some (.str i t)) (hg : Gl X x := by rfl) (hd : (x == ("__debug__" : Str)) = false := by decide) : DE X E (.Name x pos) (eC (.str i)) :=
  ⟨_, pe_glob (v := .str i) hg hm ⟨t, rfl⟩ hd, .c fun _ _ => .str i⟩
end

/-! ## argument lists, displays -/
def aNil : AM := fun Γ => .ok ([], Γ)
def aCons (m : EM) (ms : AM) : AM := opd m fun d Γ => (ms Γ).bind fun p => .ok (d :: p.1, p.2)
abbrev lim : Nat := 16000000
theorem lim_le {n : Nat} (h : n ≤ lim) : n ≤ sizeLine := Nat.le_trans h (by decide)
def eTup (ms : AM) : EM := fun Γ => (ms Γ).bind fun p => .ok (.fro (.tuple p.1), p.2)
def eLst (ms : AM) : EM := fun Γ => (ms Γ).bind fun p => .ok (.own (.lst p.1), p.2)
section
variable {X : Cx} {E : XK}
theorem da_nil : DA X E [] aNil := ⟨_, pa_nil, fun B F H σ Γ Q r g => g [] F H r (Sub.refl _) .nil rfl⟩
theorem da_cons {e : Expr} {es : List Expr} {m : EM} {ms : AM} (he : DE X E e m) (hs : DA X E es ms) (hst : starEach (e :: es) X.env = (false, eval e X.env) :: starEach es X.env := by rfl) : DA X E (e :: es) (aCons m ms) := by
  obtain ⟨t, p, h⟩ := he
  obtain ⟨ts, ps, hs⟩ := hs
  refine ⟨_, pa_cons p ps hst, ?_⟩
  intro B F H σ Γ Q r g
  refine h.opd r g ?_
  intro v d Γ1 F1 H1 r1 s1 rp g1
  refine hs.raw r1 g1 ?_
  intro vs ds Γ2 F2 H2 r2 s2 rps hn g2
  exact g2 _ F2 H2 r2 (s1.trans s2) (.cons (rp.mono s2) rps) (by rw [List.length_cons, hn, List.length_cons])
theorem mono_sub {B : Bd} {K : PySem.W.Frag} {F F1 : Hp} {De : Ends} {o : Out} (h : OutOk B K F De o) (s : Sub F F1) : OutOk B K F1 De o := by
  cases o with
  | nx g => exact fun σ' F' H' r s' => h σ' F' H' r (s.trans s')
  | rt q g => exact fun v σ' F' H' r s' => h v σ' F' H' r (s.trans s')
  | bk g => exact fun σ' F' H' r s' => h σ' F' H' r (s.trans s')
  | ct g => exact fun σ' F' H' r s' => h σ' F' H' r (s.trans s')

theorem de_tup {es : List Expr} {ms : AM} {x1} {pos : Pos} (hs : DA X E es ms) (hn : es.length ≤ 1000 := by decide) : DE X E (.Tuple es x1 pos) (eTup ms) := by
  obtain ⟨t, p, h⟩ := hs
  refine ⟨_, pe_tup p, ?_⟩
  intro B F H σ Γ Q r g
  refine h.raw r g ?_
  intro vs ds Γ1 F1 H1 r1 s1 rps hl g1
  refine ⟨by rw [hl]; exact Nat.le_trans hn (by decide), fun q hq => ?_⟩
  have gr := Grow.laid (o := .tup vs) r1.fh hq
  exact g1 _ _ _ (r1.grow gr) (s1.trans gr.ff) (.tup (SqT.of upd_same) (rps.mono gr.ff))
theorem de_lst {es : List Expr} {ms : AM} {pos : Pos} (hs : DA X E es ms) (hn : es.length ≤ 1000 := by decide) : DE X E (.List es pos) (eLst ms) := by
  obtain ⟨t, p, h⟩ := hs
  refine ⟨_, pe_lst p, ?_⟩
  intro B F H σ Γ Q r g
  refine h.raw r g ?_
  intro vs ds Γ1 F1 H1 r1 s1 rps hl g1
  refine ⟨by rw [hl]; exact Nat.le_trans hn (by decide), fun q hq => ?_⟩
  have gr := Grow.new (o := .lst vs) r1.fh hq
  exact g1 _ _ _ (r1.grow gr) s1 (NR.rr r1 (q := .own (.lst ds)) ⟨q, rfl, hq, r1.fh.ne hq, vs, upd_same, rps⟩)
end

/-! ## operations on data -/
/-- what a step by values does with represented data -/
def rD (K : PySem.W.Frag) (f : List D → Res R) : List V → Hp → VK → Prop := fun vs H Q => ∃ F ds, Sub F H ∧ RpAll K F vs ds ∧
  (f ds).good (fun q => ∀ z F' H', Grow F H F' H' → NR K F' H H' z q → Q z H') (fun _ _ => False)
def two (f : D → D → Res R) : List D → Res R
  | [a, b] => f a b
  | _ => .no
def one (f : D → Res R) : List D → Res R
  | [a] => f a
  | _ => .no
def rD2 (K : PySem.W.Frag) (f : D → D → Res R) : R2 := fun x y => rD K (two f) [x, y]
def rDM (K : PySem.W.Frag) (f : List D → Res R) : V → List V → Hp → VK → Prop := fun x xs => rD K f (x :: xs)
def lift (r : Res R) (Γ : Gm) : Res (R × Gm) := match r with
  | .ok q => .ok (q, Γ)
  | _ => .no
@[simp] theorem lift_ok (q : R) (Γ : Gm) : lift (.ok q) Γ = .ok (q, Γ) := rfl
@[simp] theorem lift_no (Γ : Gm) : lift .no Γ = .no := rfl
def eBin (f : D → D → Res R) (ma mb : EM) : EM := opd ma fun x => opd mb fun y Γ => lift (f x y) Γ
def eUn (f : D → Res R) (ma : EM) : EM := opd ma fun x Γ => lift (f x) Γ
def eCall (f : List D → Res R) (ms : AM) : EM := fun Γ => (ms Γ).bind fun p => lift (f p.1) p.2
def eMeth (f : List D → Res R) (m : EM) (ms : AM) : EM := opd m fun x Γ => (ms Γ).bind fun p => lift (f (x :: p.1)) p.2
section
variable {X : Cx} {E : XK} {B : Bd} {F H : Hp} {σ : L2.St} {Γ : Gm}
theorem lift_good {K : PySem.W.Frag} {mg : Str → Option Value} {F F1 H1 : Hp} {q : Res R} {Q : VK} {kx : Ex → Gm → Prop} (r1 : Rel B K F1 H1 σ Γ) (s : Sub F F1)
    (g : (lift q Γ).good (fun p => ∀ v F' H', Rel B K F' H' σ p.2 → Sub F F' → RR B K F' H' σ p.2 v p.1 → Q v H') kx) :
    q.good (fun q => ∀ z F' H', Grow F1 H1 F' H' → NR K F' H1 H' z q → Q z H') (fun _ _ => False) := by
  cases q with
  | ok q => exact fun z F' H' gr nr => g z F' H' (r1.grow gr) (s.trans gr.ff) (nr.rr r1)
  | er x g' => exact g
  | no => exact g
theorem de_bin {op : Operator} {f : D → D → Res R} {a b : Expr} {ma mb : EM} {pos : Pos} (ho : OpR X (binaryOp op) (rD2 X.K f)) (ha : DE X E a ma) (hb : DE X E b mb) : DE X E (.BinOp a op b pos) (eBin f ma mb) := by
  obtain ⟨ta, pa, ha⟩ := ha
  obtain ⟨tb, pb, hb⟩ := hb
  refine ⟨_, pe_op ho pa pb, ?_⟩
  intro B F H σ Γ Q r g
  refine ha.opd r g ?_
  intro v d Γ1 F1 H1 r1 s1 rp g1
  refine hb.opd r1 g1 ?_
  intro w e Γ2 F2 H2 r2 s2 rq g2
  exact ⟨F2, [d, e], r2.fh, .cons (rp.mono s2) (.cons rq .nil), lift_good (mg := X.mg) r2 (s1.trans s2) g2⟩
theorem de_cmp {op : CmpOp} {f : D → D → Res R} {a b : Expr} {ma mb : EM} {pos : Pos} (ho : OpR X (compareOp op) (rD2 X.K f)) (ha : DE X E a ma) (hb : DE X E b mb) (hm : behindInMarks op b = false := by first | exact nomark _ | rfl) :
    DE X E (.Compare a [op] [b] pos) (eBin f ma mb) := by
  obtain ⟨ta, pa, ha⟩ := ha
  obtain ⟨tb, pb, hb⟩ := hb
  refine ⟨_, pe_cmpR ho pa pb hm, ?_⟩
  intro B F H σ Γ Q r g
  refine ha.opd r g ?_
  intro v d Γ1 F1 H1 r1 s1 rp g1
  refine hb.opd r1 g1 ?_
  intro w e Γ2 F2 H2 r2 s2 rq g2
  exact ⟨F2, [d, e], r2.fh, .cons (rp.mono s2) (.cons rq .nil), lift_good (mg := X.mg) r2 (s1.trans s2) g2⟩
theorem de_un {op : UnaryOp} {f : D → Res R} {a : Expr} {ma : EM} {pos : Pos} (ho : UnR X (unaryOp op) (fun x => rD X.K (one f) [x])) (ha : DE X E a ma) : DE X E (.UnaryOp op a pos) (eUn f ma) := by
  obtain ⟨ta, pa, ha⟩ := ha
  refine ⟨_, pe_un ho pa, ?_⟩
  intro B F H σ Γ Q r g
  refine ha.opd r g ?_
  intro v d Γ1 F1 H1 r1 s1 rp g1
  exact ⟨F1, [d], r1.fh, .cons rp .nil, lift_good (mg := X.mg) r1 s1 g1⟩
theorem de_ix {f : D → D → Res R} {a b : Expr} {ma mb : EM} {pos : Pos} (ho : IxR X (rD2 X.K f)) (ha : DE X E a ma) (hb : DE X E b mb) (hs : PlainIx b := by exact fun _ _ => rfl) : DE X E (.Subscript a b pos) (eBin f ma mb) := by
  obtain ⟨ta, pa, ha⟩ := ha
  obtain ⟨tb, pb, hb⟩ := hb
  refine ⟨_, pe_ix ho pa pb hs, ?_⟩
  intro B F H σ Γ Q r g
  refine ha.opd r g ?_
  intro v d Γ1 F1 H1 r1 s1 rp g1
  refine hb.opd r1 g1 ?_
  intro w e Γ2 F2 H2 r2 s2 rq g2
  exact ⟨F2, [d, e], r2.fh, .cons (rp.mono s2) (.cons rq .nil), lift_good (mg := X.mg) r2 (s1.trans s2) g2⟩
theorem Den.call {t : TA} {n : Nat} {f : List D → Res R} {ms : AM} (h : DenA X E n t ms) : Den X E (tCB (rD X.K f) t) (eCall f ms) := by
  intro B F H σ Γ Q r g
  refine h.raw r g ?_
  intro vs ds Γ1 F1 H1 r1 s1 rps hl g1
  exact ⟨F1, ds, r1.fh, rps, lift_good (mg := X.mg) r1 s1 g1⟩
theorem de_callB {id : String} {f : List D → Res R} {x : Str} {e : Expr} {es : List Expr} {ms : AM} {p pos : Pos} (hc : CallR X (.builtin id) (rD X.K f)) (ha : DA X E (e :: es) ms) (hm : X.mg x = none) (hv : bootBuiltins x = some (.builtin id))
    (hg : Gl X x := by rfl) (hn : x ≠ "__name__" := by decide) (hdb : (x == ("__debug__" : Str)) = false := by decide) (he : starEach (e :: es) X.env = (false, eval e X.env) :: starEach es X.env := by rfl)
    (hpl : (backTo pos (starEach es X.env)).any (·.1) = false := by rfl) : DE X E (.Call (.Name x p) (e :: es) [] pos) (eCall f ms) := by
  obtain ⟨t, pa, h⟩ := ha
  exact ⟨_, pe_callB hc hg hm hv pa hn hdb he hpl, Den.call h⟩
theorem de_callTy {T : String} {f : List D → Res R} {x : Str} {e : Expr} {es : List Expr} {ms : AM} {p pos : Pos} (hc : CallR X (.type T) (rD X.K f)) (ha : DA X E (e :: es) ms) (hm : X.mg x = none) (hv : bootBuiltins x = some (.type T))
    (hg : Gl X x := by rfl) (hn : x ≠ "__name__" := by decide) (hdb : (x == ("__debug__" : Str)) = false := by decide) (he : starEach (e :: es) X.env = (false, eval e X.env) :: starEach es X.env := by rfl)
    (hpl : (backTo pos (starEach es X.env)).any (·.1) = false := by rfl) : DE X E (.Call (.Name x p) (e :: es) [] pos) (eCall f ms) := by
  obtain ⟨t, pa, h⟩ := ha
  exact ⟨_, pe_callTy hc hg hm hv pa hn hdb he hpl, Den.call h⟩
end
end Fw

namespace Fw
open PySem L2 PySem.Spec PyProof.Rows

/-! ## operations on data: what they tell -/
def fr (d : D) : Res R := .ok (.fro d)
@[simp] theorem fr_eq (d : D) : fr d = .ok (.fro d) := rfl
def dAdd : D → D → Res R
  | .int i, .int j => fr (.int (i + j))
  | .str x, .str y => if x.length + y.length ≤ lim then fr (.str (x ++ y)) else .no
  | .tuple xs, .tuple ys => if xs.length + ys.length ≤ lim then fr (.tuple (xs ++ ys)) else .no
  | .list xs, .list ys => if xs.length + ys.length ≤ lim then .ok (.own (.lst (xs ++ ys))) else .no
  | _, _ => .no
def dSub : D → D → Res R
  | .int i, .int j => fr (.int (i - j))
  | _, _ => .no
def dMul : D → D → Res R
  | .int i, .int j => if (-(2 ^ 64) < i ∧ i < 2 ^ 64) ∨ (-(2 ^ 64) < j ∧ j < 2 ^ 64) then fr (.int (i * j)) else .no
  | _, _ => .no
def dDiv : D → D → Res R
  | .int i, .int j => if 0 < j ∧ j.natAbs.log2 < 9000 then fr (.int (i / j)) else .no
  | _, _ => .no
def dMod : D → D → Res R
  | .int i, .int j => if 0 < j then fr (.int (i % j)) else .no
  | _, _ => .no
def dPow : D → D → Res R
  | .int i, .int j => if 0 ≤ j ∧ j ≤ 1000000 ∧ i.natAbs < 2 ^ 64 then fr (.int (i ^ j.toNat)) else .no
  | _, _ => .no
def dShr : D → D → Res R
  | .int i, .int j => if 0 ≤ j then fr (.int (i / 2 ^ j.toNat)) else .no
  | _, _ => .no
def dNeg : D → Res R
  | .int i => fr (.int (-i))
  | _ => .no
def dEqB : D → D → Option Bool
  | .int i, .int j => some (decide (i = j))
  | .str x, .str y => some (decide (x = y))
  | d, e => if d.plain = true ∧ e.plain = true ∧ d.depth ≤ 60 then some (PyData.eqv d e) else none
def dEq (d e : D) : Res R := match dEqB d e with
  | some b => fr (.bool b)
  | none => .no
def dNe (d e : D) : Res R := match dEqB d e with
  | some b => fr (.bool !b)
  | none => .no
def dLt : D → D → Res R
  | .int i, .int j => fr (.bool (decide (i < j)))
  | _, _ => .no
def dLe : D → D → Res R
  | .int i, .int j => fr (.bool (decide (i ≤ j)))
  | _, _ => .no
def dGt : D → D → Res R
  | .int i, .int j => fr (.bool (decide (j < i)))
  | _, _ => .no
def dGe : D → D → Res R
  | .int i, .int j => fr (.bool (decide (j ≤ i)))
  | _, _ => .no
def isNone : D → Bool
  | .none => true
  | _ => false
def dIsN (d : D) : Res R := fr (.bool (isNone d))
def dNotN (d : D) : Res R := fr (.bool !(isNone d))
def dIx : D → D → Res R
  | .list xs, .int i => match atI xs i with
    | some d => fr d
    | none => .no
  | .tuple xs, .int i => match atI xs i with
    | some d => fr d
    | none => .no
  | .str z, .int i => if z.length ≤ lim then (match atI z.cps.toList i with
    | some c => fr (.str ⟨#[c]⟩)
    | none => .no) else .no
  | _, _ => .no
def isT : String → D → Option Bool
  | "int", d => some d.isInt
  | "bool", d => some d.isBool
  | "str", d => some d.isStr
  | "tuple", d => some d.isTuple
  | "list", d => some d.isList
  | "dict", d => some d.isDict
  | _, _ => none
def dIsi (T : String) (d : D) : Res R := match isT T d with
  | some b => fr (.bool b)
  | none => .no
def dLen : D → Res R
  | .str z => if z.length ≤ lim then fr (.int z.length) else .no
  | .list xs => fr (.int xs.length)
  | .tuple xs => fr (.int xs.length)
  | _ => .no
def dMin : D → D → Res R
  | .int i, .int j => fr (.int (if j < i then j else i))
  | _, _ => .no
def dMax : D → D → Res R
  | .int i, .int j => fr (.int (if j > i then j else i))
  | _, _ => .no
def dStr : D → Res R
  | .int i => if i.natAbs.log2 < 1920 then fr (.str (toString i)) else .no
  | .str z => fr (.str z)
  | _ => .no
def dTuple : D → Res R
  | .list xs => fr (.tuple xs)
  | .tuple xs => fr (.tuple xs)
  | _ => .no
def dList : D → Res R
  | .list xs => .ok (.own (.lst xs))
  | .tuple xs => .ok (.own (.lst xs))
  | _ => .no
def strsOf : List D → Option (List Str)
  | [] => some []
  | .str x :: r => (strsOf r).map (x :: ·)
  | _ => none
def dJoinL (z : Str) (xs : List D) : Res R := match strsOf xs with
  | some ys => if (ys.map (·.length)).sum + ys.length * z.length ≤ lim then fr (.str (Txt.join z ys)) else .no
  | none => .no
def dJoin : D → D → Res R
  | .str z, .list xs => dJoinL z xs
  | .str z, .tuple xs => dJoinL z xs
  | _, _ => .no
def dRepr (d : D) : Res R := if d.showable = true ∧ d.hasDict = false ∧ d.depth ≤ 60 ∧ d.shown.length ≤ lim then fr (.str d.shown) else .no
def allB : List D → Option (List Bool)
  | [] => some []
  | .bool b :: r => (allB r).map (b :: ·)
  | _ => none
def dAll : D → Res R
  | .list xs => match allB xs with
    | some bs => fr (.bool (bs.all id))
    | none => .no
  | _ => .no
def dAny : D → Res R
  | .list xs => match allB xs with
    | some bs => fr (.bool (bs.any id))
    | none => .no
  | _ => .no
def intsOf : List D → Option (List Int)
  | [] => some []
  | .int b :: r => (intsOf r).map (b :: ·)
  | _ => none
def dSum : D → Res R
  | .list xs => match intsOf xs with
    | some bs => fr (.int bs.sum)
    | none => .no
  | _ => .no

/-! ## the facts -/
section
variable {K : PySem.W.Frag} {F H : Hp}
theorem Rp.intv {v : V} {i : Int} (h : Rp K F v (.int i)) : v = .int i := by cases h; rfl
theorem Rp.strv {v : V} {i : Str} (h : Rp K F v (.str i)) : v = .str i := by cases h; rfl
theorem Rp.blv {v : V} {i : Bool} (h : Rp K F v (.bool i)) : v = .bl i := by cases h; rfl
theorem Rp.lstv {v : V} {ds : List D} (h : Rp K F v (.list ds)) : ∃ a xs, v = .ref a ∧ SqL K F a xs ∧ RpAll K F xs ds := by cases h with | lst h r => exact ⟨_, _, rfl, h, r⟩
theorem Rp.tupv {v : V} {ds : List D} (h : Rp K F v (.tuple ds)) : ∃ a xs, v = .ref a ∧ SqT K F a xs ∧ RpAll K F xs ds := by cases h with | tup h r => exact ⟨_, _, rfl, h, r⟩
theorem rpStrs {vs : List V} : ∀ {ds : List D} {ys : List Str}, RpAll K F vs ds → strsOf ds = some ys → vs = ys.map V.str := by
  intro ds
  induction ds generalizing vs with
  | nil => intro ys h e; cases h; cases e; rfl
  | cons d ds ih =>
    intro ys h e
    cases h with
    | cons h t =>
      cases d with
      | str x =>
        simp only [strsOf, Option.map_eq_some_iff] at e
        obtain ⟨zs, e1, e2⟩ := e
        subst e2
        rw [h.strv, ih t e1]
        rfl
      | _ => simp [strsOf] at e
theorem rpBools {vs : List V} : ∀ {ds : List D} {ys : List Bool}, RpAll K F vs ds → allB ds = some ys → vs = ys.map V.bl := by
  intro ds
  induction ds generalizing vs with
  | nil => intro ys h e; cases h; cases e; rfl
  | cons d ds ih =>
    intro ys h e
    cases h with
    | cons h t =>
      cases d with
      | bool x =>
        simp only [allB, Option.map_eq_some_iff] at e
        obtain ⟨zs, e1, e2⟩ := e
        subst e2
        rw [h.blv, ih t e1]
        rfl
      | _ => simp [allB] at e
theorem rpInts {vs : List V} : ∀ {ds : List D} {ys : List Int}, RpAll K F vs ds → intsOf ds = some ys → vs = ys.map V.int := by
  intro ds
  induction ds generalizing vs with
  | nil => intro ys h e; cases h; cases e; rfl
  | cons d ds ih =>
    intro ys h e
    cases h with
    | cons h t =>
      cases d with
      | int x =>
        simp only [intsOf, Option.map_eq_some_iff] at e
        obtain ⟨zs, e1, e2⟩ := e
        subst e2
        rw [h.intv, ih t e1]
        rfl
      | _ => simp [intsOf] at e
theorem atI_rp {vs : List V} {ds : List D} {i : Int} {d : D} (h : RpAll K F vs ds) (e : atI ds i = some d) : ∃ v, atI vs i = some v ∧ Rp K F v d := by
  unfold atI at e ⊢
  rw [h.length]
  cases q : ixN ds.length i with
  | none => rw [q] at e; cases e
  | some j =>
    rw [q] at e
    exact h.get (show ds[j]? = some d from e)
/-- a value comes, nothing is made -/
theorem still {vs : List V} {v : V} {d : D} {Q : VK} (s : Sub F H) (h : Rp K F v d) (g : ∀ z F' H', Grow F H F' H' → NR K F' H H' z (.fro d) → Q z H') : Q v H := g v F H (Grow.refl s) h
theorem newTup {p : Addr} {xs : List V} {ds : List D} {Q : VK} (s : Sub F H) (hp : H p = none) (h : RpAll K F xs ds) (g : ∀ z F' H', Grow F H F' H' → NR K F' H H' z (.fro (.tuple ds)) → Q z H') : Q (.ref p) (upd H p (.tup xs)) := by
  have gr := Grow.laid (o := .tup xs) s hp
  exact g _ _ _ gr (Rp.tup (SqT.of upd_same) (h.mono gr.ff))
theorem newLst {p : Addr} {xs : List V} {ds : List D} {Q : VK} (s : Sub F H) (hp : H p = none) (h : RpAll K F xs ds) (g : ∀ z F' H', Grow F H F' H' → NR K F' H H' z (.own (.lst ds)) → Q z H') : Q (.ref p) (upd H p (.lst xs)) :=
  g _ _ _ (Grow.new s hp) ⟨p, rfl, hp, s.ne hp, xs, upd_same, h⟩
end
section
variable {X : Cx}
theorem op2_of {f : Value → Value → Sem Value} {r : R2} {g : D → D → Res R} (h : OpR X f r) (k : ∀ (F H : Hp) (x y : V) (d e : D) (Q : VK), Sub F H → Rp X.K F x d → Rp X.K F y e →
    (g d e).good (fun q => ∀ z F' H', Grow F H F' H' → NR X.K F' H H' z q → Q z H') (fun _ _ => False) → r x y H Q) : OpR X f (rD2 X.K g) := by
  intro pins s σ H x y v u Q I rx ry ⟨F, ds, sb, rp, hg⟩
  cases rp with
  | cons r1 t =>
    cases t with
    | cons r2 t =>
      cases t
      exact h pins s σ H x y v u Q I rx ry (k F H x y _ _ Q sb r1 r2 hg)
theorem addI : OpR X (binaryOp .Add) (rD2 X.K fun | .int i, .int j => fr (.int (i + j)) | _, _ => .no) := op2_of op_add fun F H x y d e Q s r1 r2 g => by
  split at g
  · rw [r1.intv, r2.intv]
    exact ⟨_, _, rfl, rfl, g _ _ _ (.refl s) (.int _)⟩
  · cases g
theorem lstCat : OpR X (binaryOp .Add) (fun x y H Q => ∃ l b xs zs, x = .ref l ∧ y = .ref b ∧ SqL X.K H l xs ∧ SqL X.K H b zs ∧ xs.length + zs.length ≤ sizeLine ∧ ∀ p, H p = none → Q (.ref p) (upd H p (.lst (xs ++ zs)))) := by
  intro pins s σ H x y v u Q I rx ry ⟨l, b, xs, zs, ex, ey, hx, hy, hz, q⟩
  subst ex ey
  cases rx
  cases ry
  obtain ⟨its, r, ⟨⟨cls, dd, data, sl⟩, n, ho, hc, _, hd⟩, _⟩ := I.list hx
  obtain ⟨its2, r2, ⟨⟨cls2, dd2, data2, sl2⟩, n2, ho2, hc2, _, hd2⟩, _⟩ := I.list hy
  simp only at hc hd hc2 hd2
  subst hc hd hc2 hd2
  have l1 := r.length
  have l2 := r2.length
  refine concat_meets ⟨_, ho, rfl⟩ ⟨_, ho2, rfl⟩ noFill_list_add seq_list_add PySem.F.slot_list_add PySem.F.entry_list_add (PySem.F.args_list_add_2 _ _) (list_addW l b its.toArray its2.toArray n n2 dd dd2 sl sl2 (by rw [List.size_toArray, List.size_toArray, ← l1, ← l2]; exact hz)) ⟨ho, ho2, ?_⟩
  rw [show its.toArray ++ its2.toArray = (its ++ its2).toArray by simp]
  exact ⟨.ref _, _, I.lnew (t' := s.toks) (r.append r2) (by rw [List.length_append]; exact hz), rfl, q _ I.fresh⟩
theorem op_addD : OpR X (binaryOp .Add) (rD2 X.K dAdd) := by
  refine op2_of (op_add.or (op_add_str.or (op_catA.or lstCat))) fun F H x y d e Q s r1 r2 g => ?_
  unfold dAdd at g
  split at g
  · rw [r1.intv, r2.intv]
    exact .inl ⟨_, _, rfl, rfl, g _ _ _ (.refl s) (.int _)⟩
  · split at g
    · rename_i hl
      rw [r1.strv, r2.strv]
      exact .inr (.inl ⟨_, _, rfl, rfl, lim_le hl, g _ _ _ (.refl s) (.str _)⟩)
    · cases g
  · split at g
    · rename_i hl
      obtain ⟨a, xs, e1, h1, p1⟩ := r1.tupv
      obtain ⟨b, ys, e2, h2, p2⟩ := r2.tupv
      subst e1 e2
      refine .inr (.inr (.inl ⟨a, b, xs, ys, rfl, rfl, s.t h1, s.t h2, ?_, ?_, ?_, ?_⟩))
      · rw [p1.length, p2.length]; exact lim_le hl
      · intro z
        subst z
        cases p1
        exact g _ _ _ (.refl s) (.tup h2 p2)
      · intro _ z
        subst z
        cases p2
        rw [List.append_nil] at g
        exact g _ _ _ (.refl s) (.tup h1 p1)
      · intro _ _ p hp
        exact newTup s hp (p1.append p2) g
    · cases g
  · split at g
    · rename_i hl
      obtain ⟨a, xs, e1, h1, p1⟩ := r1.lstv
      obtain ⟨b, ys, e2, h2, p2⟩ := r2.lstv
      subst e1 e2
      refine .inr (.inr (.inr ⟨a, b, xs, ys, rfl, rfl, s.l h1, s.l h2, ?_, fun p hp => newLst s hp (p1.append p2) g⟩))
      rw [p1.length, p2.length]; exact lim_le hl
    · cases g
  · cases g
theorem op_subD : OpR X (binaryOp .Sub) (rD2 X.K dSub) := op2_of op_sub fun F H x y d e Q s r1 r2 g => by
  unfold dSub at g
  split at g
  · rw [r1.intv, r2.intv]
    exact ⟨_, _, rfl, rfl, g _ _ _ (.refl s) (.int _)⟩
  · cases g
theorem op_mulD : OpR X (binaryOp .Mult) (rD2 X.K dMul) := op2_of op_mul fun F H x y d e Q s r1 r2 g => by
  unfold dMul at g
  split at g
  · split at g
    · rename_i hc
      rw [r1.intv, r2.intv]
      exact ⟨_, _, rfl, rfl, hc, g _ _ _ (.refl s) (.int _)⟩
    · cases g
  · cases g
theorem op_divD : OpR X (binaryOp .FloorDiv) (rD2 X.K dDiv) := op2_of op_fdivW fun F H x y d e Q s r1 r2 g => by
  unfold dDiv at g
  split at g
  · split at g
    · rename_i hc
      rw [r1.intv, r2.intv]
      exact ⟨_, _, rfl, rfl, hc, g _ _ _ (.refl s) (.int _)⟩
    · cases g
  · cases g
theorem op_modD : OpR X (binaryOp .Mod) (rD2 X.K dMod) := op2_of op_mod fun F H x y d e Q s r1 r2 g => by
  unfold dMod at g
  split at g
  · split at g
    · rename_i hc
      rw [r1.intv, r2.intv]
      exact ⟨_, _, rfl, rfl, hc, g _ _ _ (.refl s) (.int _)⟩
    · cases g
  · cases g
theorem op_powD : OpR X (binaryOp .Pow) (rD2 X.K dPow) := op2_of op_pow fun F H x y d e Q s r1 r2 g => by
  unfold dPow at g
  split at g
  · split at g
    · rename_i hc
      rw [r1.intv, r2.intv]
      exact ⟨_, _, rfl, rfl, hc, g _ _ _ (.refl s) (.int _)⟩
    · cases g
  · cases g
theorem op_shrD : OpR X (binaryOp .RShift) (rD2 X.K dShr) := op2_of op_shr fun F H x y d e Q s r1 r2 g => by
  unfold dShr at g
  split at g
  · split at g
    · rename_i hc
      rw [r1.intv, r2.intv]
      exact ⟨_, _, rfl, rfl, hc, g _ _ _ (.refl s) (.int _)⟩
    · cases g
  · cases g
theorem op_ltD : OpR X (compareOp .Lt) (rD2 X.K dLt) := op2_of op_lt fun F H x y d e Q s r1 r2 g => by
  unfold dLt at g
  split at g
  · rw [r1.intv, r2.intv]
    exact ⟨_, _, rfl, rfl, g _ _ _ (.refl s) (.bl _)⟩
  · cases g
theorem op_leD : OpR X (compareOp .LtE) (rD2 X.K dLe) := op2_of op_le fun F H x y d e Q s r1 r2 g => by
  unfold dLe at g
  split at g
  · rw [r1.intv, r2.intv]
    exact ⟨_, _, rfl, rfl, g _ _ _ (.refl s) (.bl _)⟩
  · cases g
theorem op_gtD : OpR X (compareOp .Gt) (rD2 X.K dGt) := op2_of op_gt fun F H x y d e Q s r1 r2 g => by
  unfold dGt at g
  split at g
  · rw [r1.intv, r2.intv]
    exact ⟨_, _, rfl, rfl, g _ _ _ (.refl s) (.bl _)⟩
  · cases g
theorem op_geD : OpR X (compareOp .GtE) (rD2 X.K dGe) := op2_of op_ge fun F H x y d e Q s r1 r2 g => by
  unfold dGe at g
  split at g
  · rw [r1.intv, r2.intv]
    exact ⟨_, _, rfl, rfl, g _ _ _ (.refl s) (.bl _)⟩
  · cases g
/-- both sides read as data -/
theorem op2_reads {f : Value → Value → Sem Value} {g : D → D → Res R} (k : ∀ (pins : List (Addr × Obj)) (s : Shared) (σ : L2.St) (F H : Hp) (v u : Value) (d e : D) (as bs : List Addr) (Q : VK), Inv X pins σ H s → Sub F H → Reads s.heap v d as → Reads s.heap u e bs →
    (g d e).good (fun q => ∀ z F' H', Grow F H F' H' → NR X.K F' H H' z q → Q z H') (fun _ _ => False) → wpAny (model X.prog X.w) X.A (f v u) (EP X pins σ Q) X.xe s) : OpR X f (rD2 X.K g) := by
  intro pins s σ H x y v u Q I rx ry ⟨F, ds, sb, rp, hg⟩
  cases rp with
  | cons r1 t =>
    cases t with
    | cons r2 t =>
      cases t
      obtain ⟨as, q1⟩ := (r1.mono sb).reads I v rx
      obtain ⟨bs, q2⟩ := (r2.mono sb).reads I u ry
      exact k pins s σ F H v u _ _ as bs Q I sb q1 q2 hg
theorem dEqB_some {d e : D} {b : Bool} (h : dEqB d e = some b) : d.plain = true ∧ e.plain = true ∧ d.depth ≤ 60 ∧ PyData.eqv d e = b := by
  unfold dEqB at h
  split at h
  · cases h
    exact ⟨rfl, rfl, by simp [PyData.depth], by simp [PyData.eqv, Bool.beq_eq_decide_eq]⟩
  · cases h
    exact ⟨rfl, rfl, by simp [PyData.depth], by simp [PyData.eqv, Bool.beq_eq_decide_eq]⟩
  · split at h
    · rename_i hc
      cases h
      exact ⟨hc.1, hc.2.1, hc.2.2, rfl⟩
    · cases h
theorem room_min {A : Around} {k a b : Nat} (hr : Room k A) (h : a ≤ 60) : A.units + 1 + min b a < cLine := by
  have := hr.un
  omega
theorem op_eqDD {k : Nat} (hr : Room k X.A) : OpR X (compareOp .Eq) (rD2 X.K dEq) := op2_reads fun pins s σ F H v u d e as bs Q I sb q1 q2 g => by
  unfold dEq at g
  split at g
  · rename_i b hb
    obtain ⟨h1, h2, h3, h4⟩ := dEqB_some hb
    refine SeqAt.eq_plain q1 q2 h1 h2 (by have := hr.un; omega) ?_
    rw [h4]
    exact ⟨.bl b, H, I, rfl, g _ _ _ (.refl sb) (.bl _)⟩
  · cases g
theorem op_neDD {k : Nat} (hr : Room k X.A) : OpR X (compareOp .NotEq) (rD2 X.K dNe) := op2_reads fun pins s σ F H v u d e as bs Q I sb q1 q2 g => by
  unfold dNe at g
  split at g
  · rename_i b hb
    obtain ⟨h1, h2, h3, h4⟩ := dEqB_some hb
    refine SeqAt.ne_plain q1 q2 h1 h2 (by have := hr.un; omega) ?_
    rw [h4]
    exact ⟨.bl !b, H, I, rfl, g _ _ _ (.refl sb) (.bl _)⟩
  · cases g
theorem op_isND : OpR X (compareOp .Is) (rD2 X.K fun d e => match e with | .none => dIsN d | _ => .no) := op2_of op_isN fun F H x y d e Q s r1 r2 g => by
  cases e with
  | none =>
    have hy : y = .non := by cases r2; rfl
    refine ⟨hy, ?_⟩
    have hb : decide (x = V.non) = isNone d := by cases r1 <;> rfl
    rw [hb]
    exact g _ _ _ (.refl s) (.bl _)
  | _ => exact g.elim
theorem op_notND : OpR X (compareOp .IsNot) (rD2 X.K fun d e => match e with | .none => dNotN d | _ => .no) := op2_of op_notN fun F H x y d e Q s r1 r2 g => by
  cases e with
  | none =>
    have hy : y = .non := by cases r2; rfl
    refine ⟨hy, ?_⟩
    have hb : decide (x = V.non) = isNone d := by cases r1 <;> rfl
    rw [hb]
    exact g _ _ _ (.refl s) (.bl _)
  | _ => exact g.elim
theorem un_negD : UnR X (unaryOp .USub) (fun x => rD X.K (one dNeg) [x]) := by
  intro pins s σ H x v Q I rx ⟨F, ds, sb, rp, g⟩
  cases rp with
  | cons r1 t =>
    cases t
    simp only [one] at g
    unfold dNeg at g
    split at g
    · refine un_neg pins s σ H x v Q I rx ?_
      rw [r1.intv]
      exact ⟨_, rfl, g _ _ _ (.refl sb) (.int _)⟩
    · cases g
theorem ix_D : IxR X (rD2 X.K dIx) := by
  intro va sl pins s σ H x y v u Q I rx ry ⟨F, ds, sb, rp, g⟩ hs
  cases rp with
  | cons r1 t =>
    cases t with
    | cons r2 t =>
      cases t
      refine ix_seq va sl pins s σ H x y v u Q I rx ry ?_ hs
      simp only [two] at g
      unfold dIx at g
      split at g
      · split at g
        · rename_i e
          obtain ⟨a, xs, e1, h1, p1⟩ := r1.lstv
          obtain ⟨w, e2, h2⟩ := atI_rp p1 e
          subst e1
          exact .inl ⟨a, xs, _, w, rfl, r2.intv, sb.l h1, e2, g _ _ _ (.refl sb) h2⟩
        · cases g
      · split at g
        · rename_i e
          obtain ⟨a, xs, e1, h1, p1⟩ := r1.tupv
          obtain ⟨w, e2, h2⟩ := atI_rp p1 e
          subst e1
          exact .inr (.inl ⟨a, xs, _, w, rfl, r2.intv, sb.t h1, e2, g _ _ _ (.refl sb) h2⟩)
        · cases g
      · split at g
        · rename_i hl
          split at g
          · rename_i c e
            exact .inr (.inr ⟨_, _, c, r1.strv, r2.intv, lim_le hl, e, g _ _ _ (.refl sb) (.str _)⟩)
          · cases g
        · cases g
      · cases g
/-! calls of built-ins -/
theorem call1_of {fv : Value} {r : List V → Hp → VK → Prop} {g : D → Res R} (h : CallR X fv r) (k : ∀ (F H : Hp) (x : V) (d : D) (Q : VK), Sub F H → Rp X.K F x d →
    (g d).good (fun q => ∀ z F' H', Grow F H F' H' → NR X.K F' H H' z q → Q z H') (fun _ _ => False) → r [x] H Q) : CallR X fv (rD X.K (one g)) := by
  intro pins s σ H xs us Q I r ⟨F, ds, sb, rp, hg⟩
  cases rp with
  | nil => cases hg
  | cons r1 t =>
    cases t with
    | nil => exact h pins s σ H _ us Q I r (k F H _ _ Q sb r1 hg)
    | cons _ _ => cases hg
theorem call2_of {fv : Value} {r : List V → Hp → VK → Prop} {g : D → D → Res R} (h : CallR X fv r) (k : ∀ (F H : Hp) (x y : V) (d e : D) (Q : VK), Sub F H → Rp X.K F x d → Rp X.K F y e →
    (g d e).good (fun q => ∀ z F' H', Grow F H F' H' → NR X.K F' H H' z q → Q z H') (fun _ _ => False) → r [x, y] H Q) : CallR X fv (rD X.K (two g)) := by
  intro pins s σ H xs us Q I r ⟨F, ds, sb, rp, hg⟩
  cases rp with
  | nil => cases hg
  | cons r1 t =>
    cases t with
    | nil => cases hg
    | cons r2 t =>
      cases t with
      | nil => exact h pins s σ H _ us Q I r (k F H _ _ _ _ Q sb r1 r2 hg)
      | cons _ _ => cases hg
theorem call_lenD' : CallR X (.builtin "len") (rD X.K (one dLen)) := call1_of call_len fun F H x d Q s r1 g => by
  unfold dLen at g
  split at g
  · split at g
    · rename_i hl
      rw [r1.strv]
      exact ⟨_, _, rfl, ⟨lim_le hl, rfl⟩, g _ _ _ (.refl s) (.int _)⟩
    · cases g
  · obtain ⟨a, xs, e1, h1, p1⟩ := r1.lstv
    subst e1
    exact ⟨_, _, rfl, .inl ⟨xs, s.l h1, p1.length.symm⟩, g _ _ _ (.refl s) (.int _)⟩
  · obtain ⟨a, xs, e1, h1, p1⟩ := r1.tupv
    subst e1
    exact ⟨_, _, rfl, .inr ⟨xs, s.t h1, p1.length.symm⟩, g _ _ _ (.refl s) (.int _)⟩
  · cases g
theorem call_minD (hc : X.calm = true) : CallR X (.builtin "min") (rD X.K (two dMin)) := call2_of (call_min2 hc) fun F H x y d e Q s r1 r2 g => by
  unfold dMin at g
  split at g
  · rw [r1.intv, r2.intv]
    exact ⟨_, _, rfl, g _ _ _ (.refl s) (.int _)⟩
  · cases g
theorem call_maxD (hc : X.calm = true) : CallR X (.builtin "max") (rD X.K (two dMax)) := call2_of (call_max2 hc) fun F H x y d e Q s r1 r2 g => by
  unfold dMax at g
  split at g
  · rw [r1.intv, r2.intv]
    exact ⟨_, _, rfl, g _ _ _ (.refl s) (.int _)⟩
  · cases g
theorem call_strD : CallR X (.type "str") (rD X.K (one dStr)) := call1_of (call_str_int.or SkE.call_str_str) fun F H x d Q s r1 g => by
  unfold dStr at g
  split at g
  · split at g
    · rename_i hl
      rw [r1.intv]
      exact .inl ⟨_, rfl, hl, g _ _ _ (.refl s) (.str _)⟩
    · cases g
  · rw [r1.strv]
    exact .inr ⟨_, rfl, g _ _ _ (.refl s) (.str _)⟩
  · cases g
theorem call_tupleD : CallR X (.type "tuple") (rD X.K (one dTuple)) := call1_of call_tuple_of fun F H x d Q s r1 g => by
  unfold dTuple at g
  split at g
  · obtain ⟨a, xs, e1, h1, p1⟩ := r1.lstv
    subst e1
    exact ⟨a, xs, rfl, .inl ⟨s.l h1, fun l hl => newTup s hl p1 g⟩⟩
  · obtain ⟨a, xs, e1, h1, p1⟩ := r1.tupv
    subst e1
    exact ⟨a, xs, rfl, .inr ⟨s.t h1, g _ _ _ (.refl s) (.tup h1 p1)⟩⟩
  · cases g
theorem call_listD : CallR X (.type "list") (rD X.K (one dList)) := call1_of call_list_of fun F H x d Q s r1 g => by
  unfold dList at g
  split at g
  · obtain ⟨a, xs, e1, h1, p1⟩ := r1.lstv
    subst e1
    exact ⟨a, xs, rfl, .inl (s.l h1), fun l hl => newLst s hl p1 g⟩
  · obtain ⟨a, xs, e1, h1, p1⟩ := r1.tupv
    subst e1
    exact ⟨a, xs, rfl, .inr (s.t h1), fun l hl => newLst s hl p1 g⟩
  · cases g
theorem call_allD (hc : X.calm = true) : CallR X (.builtin "all") (rD X.K (one dAll)) := call1_of (cr_all hc) fun F H x d Q s r1 g => by
  unfold dAll at g
  split at g
  · split at g
    · rename_i e
      obtain ⟨a, xs, e1, h1, p1⟩ := r1.lstv
      subst e1
      have := rpBools p1 e
      subst this
      exact ⟨a, _, rfl, s.l h1, g _ _ _ (.refl s) (.bl _)⟩
    · cases g
  · cases g
theorem call_anyD (hc : X.calm = true) : CallR X (.builtin "any") (rD X.K (one dAny)) := call1_of (cr_any hc) fun F H x d Q s r1 g => by
  unfold dAny at g
  split at g
  · split at g
    · rename_i e
      obtain ⟨a, xs, e1, h1, p1⟩ := r1.lstv
      subst e1
      have := rpBools p1 e
      subst this
      exact ⟨a, _, rfl, s.l h1, g _ _ _ (.refl s) (.bl _)⟩
    · cases g
  · cases g
theorem call_sumD (hc : X.calm = true) : CallR X (.builtin "sum") (rD X.K (one dSum)) := call1_of (cr_sum hc) fun F H x d Q s r1 g => by
  unfold dSum at g
  split at g
  · split at g
    · rename_i e
      obtain ⟨a, xs, e1, h1, p1⟩ := r1.lstv
      subst e1
      have := rpInts p1 e
      subst this
      exact ⟨a, _, rfl, s.l h1, g _ _ _ (.refl s) (.int _)⟩
    · cases g
  · cases g
theorem call_reprD {k : Nat} (hgd : X.A.guards = some []) (hr : Room k X.A) : CallR X (.builtin "repr") (rD X.K (one dRepr)) := by
  intro pins s σ H xs us Q I r ⟨F, ds, sb, rp, g⟩
  cases rp with
  | nil => cases g
  | cons r1 t =>
    cases t with
    | cons _ _ => cases g
    | nil =>
      obtain ⟨u, e, ru⟩ := vals1 r
      subst e
      obtain ⟨as, q1⟩ := (r1.mono sb).reads I u ru
      simp only [one] at g
      unfold dRepr at g
      split at g
      · rename_i hc
        obtain ⟨h1, h2, h3, h4⟩ := hc
        have fin : ∀ tk w h', (∀ b o, s.heap.get? b = some o → h'.get? b = some o) → EP X pins σ Q (.str _ w) { s with heap := h', toks := tk } := fun tk w h' hk => ⟨.str _, H, I.kept (t' := tk) hk, ⟨w, rfl⟩, g _ _ _ (.refl sb) (.str _)⟩
        cases r1 with
        | non => cases q1; exact P.repr_of_none (fin _ _ _ fun _ _ z => z)
        | bl b => cases q1; exact P.repr_of_bool (fin _ _ _ fun _ _ z => z)
        | int i =>
          cases q1
          exact P.repr_of_int (by simpa [PyData.showable] using h1) (fin _ _ _ fun _ _ z => z)
        | str x =>
          cases q1
          exact P.repr_of_str (fin _ _ _ fun _ _ z => z) (lim_le h4)
        | lst _ _ =>
          cases ru
          exact repr_of_reads' q1 h1 (PyData.noDict_hsm h2) hgd (by have := hr.un; omega) (fun _ _ z => z) (fun h' w tk hk => fin tk w h' hk) (lim_le h4)
        | tup _ _ =>
          cases ru
          exact repr_of_reads' q1 h1 (PyData.noDict_hsm h2) hgd (by have := hr.un; omega) (fun _ _ z => z) (fun h' w tk hk => fin tk w h' hk) (lim_le h4)
        | dct _ _ _ => cases h2
      · cases g
/-! isinstance, one built-in class -/
theorem call_isiD (T : String) : CallR X (.builtin "isinstance") (fun xs H Q => ∃ x F, xs = [x, .ty T] ∧ Sub F H ∧ rD X.K (one (dIsi T)) [x] H Q) := by
  intro pins s σ H xs us Q I r ⟨x, _, e, _, F, ds, sb, rp, g⟩
  subst e
  obtain ⟨u1, u2, e, r1, r2⟩ := vals2 r
  subst e
  have e2 : u2 = Value.type T := r2
  subst e2
  cases rp with
  | cons q t =>
    cases t
    obtain ⟨as, q1⟩ := (q.mono sb).reads I u1 r1
    simp only [one] at g
    unfold dIsi at g
    split at g
    · rename_i b hb
      have fin : ∀ tk, EP X pins σ Q (.bool b) { s with toks := tk } := fun tk => ⟨.bl b, H, I.tok tk, rfl, g _ _ _ (.refl sb) (.bl _)⟩
      unfold isT at hb
      split at hb <;> first | cases hb | skip
      · exact PySem.W.isinstance_int_data q1 fun tk _ => fin tk
      · exact PySem.W.isinstance_bool_data q1 fun tk _ => fin tk
      · exact PySem.W.isinstance_str_data q1 fun tk _ => fin tk
      · exact PySem.W.isinstance_tuple_data q1 fun tk _ => fin tk
      · exact PySem.W.isinstance_list_data q1 fun tk _ => fin tk
      · exact PySem.W.isinstance_dict_data q1 fun tk _ => fin tk
    · cases g
end
end Fw

namespace Fw
open PySem L2 PySem.Spec PyProof.Rows

/-! ## truth, and, or, not, if-else -/
def dTru : D → Option Bool
  | .none => some false
  | .bool b => some b
  | .int i => some (i != 0)
  | .str z => if z.length ≤ lim then some ((z.length : Int) != 0) else none
  | .list xs => some !xs.isEmpty
  | .tuple xs => some !xs.isEmpty
  | .dict kvs => some !kvs.isEmpty
theorem tru_rp {K : PySem.W.Frag} {F H : Hp} {v : V} {d : D} {b : Bool} (s : Sub F H) (h : Rp K F v d) (e : dTru d = some b) : TruV K v H b := by
  cases h with
  | non => cases e; rfl
  | bl c => cases e; rfl
  | int i => cases e; rfl
  | str z =>
    simp only [dTru] at e
    split at e
    · rename_i hl
      cases e
      exact ⟨lim_le hl, rfl⟩
    · cases e
  | lst h r =>
    cases e
    refine .inl ⟨_, s.l h, ?_⟩
    cases r <;> rfl
  | tup h r =>
    cases e
    refine .inr (.inl ⟨_, s.t h, ?_⟩)
    cases r <;> rfl
  | dct h r q =>
    cases e
    refine .inr (.inr ⟨_, s _ _ h, ?_⟩)
    subst q
    cases r <;> rfl
def truOf (d : D) (Γ : Gm) : Res (Bool × Gm) := match dTru d with
  | some b => .ok (b, Γ)
  | none => .no
def tVal (m : EM) : TM := opd m truOf
def tAndM (ta tb : TM) : TM := fun Γ => (ta Γ).bind fun p => if p.1 = true then tb p.2 else .ok (false, p.2)
def tOrM (ta tb : TM) : TM := fun Γ => (ta Γ).bind fun p => if p.1 = true then .ok (true, p.2) else tb p.2
def tNotM (ta : TM) : TM := fun Γ => (ta Γ).bind fun p => .ok (!p.1, p.2)
def eAnd (ma mb : EM) : EM := opd ma fun d Γ => (truOf d Γ).bind fun p => if p.1 = true then mb p.2 else .ok (.fro d, p.2)
def eOr (ma mb : EM) : EM := opd ma fun d Γ => (truOf d Γ).bind fun p => if p.1 = true then .ok (.fro d, p.2) else mb p.2
def eNot (ma : EM) : EM := opd ma fun d Γ => (truOf d Γ).bind fun p => .ok (.fro (.bool !p.1), p.2)
def eIf (t : TM) (ma mb : EM) : EM := fun Γ => (t Γ).bind fun p => if p.1 = true then ma p.2 else mb p.2
section
variable {X : Cx} {E : XK}
theorem truOf_good {β : Type} {d : D} {Γ : Gm} {k : Bool × Gm → Res β} {kk : β → Prop} {kx : Ex → Gm → Prop} (g : ((truOf d Γ).bind k).good kk kx) : ∃ b, dTru d = some b ∧ (k (b, Γ)).good kk kx := by
  unfold truOf at g
  split at g
  · rename_i b e
    exact ⟨b, e, g⟩
  · cases g
theorem opd_unfold {β : Type} (m : EM) (k : D → Gm → Res β) (Γ : Gm) : opd m k Γ = (m Γ).bind fun p => k p.1.dat p.2 := rfl
theorem DenT.val {t : TE} {m : EM} (h : Den X E t m) : DenT X E (fun σ H Q => t σ H fun x H' => ∃ k, TruV X.K x H' k ∧ Q k H') (tVal m) := by
  intro B F H σ Γ Q r g
  refine h.opd r g ?_
  intro v d Γ1 F1 H1 r1 s1 rp g1
  unfold truOf at g1
  split at g1
  · rename_i b e
    exact ⟨b, tru_rp r1.fh rp e, g1 F1 H1 r1 s1⟩
  · cases g1
theorem dt_val {e : Expr} {m : EM} (h : DE X E e m) (he : ∀ whole, isTrue e X.env whole = (do let v ← whole; standAt e.pos; holding [v] (truthy v)) := by intro _; rfl) : DT X E e (tVal m) := by
  obtain ⟨t, p, h⟩ := h
  exact ⟨_, pt_truth p he, .val h⟩
theorem DenT.test {t : TE} {m : EM} (h : Den X E t m) (hb : ∀ Γ kk kx, (m Γ).good kk kx → (m Γ).good (fun p => kk p ∧ ∃ b, p.1.dat = .bool b) kx) : DenT X E (tTest t) (tVal m) := by
  intro B F H σ Γ Q r g
  have g' : ((m Γ).bind fun p => truOf p.1.dat p.2).good (fun p => ∀ F' H', Rel B X.K F' H' σ p.2 → Sub F F' → Q p.1 H') (XPx X B F E) := g
  rw [Res.good_bind] at g'
  have g2 := hb Γ _ _ g'
  refine h B F H σ Γ _ r (g2.mono ?_ fun _ _ z => z)
  intro p ⟨hp, b, eb⟩ v F' H' r' s' rr
  obtain ⟨F2, r2, s2, rp⟩ := rr.freeze r'
  rw [eb] at rp hp
  exact ⟨b, rp.blv, hp F2 H' r2 (s'.trans s2)⟩
/-- a comparison as a test -/
theorem bool_bin {f : D → D → Res R} (hf : ∀ d e q, f d e = .ok q → ∃ b, q = .fro (.bool b)) (ma mb : EM) : ∀ Γ kk kx, (eBin f ma mb Γ).good kk kx → (eBin f ma mb Γ).good (fun p => kk p ∧ ∃ b, p.1.dat = .bool b) kx := by
  intro Γ kk kx g
  unfold eBin opd at g ⊢
  rw [Res.good_bind] at g ⊢
  refine g.mono (fun p g1 => ?_) fun _ _ z => z
  rw [Res.good_bind] at g1 ⊢
  refine g1.mono (fun p2 g2 => ?_) fun _ _ z => z
  simp only at g2 ⊢
  cases q : f p.1.dat p2.1.dat with
  | ok r =>
    rw [q] at g2
    obtain ⟨b, e⟩ := hf _ _ _ q
    subst e
    exact ⟨g2, b, rfl⟩
  | er x g' => rw [q] at g2; cases g2
  | no => rw [q] at g2; cases g2
theorem dt_cmp {op : CmpOp} {f : D → D → Res R} {a b : Expr} {ma mb : EM} {pos : Pos} (ho : OpR X (compareOp op) (rD2 X.K f)) (hf : ∀ d e q, f d e = .ok q → ∃ b, q = .fro (.bool b)) (ha : DE X E a ma) (hb : DE X E b mb)
    (hm : behindInMarks op b = false := by first | exact nomark _ | rfl) : DT X E (.Compare a [op] [b] pos) (tVal (eBin f ma mb)) := by
  obtain ⟨ta, pa, ha⟩ := ha
  obtain ⟨tb, pb, hb⟩ := hb
  refine ⟨_, pt_cmpR ho pa pb hm, .test ?_ (bool_bin hf ma mb)⟩
  intro B F H σ Γ Q r g
  refine ha.opd r g ?_
  intro v d Γ1 F1 H1 r1 s1 rp g1
  refine hb.opd r1 g1 ?_
  intro w e Γ2 F2 H2 r2 s2 rq g2
  exact ⟨F2, [d, e], r2.fh, .cons (rp.mono s2) (.cons rq .nil), lift_good (mg := X.mg) r2 (s1.trans s2) g2⟩
theorem DenT.and {ta tb : TT} {ma mb : TM} (ha : DenT X E ta ma) (hb : DenT X E tb mb) : DenT X E (tAnd ta tb) (tAndM ma mb) := by
  intro B F H σ Γ Q r g
  refine ha.raw r g ?_
  intro b Γ1 F1 H1 r1 s1 g1
  cases b with
  | true => exact hb B F1 H1 σ Γ1 Q r1 (Res.good.mono g1 (fun p q F' H' r' s' => q F' H' r' (s1.trans s')) fun _ _ z => z)
  | false => exact g1 F1 H1 r1 s1
theorem DenT.or {ta tb : TT} {ma mb : TM} (ha : DenT X E ta ma) (hb : DenT X E tb mb) : DenT X E (tOr ta tb) (tOrM ma mb) := by
  intro B F H σ Γ Q r g
  refine ha.raw r g ?_
  intro b Γ1 F1 H1 r1 s1 g1
  cases b with
  | true => exact g1 F1 H1 r1 s1
  | false => exact hb B F1 H1 σ Γ1 Q r1 (Res.good.mono g1 (fun p q F' H' r' s' => q F' H' r' (s1.trans s')) fun _ _ z => z)
theorem DenT.not {ta : TT} {ma : TM} (ha : DenT X E ta ma) : DenT X E (tNot ta) (tNotM ma) := by
  intro B F H σ Γ Q r g
  refine ha.raw r g ?_
  intro b Γ1 F1 H1 r1 s1 g1
  exact g1 F1 H1 r1 s1
variable {a b : Expr} {rest : List Expr} {pos : Pos} {ta tb : TM} {ma mb : EM}
theorem dw_and1 (h : DT X E a ta) : DW X E (.BoolOp .And [a] pos) ta := by obtain ⟨t, p, h⟩ := h; exact ⟨_, pw_and1 p, h⟩
theorem dw_or1 (h : DT X E a ta) : DW X E (.BoolOp .Or [a] pos) ta := by obtain ⟨t, p, h⟩ := h; exact ⟨_, pw_or1 p, h⟩
theorem dw_and (h : DT X E a ta) (k : DW X E (.BoolOp .And (b :: rest) pos) tb) : DW X E (.BoolOp .And (a :: b :: rest) pos) (tAndM ta tb) := by
  obtain ⟨t, p, h⟩ := h
  obtain ⟨u, q, k⟩ := k
  exact ⟨_, pw_and p q, h.and k⟩
theorem dw_or (h : DT X E a ta) (k : DW X E (.BoolOp .Or (b :: rest) pos) tb) : DW X E (.BoolOp .Or (a :: b :: rest) pos) (tOrM ta tb) := by
  obtain ⟨t, p, h⟩ := h
  obtain ⟨u, q, k⟩ := k
  exact ⟨_, pw_or p q, h.or k⟩
theorem dt_w (h : DW X E a ta) : DT X E a ta := by obtain ⟨t, p, h⟩ := h; exact ⟨_, p.pt, h⟩
theorem dt_not (h : DT X E a ta) : DT X E (.UnaryOp .Not a pos) (tNotM ta) := by obtain ⟨t, p, h⟩ := h; exact ⟨_, pt_not p, h.not⟩
theorem de_one {op : BoolOp} (h : DE X E a ma) : DE X E (.BoolOp op [a] pos) ma := by obtain ⟨t, p, h⟩ := h; exact ⟨_, pe_one p, h⟩
theorem de_and (h : DE X E a ma) (k : DE X E (.BoolOp .And (b :: rest) pos) mb) : DE X E (.BoolOp .And (a :: b :: rest) pos) (eAnd ma mb) := by
  obtain ⟨t, p, h⟩ := h
  obtain ⟨u, q, k⟩ := k
  refine ⟨_, pe_andT p q, ?_⟩
  intro B F H σ Γ Q r g
  refine h.opd r g ?_
  intro v d Γ1 F1 H1 r1 s1 rp g1
  obtain ⟨b, e, g2⟩ := truOf_good g1
  refine ⟨b, tru_rp r1.fh rp e, ?_⟩
  cases b with
  | true => exact k B F1 H1 σ Γ1 Q r1 (Res.good.mono g2 (fun p q v F' H' r' s' => q v F' H' r' (s1.trans s')) fun _ _ z => z)
  | false => exact g2 v F1 H1 r1 s1 rp
theorem de_or (h : DE X E a ma) (k : DE X E (.BoolOp .Or (b :: rest) pos) mb) : DE X E (.BoolOp .Or (a :: b :: rest) pos) (eOr ma mb) := by
  obtain ⟨t, p, h⟩ := h
  obtain ⟨u, q, k⟩ := k
  refine ⟨_, pe_orT p q, ?_⟩
  intro B F H σ Γ Q r g
  refine h.opd r g ?_
  intro v d Γ1 F1 H1 r1 s1 rp g1
  obtain ⟨b, e, g2⟩ := truOf_good g1
  refine ⟨b, tru_rp r1.fh rp e, ?_⟩
  cases b with
  | true => exact g2 v F1 H1 r1 s1 rp
  | false => exact k B F1 H1 σ Γ1 Q r1 (Res.good.mono g2 (fun p q v F' H' r' s' => q v F' H' r' (s1.trans s')) fun _ _ z => z)
theorem de_not (h : DE X E a ma) : DE X E (.UnaryOp .Not a pos) (eNot ma) := by
  obtain ⟨t, p, h⟩ := h
  refine ⟨_, pe_notT p, ?_⟩
  intro B F H σ Γ Q r g
  refine h.opd r g ?_
  intro v d Γ1 F1 H1 r1 s1 rp g1
  obtain ⟨b, e, g2⟩ := truOf_good g1
  exact ⟨b, tru_rp r1.fh rp e, g2 _ F1 H1 r1 s1 (.bl _)⟩
theorem de_if {c : Expr} (hc : DT X E c ta) (h : DE X E a ma) (k : DE X E b mb) : DE X E (.IfExp c a b pos) (eIf ta ma mb) := by
  obtain ⟨tc, pc, hc⟩ := hc
  obtain ⟨t, p, h⟩ := h
  obtain ⟨u, q, k⟩ := k
  refine ⟨_, pe_ifExp pc p q, ?_⟩
  intro B F H σ Γ Q r g
  refine hc.raw r g ?_
  intro b Γ1 F1 H1 r1 s1 g1
  cases b with
  | true => exact h B F1 H1 σ Γ1 Q r1 (Res.good.mono g1 (fun p q v F' H' r' s' => q v F' H' r' (s1.trans s')) fun _ _ z => z)
  | false => exact k B F1 H1 σ Γ1 Q r1 (Res.good.mono g1 (fun p q v F' H' r' s' => q v F' H' r' (s1.trans s')) fun _ _ z => z)
/-- the results of tests are truths -/
theorem bo_eq : ∀ d e q, dEq d e = .ok q → ∃ b, q = .fro (.bool b) := by
  intro d e q h
  unfold dEq at h
  split at h <;> cases h
  exact ⟨_, rfl⟩
theorem bo_ne : ∀ d e q, dNe d e = .ok q → ∃ b, q = .fro (.bool b) := by
  intro d e q h
  unfold dNe at h
  split at h <;> cases h
  exact ⟨_, rfl⟩
theorem bo_lt : ∀ d e q, dLt d e = .ok q → ∃ b, q = .fro (.bool b) := by
  intro d e q h
  unfold dLt at h
  split at h <;> cases h
  exact ⟨_, rfl⟩
theorem bo_le : ∀ d e q, dLe d e = .ok q → ∃ b, q = .fro (.bool b) := by
  intro d e q h
  unfold dLe at h
  split at h <;> cases h
  exact ⟨_, rfl⟩
theorem bo_gt : ∀ d e q, dGt d e = .ok q → ∃ b, q = .fro (.bool b) := by
  intro d e q h
  unfold dGt at h
  split at h <;> cases h
  exact ⟨_, rfl⟩
theorem bo_ge : ∀ d e q, dGe d e = .ok q → ∃ b, q = .fro (.bool b) := by
  intro d e q h
  unfold dGe at h
  split at h <;> cases h
  exact ⟨_, rfl⟩
def dIs (d e : D) : Res R := match e with
  | .none => dIsN d
  | _ => .no
def dIsNot (d e : D) : Res R := match e with
  | .none => dNotN d
  | _ => .no
theorem bo_is : ∀ d e q, dIs d e = .ok q → ∃ b, q = .fro (.bool b) := by
  intro d e q h
  unfold dIs at h
  split at h <;> cases h
  exact ⟨_, rfl⟩
theorem bo_isnot : ∀ d e q, dIsNot d e = .ok q → ∃ b, q = .fro (.bool b) := by
  intro d e q h
  unfold dIsNot at h
  split at h <;> cases h
  exact ⟨_, rfl⟩
/-- isinstance(e, T) -/
theorem de_isi (T : String) {x t : Str} {e : Expr} {p pos p2 : Pos} {m : EM} (he : DE X E e m) (hm : X.mg x = none) (hv : bootBuiltins x = some (.builtin "isinstance")) (hmt : X.mg t = none) (hvt : bootBuiltins t = some (.type T))
    (hg : Gl X x := by rfl) (hgt : Gl X t := by rfl) (hn : x ≠ "__name__" := by decide) (hnt : t ≠ "__name__" := by decide) (hdb : (x == ("__debug__" : Str)) = false := by decide) (hdt : (t == ("__debug__" : Str)) = false := by decide)
    (hs : starEach (e :: [.Name t p2]) X.env = (false, eval e X.env) :: starEach [.Name t p2] X.env := by rfl) (hs2 : starEach (.Name t p2 :: []) X.env = (false, eval (.Name t p2) X.env) :: starEach [] X.env := by rfl)
    (hpl : (backTo pos (starEach [.Name t p2] X.env)).any (·.1) = false := by rfl) : DE X E (.Call (.Name x p) [e, .Name t p2] [] pos) (eUn (dIsi T) m) := by
  obtain ⟨te, pe, h⟩ := he
  refine ⟨_, pe_callB (call_isiD T) hg hm hv (pa_cons pe (pa_cons (pe_bltn (v := .ty T) hgt hmt hvt rfl hnt hdt) pa_nil hs2) hs) hn hdb hs hpl, ?_⟩
  intro B F H σ Γ Q r g
  refine h.opd r g ?_
  intro v d Γ1 F1 H1 r1 s1 rp g1
  exact ⟨v, F1, rfl, r1.fh, F1, [d], r1.fh, .cons rp .nil, lift_good (mg := X.mg) r1 s1 g1⟩
end
end Fw

namespace Fw
open PySem L2 PySem.Spec PyProof.Rows

/-! ## methods of texts -/
def eMethS (f : List D → Res R) (m : EM) (ms : AM) : EM := opd m fun x Γ => match x with
  | .str z => (ms Γ).bind fun p => lift (f (.str z :: p.1)) p.2
  | _ => .no
section
variable {X : Cx} {E : XK}
theorem de_ms {id : String} {f : List D → Res R} {name : Str} {o e : Expr} {es : List Expr} {m : EM} {ms : AM} {apos cpos : Pos} (slot : Slot "str" name id) (hty : typeOf (.builtin id) = pure (.type "method_descriptor")) (hm : MtR X id (rDM X.K f)) (ho : DE X E o m) (ha : DA X E (e :: es) ms)
    (hbase : attributeBase o name X.env (eval o X.env) = eval o X.env := by rfl)
    (hfew : ((backTo cpos (starEach (e :: es) X.env)).all (fun x => !x.1) && (backToKw cpos (keywordEach [] X.env)).all (fun x => x.1.isSome)
      && decide ((e :: es).length + ([] : List Keyword).length + (if ([] : List Keyword).isEmpty then 0 else 1) < 30)) = true := by rfl)
    (hline : (apos.endLine == cpos.line) = true := by rfl) (hs : starEach (e :: es) X.env = (false, eval e X.env) :: starEach es X.env := by rfl) (hplain : (backTo cpos (starEach es X.env)).any (·.1) = false := by rfl) :
    DE X E (.Call (.Attribute o name apos) (e :: es) [] cpos) (eMethS f m ms) := by
  obtain ⟨t, p, h⟩ := ho
  obtain ⟨ta, pa, ha⟩ := ha
  refine ⟨_, pe_bm PySem.F.plainAttrs_str slot hty hm p pa hbase hfew hline hs hplain, ?_⟩
  intro B F H σ Γ Q r g
  refine h.opd r g ?_
  intro v d Γ1 F1 H1 r1 s1 rp g1
  cases d with
  | str z =>
    cases rp
    refine ⟨rfl, ha.raw r1 g1 ?_⟩
    intro vs ds Γ2 F2 H2 r2 s2 rps hl g2
    exact ⟨F2, .str z :: ds, r2.fh, .cons (.str z) rps, lift_good (mg := X.mg) r2 (s1.trans s2) g2⟩
  | _ => cases g1
theorem de_ms0 {id : String} {f : List D → Res R} {name : Str} {o : Expr} {m : EM} {apos cpos : Pos} (slot : Slot "str" name id) (hty : typeOf (.builtin id) = pure (.type "method_descriptor")) (hm : MtR X id (rDM X.K f)) (ho : DE X E o m)
    (hbase : attributeBase o name X.env (eval o X.env) = eval o X.env := by rfl) (hline : (apos.endLine == cpos.line) = true := by rfl) : DE X E (.Call (.Attribute o name apos) [] [] cpos) (eMethS f m aNil) := by
  obtain ⟨t, p, h⟩ := ho
  refine ⟨_, pe_bm0 PySem.F.plainAttrs_str slot hty hm p hbase hline, ?_⟩
  intro B F H σ Γ Q r g
  refine h.opd r g ?_
  intro v d Γ1 F1 H1 r1 s1 rp g1
  cases d with
  | str z =>
    cases rp
    exact ⟨rfl, F1, [.str z], r1.fh, .cons (.str z) .nil, lift_good (mg := X.mg) r1 s1 g1⟩
  | _ => cases g1
theorem mt_joinD : MtR X "str.join" (rDM X.K (two dJoin)) := by
  intro pins s σ H x xs v us Q I rx rxs ⟨F, ds, sb, rp, g⟩
  cases rp with
  | cons r1 t =>
    cases t with
    | nil => cases g
    | cons r2 t =>
      cases t with
      | cons _ _ => cases g
      | nil =>
        refine mt_join pins s σ H x _ v us Q I rx rxs ?_
        simp only [two] at g
        unfold dJoin at g
        split at g
        · unfold dJoinL at g
          split at g
          · rename_i ys e
            split at g
            · rename_i hl
              obtain ⟨a, xs, e1, h1, p1⟩ := r2.lstv
              subst e1
              have := rpStrs p1 e
              subst this
              exact ⟨_, a, ys, r1.strv, rfl, .inl (sb.l h1), Nat.le_trans hl (by decide), g _ _ _ (.refl sb) (.str _)⟩
            · cases g
          · cases g
        · unfold dJoinL at g
          split at g
          · rename_i ys e
            split at g
            · rename_i hl
              obtain ⟨a, xs, e1, h1, p1⟩ := r2.tupv
              subst e1
              have := rpStrs p1 e
              subst this
              exact ⟨_, a, ys, r1.strv, rfl, .inr (sb.t h1), Nat.le_trans hl (by decide), g _ _ _ (.refl sb) (.str _)⟩
            · cases g
          · cases g
        · cases g
end

/-! ## slices -/
def cutD {α : Type} (xs : List α) (lo hi : Option Int) : List α := (xs.drop (HT.sIx xs.length 0 lo)).take (HT.sIx xs.length xs.length hi - HT.sIx xs.length 0 lo)
def dSl : D → Option Int → Option Int → Res R
  | .list xs, lo, hi => .ok (.own (.lst (cutD xs lo hi)))
  | .tuple xs, lo, hi => fr (.tuple (cutD xs lo hi))
  | .str z, lo, hi => if z.length ≤ lim then fr (.str (cutS z lo hi)) else .no
  | _, _, _ => .no
abbrev PM := Gm → Res (Option Int × Gm)
def pNone : PM := fun Γ => .ok (none, Γ)
def pSome (m : EM) : PM := opd m fun d Γ => match d with
  | .int i => .ok (some i, Γ)
  | _ => .no
def eSl (m : EM) (pl ph : PM) : EM := opd m fun d Γ => (pl Γ).bind fun l => (ph l.2).bind fun h => lift (dSl d l.1 h.1) h.2
section
variable {X : Cx} {E : XK}
def DenO (X : Cx) (E : XK) (t : TO) (m : PM) : Prop := ∀ (B : Bd) (F H : Hp) (σ : L2.St) (Γ : Gm) (Q : Option Int → Hp → Prop), Rel B X.K F H σ Γ →
  (m Γ).good (fun p => ∀ F' H', Rel B X.K F' H' σ p.2 → Sub F F' → Q p.1 H') (XPx X B F E) → t σ H Q
def DO (X : Cx) (E : XK) (e : Option Expr) (m : PM) : Prop := ∃ t, PO X e t ∧ DenO X E t m
theorem do_none : DO X E none pNone := ⟨_, po_none, fun B F H σ Γ Q r g => g F H r (Sub.refl _)⟩
theorem do_some {e : Expr} {m : EM} (h : DE X E e m) : DO X E (some e) (pSome m) := by
  obtain ⟨t, p, h⟩ := h
  refine ⟨_, po_some p, ?_⟩
  intro B F H σ Γ Q r g
  refine h.opd r g ?_
  intro v d Γ1 F1 H1 r1 s1 rp g1
  cases d with
  | int i =>
    cases rp
    exact ⟨i, rfl, g1 F1 H1 r1 s1⟩
  | _ => cases g1
theorem DenO.raw {β : Type} {t : TO} {m : PM} {B : Bd} {F H : Hp} {σ : L2.St} {Γ : Gm} {k : Option Int × Gm → Res β} {kk : β → Prop} {Q : Option Int → Hp → Prop} (h : DenO X E t m) (r : Rel B X.K F H σ Γ) (g : ((m Γ).bind k).good kk (XPx X B F E))
    (c : ∀ o Γ1 F1 H1, Rel B X.K F1 H1 σ Γ1 → Sub F F1 → (k (o, Γ1)).good kk (XPx X B F1 E) → Q o H1) : t σ H Q := by
  refine h B F H σ Γ Q r ?_
  rw [Res.good_bind] at g
  refine g.mono ?_ fun _ _ z => z
  intro p hp F' H' r' s'
  exact c _ _ _ _ r' s' (hp.mono (fun _ z => z) fun _ _ z => z.mono s')
theorem rp_cut {K : PySem.W.Frag} {F : Hp} {vs : List V} {ds : List D} (h : RpAll K F vs ds) (lo hi : Option Int) : RpAll K F (cutV vs lo hi) (cutD ds lo hi) := by
  unfold cutV cutD
  rw [h.length]
  exact (h.drop _).take _
theorem sl_D : SlR X (fun x lo hi H Q => rSlL X.K x lo hi H Q ∨ rSlA X.K x lo hi H Q ∨ rSlS x lo hi H Q) := sl_list.or (sl_tupA.or sl_str)
theorem de_sl {e : Expr} {lo hi : Option Expr} {m : EM} {pl ph : PM} {pos p2 : Pos} (he : DE X E e m) (hl : DO X E lo pl) (hh : DO X E hi ph) : DE X E (.Subscript e (.Slice lo hi none p2) pos) (eSl m pl ph) := by
  obtain ⟨t, p, h⟩ := he
  obtain ⟨tl, p1, hl⟩ := hl
  obtain ⟨th, p2', hh⟩ := hh
  refine ⟨_, pe_slice sl_D p p1 p2', ?_⟩
  intro B F H σ Γ Q r g
  refine h.opd r g ?_
  intro v d Γ1 F1 H1 r1 s1 rp g1
  refine hl.raw r1 g1 ?_
  intro lo Γ2 F2 H2 r2 s2 g2
  refine hh.raw r2 g2 ?_
  intro hi Γ3 F3 H3 r3 s3 g3
  have q := rp.mono (s2.trans s3)
  have g4 := lift_good (mg := X.mg) r3 (s1.trans (s2.trans s3)) g3
  unfold dSl at g4
  split at g4
  · obtain ⟨a, xs, e1, h1, p1⟩ := q.lstv
    subst e1
    exact .inl ⟨a, xs, rfl, r3.fh.l h1, fun p hp => newLst r3.fh hp (rp_cut p1 _ _) g4⟩
  · obtain ⟨a, xs, e1, h1, p1⟩ := q.tupv
    subst e1
    refine .inr (.inl ⟨a, xs, rfl, r3.fh.t h1, ?_, fun _ p hp => newTup r3.fh hp (rp_cut p1 _ _) g4⟩)
    intro ⟨w1, w2⟩
    have ew : cutV xs lo hi = xs := by unfold cutV; rw [w1, w2, List.drop_zero, Nat.sub_zero, List.take_length]
    refine g4 _ _ _ (.refl r3.fh) (.tup h1 ?_)
    have := rp_cut p1 lo hi
    rwa [ew] at this
  · split at g4
    · rename_i hz
      exact .inr (.inr ⟨_, q.strv, lim_le hz, g4 _ _ _ (.refl r3.fh) (.str _)⟩)
    · cases g4
  · cases g4
end

/-! ## a def, called on data -/
/-- the promise of a def by its mirror: no error leaves it -/
def sp0 (K : PySem.W.Frag) (np : Nat) (m : Fn) : Sp := fun vs H Q _ => vs.length = np ∧ ∃ B F Γ, Rel B K F H (vs.map some) Γ ∧ (∀ i a, B.π.getD i none = some a → vs[i]? = some (.ref a)) ∧
  (m Γ).good (fun p => ∀ v F' H', Rel B K F' H' (vs.map some) p.2 → Sub F F' → RR B K F' H' (vs.map some) p.2 v p.1 → Q v H') (fun _ _ => False)
def keepIo : SV → SV
  | .io c => .io c
  | _ => .no
def outG (n : Nat) (g : Gm) : Gm := (g.take n).map keepIo
def runFn (nl : Nat) (body : SM) : Fn := fun Γ => (body (Γ ++ List.replicate nl .no)).bind fun o => match o with
  | .rt r g => .ok (r, outG Γ.length g)
  | .nx g => .ok (.fro .none, outG Γ.length g)
  | _ => .no
theorem outG_len {n : Nat} {g : Gm} (h : n ≤ g.length) : (outG n g).length = n := by
  unfold outG
  rw [List.length_map, List.length_take]
  omega
theorem outG_at {n : Nat} {g : Gm} {i : Nat} {sv : SV} (h : (outG n g)[i]? = some sv) : i < n ∧ ((sv = .no) ∨ ∃ c, sv = .io c ∧ g[i]? = some (.io c)) := by
  unfold outG at h
  rw [List.getElem?_map] at h
  cases q : (g.take n)[i]? with
  | none => rw [q] at h; cases h
  | some w =>
    rw [q] at h
    have hi := (List.getElem?_eq_some_iff.mp q).1
    rw [List.length_take] at hi
    refine ⟨by omega, ?_⟩
    rw [List.getElem?_take] at q
    split at q
    · cases h
      cases w with
      | io c => exact .inr ⟨c, rfl, q⟩
      | no => exact .inl rfl
      | d d => exact .inl rfl
      | ow c => exact .inl rfl
    · cases q
section
variable {B : Bd} {K : PySem.W.Frag} {F H : Hp} {σ : L2.St} {Γ : Gm}
theorem Rel.extend (r : Rel B K F H σ Γ) (n : Nat) : Rel { B with n := B.n + n } K F H (σ ++ List.replicate n none) (Γ ++ List.replicate n .no) := by
  have at_ : ∀ {i : Nat} {sv : SV}, (Γ ++ List.replicate n SV.no)[i]? = some sv → (Γ[i]? = some sv ∧ i < Γ.length) ∨ sv = .no := by
    intro i sv h
    by_cases hi : i < Γ.length
    · rw [List.getElem?_append_left hi] at h
      exact .inl ⟨h, hi⟩
    · rw [List.getElem?_append_right (by omega), List.getElem?_replicate] at h
      split at h <;> cases h
      exact .inr rfl
  have sg : ∀ {i : Nat}, i < Γ.length → (σ ++ List.replicate n none)[i]? = σ[i]? := by
    intro i hi
    rw [List.getElem?_append_left (by rw [r.len]; exact hi)]
  have ow : ∀ {i : Nat} {a : Addr}, Owns (σ ++ List.replicate n none) (Γ ++ List.replicate n SV.no) i a → Owns σ Γ i a := by
    rintro i a ⟨⟨sv, e, o⟩, e2⟩
    rcases at_ e with ⟨e1, hi⟩ | e1
    · rw [sg hi] at e2
      exact ⟨⟨sv, e1, o⟩, e2⟩
    · subst e1; cases o
  refine ⟨by simp [r.lσ], by simp [r.lΓ], r.uh, r.fh, r.f0, r.nw, ?_, fun i j a h1 h2 => r.inj i j a (ow h1) (ow h2), fun i a h => r.ofr i a (ow h)⟩
  intro i sv e
  rcases at_ e with ⟨e1, hi⟩ | e1
  · have e2 : (σ ++ List.replicate n none).getD i none = σ.getD i none := by rw [List.getD_eq_getElem?_getD, List.getD_eq_getElem?_getD, sg hi]
    rw [e2]
    exact r.sl i sv e1
  · subst e1; trivial
/-- what is left of a def's slots for its caller -/
theorem Rel.out {vs : List V} {n : Nat} {m : Nat} (r : Rel { B with n := m } K F H σ Γ) (hn : vs.length = n) (hb : B.n = n) (hm : n ≤ m) (hp : ∀ i a, B.π.getD i none = some a → vs[i]? = some (.ref a)) :
    Rel B K F H (vs.map some) (outG n Γ) ∧ ∀ i a, Owns (vs.map some) (outG n Γ) i a → Owns σ Γ i a := by
  have io : ∀ {i : Nat} {c : Cell}, Γ[i]? = some (.io c) → ∃ a, B.π.getD i none = some a ∧ σ[i]? = some (some (.ref a)) ∧ CellAt K F H a c := by
    intro i c e
    obtain ⟨a, e1, e2, q⟩ := r.sl i _ e
    have hi : i < σ.length := by rw [r.len]; exact (List.getElem?_eq_some_iff.mp e).1
    refine ⟨a, e1, ?_, q⟩
    rw [List.getD_eq_getElem?_getD, List.getElem?_eq_getElem hi] at e2
    rw [List.getElem?_eq_getElem hi]
    exact congrArg some e2
  have ow : ∀ i a, Owns (vs.map some) (outG n Γ) i a → Owns σ Γ i a := by
    rintro i a ⟨⟨sv, e, o⟩, e2⟩
    obtain ⟨hi, q | ⟨c, q, e1⟩⟩ := outG_at e
    · subst q; cases o
    · obtain ⟨b, e3, e4, _⟩ := io e1
      have e5 := hp i b e3
      rw [List.getElem?_map, e5] at e2
      cases e2
      exact ⟨⟨_, e1, rfl⟩, e4⟩
  have hg : n ≤ Γ.length := Nat.le_trans hm (Nat.le_of_eq r.lΓ.symm)
  refine ⟨⟨by rw [List.length_map, hn, hb], by rw [outG_len hg, hb], r.uh, r.fh, r.f0, r.nw, ?_, fun i j a h1 h2 => r.inj i j a (ow i a h1) (ow j a h2), fun i a h => r.ofr i a (ow i a h)⟩, ow⟩
  intro i sv e
  obtain ⟨hi, q | ⟨c, q, e1⟩⟩ := outG_at e
  · subst q; trivial
  · subst q
    obtain ⟨a, e3, e4, q⟩ := io e1
    refine ⟨a, e3, ?_, q⟩
    rw [List.getD_eq_getElem?_getD, List.getElem?_map, hp i a e3]
    rfl
end
/-- THE RULE for a def that lets no error out: its body's mirror -/
theorem GOk.def0 {P : Program} {w : World} {K : PySem.W.Frag} {mg : Str → Option Value} {base : Heap} {k : Nat} {f : Addr} {fd : FuncData} {ps N : List Str} {name qual : Str} {st : Stmt} {nl : Nat} {body : SM} (Fu : Fun K name qual st f fd) (S : FnScope N ps (defScope st))
    (hN : N.length = ps.length + nl)
    (hb : ∀ (cdv : Value) (A : Around) (outer : List PySem.Env) (s : Shared) (H : Hp) (E : XK), A.guards = some [] → Room k (A.deeper (envOfC qual (defScope st) s.heap.objs.size f cdv)) →
      DSs (cxOf CX0 P w K mg base N qual (defScope st) f cdv A outer s H E).nox E0 (defBody st) body) : GOk P w K mg base CX0 (k + 1) f fd ps (sp0 K ps.length (runFn nl body)) := by
  refine GOk.of Fu S (fun vs H Q E z => z.1) ?_
  intro cdv A outer s H vs Q E hg hr ⟨hl, B, F, Γ, r, hp, g⟩
  obtain ⟨t, p, h⟩ := hb cdv A outer s H E hg hr
  refine ⟨t, p.nox, ?_⟩
  have hb : B.n = ps.length := by rw [← r.lσ, List.length_map, hl]
  have hΓ : Γ.length = ps.length := r.lΓ.trans hb
  have est : L2.start N vs = vs.map some ++ List.replicate nl Option.none := by
    unfold L2.start
    rw [hN, hl, Nat.add_sub_cancel_left]
  rw [est]
  refine h { B with n := B.n + nl } F H _ _ _ (r.extend nl) ?_
  unfold runFn at g
  rw [Res.good_bind] at g
  refine g.mono ?_ fun _ _ z => z.elim
  intro o ho
  cases o with
  | nx g' =>
    intro σ' F' H' r' s'
    have q := (r'.out (B := B) hl hb (by omega) hp).1
    rw [← hΓ] at q
    exact ho _ F' H' q s' .non
  | rt res g' =>
    intro v σ' F' H' r' s' rr
    obtain ⟨q1, q2⟩ := r'.out (B := B) hl hb (by omega) hp
    rw [← hΓ] at q1 q2
    refine ho v F' H' q1 s' ?_
    cases res with
    | fro d => exact rr
    | own c =>
      obtain ⟨a, e, f, u, n, k⟩ := rr
      exact ⟨a, e, f, u, fun i z => n i (q2 i a z), k⟩
  | bk g' => cases ho
  | ct g' => cases ho
end Fw

namespace Fw
open PySem L2 PySem.Spec PyProof.Rows

/-! ## a def called on data -/
def callRes (r : Res (R × List SV)) (Γ : Gm) : Res (R × Gm) := match r with
  | .ok p => .ok (p.1, Γ)
  | _ => .no
@[simp] theorem callRes_ok (p : R × List SV) (Γ : Gm) : callRes (.ok p) Γ = .ok (p.1, Γ) := rfl
@[simp] theorem callRes_no (Γ : Gm) : callRes .no Γ = .no := rfl
def eFn (m : Fn) (ms : AM) : EM := fun Γ => (ms Γ).bind fun p => callRes (m (p.1.map .d)) p.2
section
variable {X : Cx} {E : XK}
theorem rel_args {K : PySem.W.Frag} {F H : Hp} {vs : List V} {ds : List D} (s : Sub F H) (h : RpAll K F vs ds) : Rel ⟨H, F, [], vs.length⟩ K F H (vs.map some) (ds.map .d) := by
  have no : ∀ i a, ¬ Owns (vs.map some) (ds.map SV.d) i a := by
    rintro i a ⟨⟨sv, e, o⟩, _⟩
    rw [List.getElem?_map] at e
    cases q : ds[i]? with
    | none => rw [q] at e; cases e
    | some d => rw [q] at e; cases e; cases o
  refine ⟨by rw [List.length_map], by rw [List.length_map, h.length], Sub.refl _, s, Sub.refl _, fun a o e => .inl (fun z => by rw [show F a = none from z] at e; cases e), ?_, fun i j a z => (no i a z).elim, fun i a z => (no i a z).elim⟩
  intro i sv e
  rw [List.getElem?_map] at e
  cases q : ds[i]? with
  | none => rw [q] at e; cases e
  | some d =>
    rw [q] at e
    cases e
    obtain ⟨v, h1, h2⟩ := h.get q
    exact ⟨v, by rw [List.getD_eq_getElem?_getD, List.getElem?_map, h1]; rfl, h2⟩
theorem Den.fn {k : Nat} {np n : Nat} {t : TA} {m : Fn} {ms : AM} (h : DenA X E n t ms) (hn : n = np) : Den X E (gCall (sp0 X.K np m) E0 t) (eFn m ms) := by
  intro B F H σ Γ Q r g
  refine h.raw r g ?_
  intro vs ds Γ1 F1 H1 r1 s1 rps hl g1
  show sp0 X.K np m vs H1 Q E0
  have pins : ∀ (i : Nat) (a : Addr), (⟨H1, F1, [], vs.length⟩ : Bd).π.getD i none = some a → vs[i]? = some (.ref a) := fun i a z => by simp at z
  refine ⟨hl.trans hn, ⟨H1, F1, [], vs.length⟩, F1, ds.map .d, rel_args r1.fh rps, pins, ?_⟩
  cases q : m (ds.map .d) with
  | ok p =>
    simp only [q, callRes_ok, Res.good_ok] at g1
    intro v F' H' r' s' rr
    have gr : Grow F1 H1 F' H' := ⟨r'.uh, s', r'.fh, fun a o e => r'.nw a o e⟩
    refine g1 v F' H' (r1.grow gr) (s1.trans s') ?_
    cases hp : p.1 with
    | fro d => rw [hp] at rr; exact rr
    | own c =>
      rw [hp] at rr
      obtain ⟨a, e, f, u, _, k⟩ := rr
      exact NR.rr r1 (q := .own c) ⟨a, e, u, f, k⟩
  | er x g' => simp only [q] at g1; exact g1.elim
  | no => simp only [q] at g1; exact g1.elim
theorem de_fn {k np : Nat} {f : Addr} {fd : FuncData} {ps : List Str} {m : Fn} {x : Str} {e : Expr} {es : List Expr} {ms : AM} {p pos : Pos} (G : GOk X.prog X.w X.K X.mg X.base CX0 k f fd ps (sp0 X.K np m)) (ha : DA X E (e :: es) ms)
    (hgd : X.A.guards = some []) (hr : Room k X.A) (hb : Binds X.K fd ps []) (hm : X.mg x = some (.ref f)) (hk : PySem.W.keepIn X.K (.ref f) = true) (hn : (e :: es).length = np := by rfl) (hg : Gl X x := by rfl)
    (hdb : (x == ("__debug__" : Str)) = false := by decide) (he : starEach (e :: es) X.env = (false, eval e X.env) :: starEach es X.env := by rfl) (hpl : (backTo pos (starEach es X.env)).any (·.1) = false := by rfl) :
    DE X E (.Call (.Name x p) (e :: es) [] pos) (eFn m ms) := by
  obtain ⟨t, pa, h⟩ := ha
  exact ⟨_, ge_call G hgd hr hb pass0 hg hm hk pa hdb he hpl, Den.fn (k := k) h hn⟩
theorem de_fn0 {k np : Nat} {f : Addr} {fd : FuncData} {ps : List Str} {m : Fn} {x : Str} {p pos : Pos} (G : GOk X.prog X.w X.K X.mg X.base CX0 k f fd ps (sp0 X.K np m))
    (hgd : X.A.guards = some []) (hr : Room k X.A) (hb : Binds X.K fd ps []) (hm : X.mg x = some (.ref f)) (hk : PySem.W.keepIn X.K (.ref f) = true) (hn : 0 = np := by rfl) (hg : Gl X x := by rfl)
    (hdb : (x == ("__debug__" : Str)) = false := by decide) : DE X E (.Call (.Name x p) [] [] pos) (eFn m aNil) := by
  refine ⟨_, ge_call0 G hgd hr hb pass0 hg hm hk hdb, Den.fn (k := k) (n := 0) ?_ hn⟩
  exact fun B F H σ Γ Q r g => g [] F H r (Sub.refl _) .nil rfl
end

/-! ## what is walked -/
abbrev IM := Gm → Res (List D × Gm)
def ItOk (K : PySem.W.Frag) (J : It) (F : Hp) (ds : List D) : Prop := ∀ F2 H2, Sub F F2 → Sub F2 H2 → ∀ i,
  (∀ d, ds[i]? = some d → J.go i H2 ∧ ∀ x H3, J.yld i H2 x H3 → ∃ F3, Grow F2 H2 F3 H3 ∧ Rp K F3 x d) ∧ (ds.length ≤ i → J.stop i H2)
def DenI (X : Cx) (E : XK) (wi : TI) (m : IM) : Prop := ∀ (B : Bd) (F H : Hp) (σ : L2.St) (Γ : Gm) (Rk : It → Hp → Prop), Rel B X.K F H σ Γ →
  (m Γ).good (fun p => ∀ J F' H', Rel B X.K F' H' σ p.2 → Sub F F' → ItOk X.K J F' p.1 → Rk J H') (XPx X B F E) → wi σ H Rk
def DI (X : Cx) (E : XK) (tg it : Expr) (m : IM) : Prop := ∃ wi, PI X tg it wi ∧ DenI X E wi m
def strD (z : Str) : List D := z.cps.toList.map fun c => .str ⟨#[c]⟩
def itemsD : D → Option (List D)
  | .list xs => some xs
  | .tuple xs => some xs
  | .str z => some (strD z)
  | _ => none
def iAny (m : EM) : IM := opd m fun d Γ => match itemsD d with
  | some ds => .ok (ds, Γ)
  | none => .no
def rangeD (lo : Int) (n : Nat) : List D := (List.range n).map fun i => .int (lo + (i : Nat))
def iR1 (ms : AM) : IM := fun Γ => (ms Γ).bind fun p => match p.1 with
  | [.int j] => if j < 2 ^ 62 ∧ -(2 ^ 62) ≤ j then .ok (rangeD 0 j.toNat, p.2) else .no
  | _ => .no
def iR2 (ms : AM) : IM := fun Γ => (ms Γ).bind fun p => match p.1 with
  | [.int i, .int j] => if -(2 ^ 62) ≤ i ∧ i < 2 ^ 62 ∧ -(2 ^ 62) ≤ j ∧ j < 2 ^ 62 then .ok (rangeD i (j - i).toNat, p.2) else .no
  | _ => .no
section
variable {X : Cx} {E : XK} {K : PySem.W.Frag} {F : Hp}
theorem ItOk.list {a : Addr} {xs : List V} {ds : List D} (h : SqL K F a xs) (r : RpAll K F xs ds) : ItOk K (Itl K a) F ds := by
  intro F2 H2 s1 s2 i
  have hl := s2.l (s1.l h)
  constructor
  · intro d e
    obtain ⟨v, h1, h2⟩ := r.get e
    refine ⟨⟨xs, v, hl, h1⟩, ?_⟩
    rintro x H3 ⟨e3, q⟩
    subst e3
    have e4 := q xs hl
    rw [h1] at e4
    cases e4
    exact ⟨F2, .refl s2, h2.mono s1⟩
  · intro hi
    exact ⟨xs, hl, by rw [r.length]; exact hi⟩
theorem ItOk.tup {a : Addr} {xs : List V} {ds : List D} (h : SqT K F a xs) (r : RpAll K F xs ds) : ItOk K (Itt K a) F ds := by
  intro F2 H2 s1 s2 i
  have hl := s2.t (s1.t h)
  constructor
  · intro d e
    obtain ⟨v, h1, h2⟩ := r.get e
    refine ⟨⟨xs, v, hl, h1⟩, ?_⟩
    rintro x H3 ⟨e3, q⟩
    subst e3
    have e4 := q xs hl
    rw [h1] at e4
    cases e4
    exact ⟨F2, .refl s2, h2.mono s1⟩
  · intro hi
    exact ⟨xs, hl, by rw [r.length]; exact hi⟩
theorem ItOk.str {z : Str} : ItOk K (Its z) F (strD z) := by
  intro F2 H2 s1 s2 i
  constructor
  · intro d e
    unfold strD at e
    rw [List.getElem?_map] at e
    cases q : z.cps.toList[i]? with
    | none => rw [q] at e; cases e
    | some c =>
      rw [q] at e
      cases e
      rw [Array.getElem?_toList] at q
      refine ⟨(Array.getElem?_eq_some_iff.mp q).1, ?_⟩
      rintro x H3 ⟨e3, c', q', e4⟩
      subst e3
      rw [q] at q'
      cases q'
      subst e4
      exact ⟨F2, .refl s2, .str _⟩
  · intro hi
    unfold strD at hi
    rw [List.length_map, Array.length_toList] at hi
    exact hi
theorem ItOk.range {lo : Int} {n : Nat} : ItOk K (Itr lo n) F (rangeD lo n) := by
  intro F2 H2 s1 s2 i
  constructor
  · intro d e
    unfold rangeD at e
    rw [List.getElem?_map] at e
    cases q : (List.range n)[i]? with
    | none => rw [q] at e; cases e
    | some c =>
      rw [q] at e
      cases e
      have hi := (List.getElem?_eq_some_iff.mp q).1
      rw [List.length_range] at hi
      rw [List.getElem?_range hi] at q
      cases q
      refine ⟨hi, ?_⟩
      rintro x H3 ⟨e3, e4⟩
      subst e3 e4
      exact ⟨F2, .refl s2, .int _⟩
  · intro hi
    unfold rangeD at hi
    rw [List.length_map, List.length_range] at hi
    exact hi
def wOr (a b : TI) : TI := fun σ H R => a σ H R ∨ b σ H R
theorem PI.or {tg it : Expr} {a b : TI} (ha : PI X tg it a) (hb : PI X tg it b) : PI X tg it (wOr a b) :=
  ⟨fun pins s σ H R I h => h.elim (ha.run pins s σ H R I) (hb.run pins s σ H R I)⟩
/-- the values that are read as data, one kind each -/
theorem Den.kinds {t : TE} {m : EM} (h : Den X E t m) (hd : ∀ Γ kk kx, (m Γ).good kk kx → True) : True := trivial
/-- one of three readings, by the data's kind: the kind is told ahead -/
def kindOfD (m : EM) (Γ : Gm) : Nat := match m Γ with
  | .ok p => (match p.1.dat with | .list _ => 0 | .tuple _ => 1 | .str _ => 2 | _ => 3)
  | _ => 3
theorem di_any {tg e : Expr} {m : EM} (h : DE X E e m) : DI X E tg e (iAny m) := by
  obtain ⟨t, p, h⟩ := h
  refine ⟨_, PI.or (pi_list p) (PI.or (pi_tup p) (pi_str p)), ?_⟩
  intro B F H σ Γ Rk r g
  unfold iAny opd at g
  cases q : m Γ with
  | er x g' =>
    rw [q] at g
    refine .inl (h B F H σ Γ _ r ?_)
    rw [q]; exact g
  | no => rw [q] at g; cases g
  | ok p =>
    rw [q] at g
    simp only [Res.bind_ok] at g
    have go : ∀ (P : V → Hp → Prop), (∀ v F1 H1, Rel B X.K F1 H1 σ p.2 → Sub F F1 → Rp X.K F1 v p.1.dat → P v H1) → t σ H P := by
      intro P hP
      refine h B F H σ Γ _ r ?_
      rw [q]
      intro v F' H' r' s' rr
      obtain ⟨F2, r2, s2, rp⟩ := rr.freeze r'
      exact hP v F2 H' r2 (s'.trans s2) rp
    cases hd : p.1.dat with
    | list xs =>
      rw [hd] at g go
      refine .inl (go _ ?_)
      intro v F1 H1 r1 s1 rp
      obtain ⟨a, ys, e1, h1, p1⟩ := rp.lstv
      subst e1
      exact ⟨a, rfl, ⟨ys, r1.fh.l h1⟩, g _ F1 H1 r1 s1 (.list h1 p1)⟩
    | tuple xs =>
      rw [hd] at g go
      refine .inr (.inl (go _ ?_))
      intro v F1 H1 r1 s1 rp
      obtain ⟨a, ys, e1, h1, p1⟩ := rp.tupv
      subst e1
      exact ⟨a, rfl, ⟨ys, r1.fh.t h1⟩, g _ F1 H1 r1 s1 (.tup h1 p1)⟩
    | str z =>
      rw [hd] at g go
      refine .inr (.inr (go _ ?_))
      intro v F1 H1 r1 s1 rp
      exact ⟨z, rp.strv, g _ F1 H1 r1 s1 .str⟩
    | _ => rw [hd] at g; cases g
theorem di_r1 {tg a : Expr} {ms : AM} {p pos : Pos} (ha : DA X E [a] ms) (hm : X.mg "range" = none) (hg : Gl X "range" := by rfl) (hs : starEach [a] X.env = [(false, eval a X.env)] := by rfl) : DI X E tg (.Call (.Name "range" p) [a] [] pos) (iR1 ms) := by
  obtain ⟨t, pa, h⟩ := ha
  refine ⟨_, pi_range1 hg hm pa hs, ?_⟩
  intro B F H σ Γ Rk r g
  refine h.raw r g ?_
  intro vs ds Γ1 F1 H1 r1 s1 rps hl g1
  split at g1
  · rename_i j e
    subst e
    split at g1
    · rename_i hc
      cases rps with
      | cons q t =>
        cases t
        exact ⟨j, by rw [q.intv], hc.2, hc.1, g1 _ F1 H1 r1 s1 .range⟩
    · cases g1
  · cases g1
theorem di_r2 {tg a b : Expr} {ms : AM} {p pos : Pos} (ha : DA X E [a, b] ms) (hm : X.mg "range" = none) (hg : Gl X "range" := by rfl) (hs : starEach [a, b] X.env = [(false, eval a X.env), (false, eval b X.env)] := by rfl)
    (hs2 : starEach [b] X.env = [(false, eval b X.env)] := by rfl) : DI X E tg (.Call (.Name "range" p) [a, b] [] pos) (iR2 ms) := by
  obtain ⟨t, pa, h⟩ := ha
  refine ⟨_, pi_range2 hg hm pa hs hs2, ?_⟩
  intro B F H σ Γ Rk r g
  refine h.raw r g ?_
  intro vs ds Γ1 F1 H1 r1 s1 rps hl g1
  split at g1
  · rename_i i j e
    subst e
    split at g1
    · rename_i hc
      cases rps with
      | cons q t =>
        cases t with
        | cons q2 t =>
          cases t
          exact ⟨i, j, by rw [q.intv, q2.intv], hc, g1 _ F1 H1 r1 s1 .range⟩
    · cases g1
  · cases g1
end

/-! ## targets -/
abbrev BM := D → Gm → Res Gm
def Agree (js : List Nat) (σ σ' : L2.St) : Prop := σ'.length = σ.length ∧ ∀ i, i ∉ js → σ'[i]? = σ[i]?
def DenG (X : Cx) (g : TG) (js : List Nat) (b : BM) : Prop := ∀ (B : Bd) (F H : Hp) (σ : L2.St) (Γ : Gm) (v : V) (d : D) (Q : L2.St → Hp → Prop), Rel B X.K F H σ Γ → Rp X.K F v d →
  (b d Γ).good (fun Γ' => ∀ σ', Rel B X.K F H σ' Γ' → Agree js σ σ' → Q σ' H) (fun _ _ => False) → g v σ H Q
def DG (X : Cx) (tg : Expr) (js : List Nat) (b : BM) : Prop := ∃ g, PG X tg g ∧ DenG X g js b
def bName (j : Nat) : BM := fun d Γ => .ok (Γ.set j (.d d))
def bNames : List Nat → List D → Gm → Res Gm
  | [], [], Γ => .ok Γ
  | j :: js, d :: ds, Γ => bNames js ds (Γ.set j (.d d))
  | _, _, _ => .no
def bTup (js : List Nat) : BM := fun d Γ => match d with
  | .tuple ds => bNames js ds Γ
  | _ => .no
section
variable {X : Cx}
theorem Agree.refl {js : List Nat} (σ : L2.St) : Agree js σ σ := ⟨rfl, fun _ _ => rfl⟩
theorem Agree.set {js : List Nat} {σ : L2.St} {j : Nat} {v : Option V} (h : j ∈ js) : Agree js σ (σ.set j v) :=
  ⟨by rw [List.length_set], fun i hi => List.getElem?_set_ne (fun e => hi (by rw [← e]; exact h))⟩
theorem Agree.trans {js : List Nat} {σ σ1 σ2 : L2.St} (a : Agree js σ σ1) (b : Agree js σ1 σ2) : Agree js σ σ2 := ⟨b.1.trans a.1, fun i hi => (b.2 i hi).trans (a.2 i hi)⟩
theorem Agree.mono {js ks : List Nat} {σ σ' : L2.St} (a : Agree js σ σ') (h : ∀ j ∈ js, j ∈ ks) : Agree ks σ σ' := ⟨a.1, fun i hi => a.2 i fun z => hi (h i z)⟩
theorem dg_name {i : Nat} {x : Str} {pos : Pos} (hN : X.N.Nodup) (hi : X.N[i]? = some x) (hx : Loc X.env.scope x) (hf : X.fn x = true ∨ X.env.scope.names.lookup x = some .local := by first | exact .inl rfl | exact .inr rfl | assumption) : DG X (.Name x pos) [i] (bName i) := by
  refine ⟨_, pg_name hN hi hx hf, ?_⟩
  intro B F H σ Γ v d Q r rp g
  exact g _ (r.set (q := .fro d) rp) (.set (by simp))
/-- several names -/
def DenGs (X : Cx) (g : TGs) (js : List Nat) : Prop := ∀ (B : Bd) (F H : Hp) (σ : L2.St) (Γ : Gm) (vs : List V) (ds : List D) (Q : L2.St → Hp → Prop), Rel B X.K F H σ Γ → RpAll X.K F vs ds →
  (bNames js ds Γ).good (fun Γ' => ∀ σ', Rel B X.K F H σ' Γ' → Agree js σ σ' → Q σ' H) (fun _ _ => False) → g vs σ H Q
def DGs (X : Cx) (tgs : List Expr) (js : List Nat) : Prop := ∃ g, PGs X tgs g ∧ DenGs X g js
theorem dgs_nil : DGs X [] [] := by
  refine ⟨_, pgs_nil, ?_⟩
  intro B F H σ Γ vs ds Q r rp g
  cases rp with
  | nil => exact ⟨rfl, g σ r (.refl _)⟩
  | cons _ _ => cases g
theorem dgs_cons {i : Nat} {x : Str} {pos : Pos} {tgs : List Expr} {js : List Nat} (h : DGs X tgs js) (hN : X.N.Nodup) (hi : X.N[i]? = some x) (hx : Loc X.env.scope x)
    (hf : X.fn x = true ∨ X.env.scope.names.lookup x = some .local := by first | exact .inl rfl | exact .inr rfl | assumption) : DGs X (.Name x pos :: tgs) (i :: js) := by
  obtain ⟨gs, p, h⟩ := h
  refine ⟨_, pgs_cons (pg_name hN hi hx hf) p, ?_⟩
  intro B F H σ Γ vs ds Q r rp g
  cases rp with
  | nil => cases g
  | cons q t =>
    refine ⟨_, _, rfl, ?_⟩
    refine h B F H _ _ _ _ _ (r.set (q := .fro _) q) t ?_
    refine Res.good.mono g (fun Γ' k σ' r' a => k σ' r' ?_) fun _ _ z => z
    exact Agree.trans (.set (by simp)) (a.mono fun j hj => List.mem_cons_of_mem _ hj)
end
end Fw

namespace Fw
open PySem L2 PySem.Spec PyProof.Rows

/-! ## list comprehensions -/
def Res.noEr {α : Type} (r : Res α) : Res α := match r with
  | .ok a => .ok a
  | _ => .no
@[simp] theorem Res.noEr_ok {α : Type} (a : α) : (Res.ok a).noEr = .ok a := rfl
theorem Res.noEr_good {α β : Type} {r : Res α} {k : α → Res β} {kk : β → Prop} {kx : Ex → Gm → Prop} (h : (r.noEr.bind k).good kk kx) : r.good (fun a => (k a).good kk kx) (fun _ _ => False) := by
  cases r with
  | ok a => exact h
  | er x g => exact h
  | no => exact h
def wipeG (Γ : Gm) : List Nat → Gm
  | [] => Γ
  | v :: vs => (wipeG Γ vs).set v .no
/-- the slots of a block's own names as they were, where they hold data -/
def backG (Γ0 Γ : Gm) : List Nat → Gm
  | [] => Γ
  | v :: vs => match Γ0[v]? with
    | some (.d d) => (backG Γ0 Γ vs).set v (.d d)
    | _ => backG Γ0 Γ vs
def lcGo (b : BM) (tt : TM) (me : EM) (vs : List Nat) : List D → Gm → List D → Res (List D × Gm)
  | [], Γ, acc => .ok (acc, Γ)
  | d :: ds, Γ, acc => (b d Γ).noEr.bind fun Γ1 => (tt Γ1).noEr.bind fun p => if p.1 = true then (me p.2).noEr.bind fun q => lcGo b tt me vs ds (wipeG q.2 vs) (acc ++ [q.1.dat]) else lcGo b tt me vs ds (wipeG p.2 vs) acc
def eLc (mi : IM) (b : BM) (tt : TM) (me : EM) (vs : List Nat) : EM := fun Γ => (mi Γ).bind fun p => if p.1.length ≤ lim then
  (lcGo b tt me vs p.1 (wipeG p.2 vs) []).bind fun q => .ok (.own (.lst q.1), backG p.2 q.2 vs) else .no
def tYesM : TM := fun Γ => .ok (true, Γ)
section
variable {B : Bd} {K : PySem.W.Frag} {F H : Hp} {σ : L2.St} {Γ : Gm}
theorem Rel.reslot (r : Rel B K F H σ Γ) {σ' : L2.St} (hl : σ'.length = σ.length) (h : ∀ i : Nat, σ'[i]? ≠ σ[i]? → Γ[i]? = some SV.no) : Rel B K F H σ' Γ := by
  have same : ∀ {i : Nat} {sv : SV}, Γ[i]? = some sv → sv ≠ .no → σ'[i]? = σ[i]? := by
    intro i sv e n
    by_cases q : σ'[i]? = σ[i]?
    · exact q
    · rw [h i q] at e
      cases e
      exact (n rfl).elim
  have ow : ∀ {i : Nat} {a : Addr}, Owns σ' Γ i a → Owns σ Γ i a := by
    rintro i a ⟨⟨sv, e, o⟩, e2⟩
    rw [same e (by intro z; subst z; cases o)] at e2
    exact ⟨⟨sv, e, o⟩, e2⟩
  refine ⟨hl.trans r.lσ, r.lΓ, r.uh, r.fh, r.f0, r.nw, ?_, fun i j a h1 h2 => r.inj i j a (ow h1) (ow h2), fun i a h => r.ofr i a (ow h)⟩
  intro i sv e
  by_cases n : sv = .no
  · subst n; trivial
  · have q := r.sl i sv e
    have e2 : σ'.getD i none = σ.getD i none := by rw [List.getD_eq_getElem?_getD, List.getD_eq_getElem?_getD, same e n]
    rw [e2]
    exact q
theorem wipe_at (σ : L2.St) (vs : List Nat) (i : Nat) : (wipe σ vs)[i]? = if i ∈ vs ∧ i < σ.length then some none else σ[i]? := by
  induction vs with
  | nil => simp [wipe]
  | cons v vs ih =>
    unfold wipe
    rw [List.getElem?_set]
    by_cases hv : v = i
    · subst hv
      by_cases hi : v < σ.length
      · simp [wipe_length, hi]
      · simp [wipe_length, hi]
    · rw [if_neg hv, ih]
      have : (i ∈ v :: vs) ↔ i ∈ vs := ⟨fun z => (List.mem_cons.mp z).resolve_left fun e => hv e.symm, List.mem_cons_of_mem _⟩
      simp [this]
theorem wipeG_len (Γ : Gm) (vs : List Nat) : (wipeG Γ vs).length = Γ.length := by
  induction vs with
  | nil => rfl
  | cons v vs ih => unfold wipeG; rw [List.length_set, ih]
theorem wipeG_at (Γ : Gm) (vs : List Nat) (i : Nat) : (wipeG Γ vs)[i]? = if i ∈ vs ∧ i < Γ.length then some .no else Γ[i]? := by
  induction vs with
  | nil => simp [wipeG]
  | cons v vs ih =>
    unfold wipeG
    rw [List.getElem?_set]
    by_cases hv : v = i
    · subst hv
      by_cases hi : v < Γ.length
      · simp [wipeG_len, hi]
      · simp [wipeG_len, hi]
    · rw [if_neg hv, ih]
      have : (i ∈ v :: vs) ↔ i ∈ vs := ⟨fun z => (List.mem_cons.mp z).resolve_left fun e => hv e.symm, List.mem_cons_of_mem _⟩
      simp [this]
theorem wipeG_no {Γ : Gm} {vs : List Nat} {i : Nat} {sv : SV} (h : i ∈ vs) (e : (wipeG Γ vs)[i]? = some sv) : sv = .no := by
  rw [wipeG_at] at e
  split at e
  · cases e; rfl
  · rename_i n
    have : i < Γ.length := by
      have := (List.getElem?_eq_some_iff.mp e).1
      exact this
    exact (n ⟨h, this⟩).elim
theorem backG_own {Γ0 Γ : Gm} {vs : List Nat} {i : Nat} {sv : SV} (e : (backG Γ0 Γ vs)[i]? = some sv) (o : sv.owned = true) : Γ[i]? = some sv := by
  induction vs with
  | nil => exact e
  | cons v vs ih =>
    unfold backG at e
    split at e
    · rw [List.getElem?_set] at e
      split at e
      · split at e
        · cases e; cases o
        · cases e
      · exact ih e
    · exact ih e
theorem weak_wipeG (Γ : Gm) (vs : List Nat) : Weak Γ (wipeG Γ vs) := by
  refine ⟨(wipeG_len Γ vs).symm, fun i sv e => ?_⟩
  rw [wipeG_at] at e
  split at e
  · cases e; exact .inl rfl
  · exact .inr e
theorem Rel.wipe (r : Rel B K F H σ Γ) {σ' : L2.St} (vs : List Nat) (a : Agree vs σ σ') : Rel B K F H σ' (wipeG Γ vs) := by
  refine (r.weak (weak_wipeG Γ vs)).reslot a.1 ?_
  intro i h
  by_cases hi : i ∈ vs
  · rw [wipeG_at]
    by_cases hl : i < Γ.length
    · rw [if_pos ⟨hi, hl⟩]
    · refine (h ?_).elim
      have h1 : σ.length ≤ i := by rw [r.len]; omega
      rw [List.getElem?_eq_none h1, List.getElem?_eq_none (by rw [a.1]; exact h1)]
  · exact (h (a.2 i hi)).elim
theorem agree_wipe (σ : L2.St) (vs : List Nat) : Agree vs σ (L2.wipe σ vs) := by
  refine ⟨wipe_length σ vs, fun i hi => ?_⟩
  rw [wipe_at, if_neg (fun z => hi z.1)]
theorem wipe_eq {σ σ' : L2.St} {vs : List Nat} (a : Agree vs σ σ') : L2.wipe σ' vs = L2.wipe σ vs := by
  refine List.ext_getElem? fun i => ?_
  rw [wipe_at, wipe_at, a.1]
  by_cases h : i ∈ vs ∧ i < σ.length
  · rw [if_pos h, if_pos h]
  · rw [if_neg h, if_neg h]
    by_cases hi : i ∈ vs
    · have h1 : σ.length ≤ i := by
        have : ¬ i < σ.length := fun z => h ⟨hi, z⟩
        omega
      rw [List.getElem?_eq_none h1, List.getElem?_eq_none (by rw [a.1]; exact h1)]
    · exact a.2 i hi
theorem Rel.back (r : Rel B K F H σ Γ) (vs : List Nat) {Γ0 : Gm} (h0 : ∀ (i : Nat) (d : D), Γ0[i]? = some (SV.d d) → ∃ v, σ[i]? = some (some v) ∧ Rp K F v d) : Rel B K F H σ (backG Γ0 Γ vs) := by
  induction vs with
  | nil => exact r
  | cons v vs ih =>
    unfold backG
    split
    · rename_i d e
      obtain ⟨x, h1, h2⟩ := h0 v d e
      exact ih.put (q := .fro d) h2 h1
    · exact ih
/-- a protected object changes -/
theorem Rel.bump {p : Addr} {o o' : HO} (r : Rel { B with U := upd B.U p o } K F H σ Γ) (hf : F p = none) : Rel { B with U := upd B.U p o' } K F (upd H p o') σ Γ := by
  have ne : ∀ {i a}, Owns σ Γ i a → a ≠ p := by
    intro i a h e
    have := (r.ofr i a h).2
    subst e
    rw [show ({ B with U := upd B.U a o } : Bd).U a = some o from upd_same] at this
    cases this
  refine ⟨r.lσ, r.lΓ, ?_, ?_, r.f0, ?_, ?_, r.inj, ?_⟩
  · intro a u e
    by_cases q : a = p
    · subst q
      rw [upd_same]
      rw [show ({ B with U := upd B.U a o' } : Bd).U a = some o' from upd_same] at e
      exact e
    · have e' : B.U a = some u := (upd_ne q).symm.trans e
      rw [upd_ne q]
      exact r.uh a u ((upd_ne q).trans e')
  · intro a u e
    rw [upd_ne (ne_of_none e hf)]
    exact r.fh a u e
  · intro a u e
    rcases r.nw a u e with h | h
    · exact .inl h
    · right
      have q : a ≠ p := ne_of_none e hf
      exact (upd_ne q).trans ((upd_ne q).symm.trans h)
  · intro i sv e
    refine (r.sl i sv e).mono (Sub.refl _) fun ow a ea => ?_
    have hs : σ[i]? = some (some (.ref a)) := by
      rw [List.getD_eq_getElem?_getD] at ea
      cases q : σ[i]? with
      | none => rw [q] at ea; cases ea
      | some w => rw [q] at ea; exact congrArg some ea
    exact upd_ne (ne ⟨⟨sv, e, ow⟩, hs⟩)
  · intro i a h
    have := r.ofr i a h
    refine ⟨this.1, ?_⟩
    exact (upd_ne (ne h)).trans ((upd_ne (ne h)).symm.trans this.2)
/-- a new object is laid and protected -/
theorem Rel.guard {p : Addr} {o : HO} (r : Rel B K F H σ Γ) (hp : H p = none) : Rel { B with U := upd B.U p o } K F (upd H p o) σ Γ := by
  have g := Grow.new (F := F) (o := o) r.fh hp
  have r' := r.grow g
  have ne : ∀ {i a}, Owns σ Γ i a → a ≠ p := by
    intro i a h e
    obtain ⟨u, hu⟩ := h.some r
    subst e
    rw [hu] at hp; cases hp
  refine ⟨r.lσ, r.lΓ, ?_, r'.fh, r.f0, ?_, r'.sl, r.inj, ?_⟩
  · intro a u e
    by_cases q : a = p
    · subst q
      rw [upd_same]
      exact (show ({ B with U := upd B.U a o } : Bd).U a = some o from upd_same).symm.trans e
    · exact r'.uh a u ((upd_ne q).symm.trans e)
  · intro a u e
    rcases r.nw a u e with h | h
    · exact .inl h
    · have q : a ≠ p := fun z => by subst z; rw [r.fh.ne hp] at e; cases e
      exact .inr ((upd_ne q).trans h)
  · intro i a h
    exact ⟨(r.ofr i a h).1, (upd_ne (ne h)).trans (r.ofr i a h).2⟩
theorem Rel.unguard {p : Addr} {o : HO} (r : Rel { B with U := upd B.U p o } K F H σ Γ) (hu : B.U p = none) : Rel B K F H σ Γ := by
  have ne : ∀ {i a}, Owns σ Γ i a → a ≠ p := by
    intro i a h e
    have := (r.ofr i a h).2
    subst e
    rw [show ({ B with U := upd B.U a o } : Bd).U a = some o from upd_same] at this
    cases this
  have back : ∀ {a}, upd B.U p o a = none → B.U a = none := by
    intro a h
    by_cases q : a = p
    · subst q; exact hu
    · exact (upd_ne q).symm.trans h
  refine ⟨r.lσ, r.lΓ, ?_, r.fh, r.f0, ?_, r.sl, r.inj, ?_⟩
  · intro a u e
    refine r.uh a u ?_
    have q : a ≠ p := fun z => by subst z; rw [hu] at e; cases e
    exact (upd_ne q).trans e
  · intro a u e
    exact (r.nw a u e).imp id back
  · intro i a h
    exact ⟨(r.ofr i a h).1, back (r.ofr i a h).2⟩
end
section
variable {X : Cx} {E : XK}
def DTs (X : Cx) (E : XK) (ifs : List Expr) (m : TM) : Prop := ∃ t, PTs X ifs t ∧ DenT X E t m
theorem dts_nil : DTs X E [] tYesM := ⟨_, pts_nil, fun B F H σ Γ Q r g => g F H r (Sub.refl _)⟩
theorem dts_one {c : Expr} {m : TM} (h : DT X E c m) : DTs X E [c] m := by obtain ⟨t, p, h⟩ := h; exact ⟨_, pts_one p, h⟩
/-- canonical readings -/
def tE (K : PySem.W.Frag) (mg : Str → Option Value) (E : XK) (m : EM) : TE := fun σ H Q => ∃ B F Γ, Rel B K F H σ Γ ∧ (m Γ).good (fun p => ∀ v F' H', Rel B K F' H' σ p.2 → Sub F F' → RR B K F' H' σ p.2 v p.1 → Q v H') (XP K mg B F E)
def tT (K : PySem.W.Frag) (mg : Str → Option Value) (E : XK) (m : TM) : TT := fun σ H Q => ∃ B F Γ, Rel B K F H σ Γ ∧ (m Γ).good (fun p => ∀ F' H', Rel B K F' H' σ p.2 → Sub F F' → Q p.1 H') (XP K mg B F E)
def tGo (K : PySem.W.Frag) (js : List Nat) (b : BM) : TG := fun v σ H Q => ∃ B F Γ d, Rel B K F H σ Γ ∧ Rp K F v d ∧ (b d Γ).good (fun Γ' => ∀ σ', Rel B K F H σ' Γ' → Agree js σ σ' → Q σ' H) (fun _ _ => False)
theorem DE.pe {e : Expr} {m : EM} (h : DE X E e m) : PE X e (tE X.K X.mg E m) := by
  obtain ⟨t, p, h⟩ := h
  exact ⟨fun pins s σ H Q I ⟨B, F, Γ, r, g⟩ => p.run pins s σ H Q I (h B F H σ Γ Q r g)⟩
theorem DTs.pts {e : List Expr} {m : TM} (h : DTs X E e m) : PTs X e (tT X.K X.mg E m) := by
  obtain ⟨t, p, h⟩ := h
  exact ⟨fun pins s σ H Q I ⟨B, F, Γ, r, g⟩ => p.run pins s σ H Q I (h B F H σ Γ Q r g)⟩
theorem DG.pg {tg : Expr} {js : List Nat} {b : BM} (h : DG X tg js b) : PG X tg (tGo X.K js b) := by
  obtain ⟨t, p, h⟩ := h
  exact ⟨fun pins s σ H v u Q I rv ⟨B, F, Γ, d, r, rp, g⟩ => p.run pins s σ H v u Q I rv (h B F H σ Γ v d Q r rp g)⟩
/-- the reading of a comprehension -/
theorem Den.lc {wi : TI} {vs js : List Nat} {mi : IM} {b : BM} {mt : TM} {me : EM} (hi : DenI X E wi mi) (hj : ∀ j ∈ js, j ∈ vs) : Den X E (tLc wi (tGo X.K js b) (tT X.K X.mg E0 mt) (tE X.K X.mg E0 me) vs) (eLc mi b mt me vs) := by
  intro B F H σ Γ Q r gd
  unfold eLc at gd
  rw [Res.good_bind] at gd
  refine hi B F H σ Γ _ r (gd.mono ?_ fun _ _ z => z)
  intro p gp J F1 H1 r1 s1 ok Dl hD
  split at gp
  · rename_i hlen
    rw [Res.good_bind] at gp
    have hF1 : F1 Dl = none := r1.fh.ne hD
    have hF0 : B.F0 Dl = none := r1.f0.ne hF1
    have hU : B.U Dl = none := r1.uh.ne hD
    -- what a turn begins with
    let W : Nat → Nat → Hp → Prop := fun i m H => m = p.1.length - i ∧ i ≤ p.1.length ∧ ∃ F2 Γ2 vacc dacc, Rel { B with U := upd B.U Dl (.lst vacc) } X.K F2 H (L2.wipe σ vs) Γ2 ∧ Sub F1 F2 ∧ RpAll X.K F2 vacc dacc ∧ vacc.length ≤ i ∧ (∀ (j : Nat) (sv : SV), j ∈ vs → Γ2[j]? = some sv → sv = SV.no) ∧
      (lcGo b mt me vs (p.1.drop i) Γ2 dacc).good (fun q => (Res.ok (R.own (.lst q.1), backG p.2 q.2 vs) : Res (R × Gm)).good (fun p => ∀ v F' H', Rel B X.K F' H' σ p.2 → Sub F F' → RR B X.K F' H' σ p.2 v p.1 → Q v H') (XPx X B F E)) (XPx X B F E)
    have noF : ∀ {σ2 F2 H2 Γ2 o}, Rel { B with U := upd B.U Dl o } X.K F2 H2 σ2 Γ2 → F2 Dl = none := by
      intro σ2 F2 H2 Γ2 o r2
      cases q : F2 Dl with
      | none => rfl
      | some u =>
        rcases r2.nw Dl u q with z | z
        · exact absurd hF0 z
        · rw [show ({ B with U := upd B.U Dl o } : Bd).U Dl = some o from upd_same] at z
          cases z
    refine ⟨W, ⟨p.1.length, by simp, Nat.zero_le _, F1, wipeG p.2 vs, [], [], ?_, Sub.refl _, .nil, Nat.le_refl _, fun _ _ h e => wipeG_no h e, gp⟩, ?_⟩
    · exact (r1.guard hD).wipe vs (agree_wipe σ vs)
    · rintro i m H2 ⟨rfl, hi', F2, Γ2, vacc, dacc, r2, s2, ra, hacc, hno, g2⟩
      have hit := ok F2 H2 s2 r2.fh i
      by_cases hlt : i < p.1.length
      · obtain ⟨d, hd⟩ : ∃ d, p.1[i]? = some d := ⟨_, List.getElem?_eq_getElem hlt⟩
        obtain ⟨go, yl⟩ := hit.1 d hd
        have hdrop : p.1.drop i = d :: p.1.drop (i + 1) := by
          rw [List.drop_eq_getElem_cons hlt]
          rw [List.getElem?_eq_getElem hlt] at hd
          cases hd
          rfl
        rw [hdrop] at g2
        unfold lcGo at g2
        have g3 := Res.noEr_good g2
        refine .inr ⟨go, fun H' => W (i + 1) (p.1.length - (i + 1)) H', fun H' w => ⟨_, by omega, w⟩, ?_⟩
        intro x H3 hy
        obtain ⟨F3, gr, rx⟩ := yl x H3 hy
        have r3 := r2.grow gr
        have agree : ∀ {σ2 : L2.St}, Agree js (L2.wipe σ vs) σ2 → Agree vs (L2.wipe σ vs) σ2 := fun a => a.mono hj
        have wip : ∀ {σ2 : L2.St}, Agree vs (L2.wipe σ vs) σ2 → L2.wipe σ2 vs = L2.wipe σ vs := fun a => (wipe_eq a).trans (wipe_eq (agree_wipe σ vs))
        have backA : ∀ {σ2 : L2.St}, Agree vs (L2.wipe σ vs) σ2 → Agree vs σ2 (L2.wipe σ vs) := fun a => ⟨a.1.symm, fun i hi => (a.2 i hi).symm⟩
        refine ⟨_, F3, Γ2, d, r3, rx, g3.mono ?_ fun _ _ z => z⟩
        intro Γ3 g4 σ2 r4 ag
        refine ⟨wip (agree ag), _, F3, Γ3, r4, (Res.noEr_good g4).mono ?_ fun _ _ z => z.elim⟩
        intro q g5 F5 H5 r5 s5
        by_cases hq : q.1 = true
        · rw [if_pos hq] at g5 ⊢
          refine ⟨_, F5, q.2, r5, (Res.noEr_good g5).mono ?_ fun _ _ z => z.elim⟩
          intro y g6 v F6 H6 r6 s6 rr
          obtain ⟨F7, r7, s7, rp⟩ := rr.freeze r6
          have hDl : H6 Dl = some (.lst vacc) := r7.uh Dl _ upd_same
          refine ⟨vacc, hDl, Nat.lt_of_le_of_lt hacc (Nat.lt_of_lt_of_le hlt (lim_le hlen)), rfl, hlt, F7, wipeG y.2 vs, vacc ++ [v], dacc ++ [y.1.dat], ?_, ?_, ?_, ?_, fun _ _ h e => wipeG_no h e, g6⟩
          · have r8 := Rel.bump (o' := .lst (vacc ++ [v])) r7 (noF r7)
            exact r8.wipe vs (backA (agree ag))
          · exact s2.trans (gr.ff.trans (s5.trans (s6.trans s7)))
          · exact (ra.mono (gr.ff.trans (s5.trans (s6.trans s7)))).append (.cons rp .nil)
          · rw [List.length_append]; exact Nat.add_le_add_right hacc 1
        · rw [if_neg hq] at g5 ⊢
          have r6 := r5.wipe vs (backA (agree ag))
          exact ⟨rfl, hlt, F5, wipeG q.2 vs, vacc, dacc, r6, s2.trans (gr.ff.trans s5), ra.mono (gr.ff.trans s5), Nat.le_succ_of_le hacc, fun _ _ h e => wipeG_no h e, g5⟩
      · have he : i = p.1.length := by omega
        subst he
        rw [List.drop_length] at g2
        refine .inl ⟨hit.2 (Nat.le_refl _), ?_⟩
        have r3 := r2.unguard hU
        have sa := agree_wipe σ vs
        have hDl : H2 Dl = some (.lst vacc) := r2.uh Dl _ upd_same
        have r4 : Rel B X.K F2 H2 σ (backG p.2 Γ2 vs) := by
          refine Rel.back (r3.reslot sa.1.symm ?_) vs ?_
          · intro j hj'
            by_cases hm : j ∈ vs
            · by_cases hl : j < Γ2.length
              · have e := List.getElem?_eq_getElem hl
                rw [e, hno j _ hm e]
              · refine (hj' ?_).elim
                have h1 : (L2.wipe σ vs).length ≤ j := by rw [r3.len]; omega
                rw [List.getElem?_eq_none h1, List.getElem?_eq_none (by rw [← sa.1]; exact h1)]
            · exact (hj' (sa.2 j hm).symm).elim
          · intro j d e
            obtain ⟨v, h1, h2⟩ := r1.at e
            exact ⟨v, h1, h2.mono s2⟩
        refine g2 (.ref Dl) F2 H2 r4 (s1.trans s2) ⟨Dl, rfl, noF r2, hU, ?_, vacc, hDl, ra⟩
        rintro j ⟨⟨sv, e, o⟩, e2⟩
        have e3 := backG_own e o
        have hm : j ∉ vs := fun hm => by
          have := hno j sv hm e3
          subst this
          cases o
        have ow : Owns (L2.wipe σ vs) Γ2 j Dl := ⟨⟨sv, e3, o⟩, by rw [sa.2 j hm]; exact e2⟩
        have := (r2.ofr j Dl ow).2
        rw [show ({ B with U := upd B.U Dl (.lst vacc) } : Bd).U Dl = some (.lst vacc) from upd_same] at this
        cases this
  · cases gp
end
end Fw

namespace Fw
open PySem L2 PySem.Spec PyProof.Rows

section
variable {X : Cx} {E : XK}
theorem de_lc {elt tg iter : Expr} {ifs : List Expr} {scope : Scope} {own : List (Str × Nat)} {pos : Pos} {js : List Nat} {mi : IM} {b : BM} {mt : TM} {me : EM} (hi : DI X E tg iter mi) (hc : X.calm = true) (hN : X.N.Nodup)
    (ok : BlkOk X.N X.env.scope scope own)
    (hg : ∀ (s : Shared) (H : Hp) (C : Addr) (cl : List (Str × Addr)) (fp : List Addr), DG (X.blk s H scope (compEnvC scope cl C X.env) fp) tg js b)
    (ht : ∀ (s : Shared) (H : Hp) (C : Addr) (cl : List (Str × Addr)) (fp : List Addr), DTs (X.blk s H scope (compEnvC scope cl C X.env) fp) E0 ifs mt)
    (he : ∀ (s : Shared) (H : Hp) (C : Addr) (cl : List (Str × Addr)) (fp : List Addr), DE (X.blk s H scope (compEnvC scope cl C X.env) fp) E0 elt me) (hj : ∀ j ∈ js, j ∈ own.map (·.2))
    (hs : ∀ x, foldedSetIterable iter X.env x = pure x := by intro _; rfl) :
    DE X E (.ListComp elt [⟨tg, iter, ifs, 0⟩] scope pos) (eLc mi b mt me (own.map (·.2))) := by
  obtain ⟨wi, pi, hi⟩ := hi
  exact ⟨_, pe_lc hc hN pi ok (fun s H C cl fp => (hg s H C cl fp).pg) (fun s H C cl fp => (ht s H C cl fp).pts) (fun s H C cl fp => (he s H C cl fp).pe) hs, Den.lc hi hj⟩

/-! ## statements -/
def sRet (m : EM) : SM := fun Γ => (m Γ).bind fun p => .ok (.rt p.1 p.2)
def sRetN : SM := fun Γ => .ok (.rt (.fro .none) Γ)
def sSet (i : Nat) (m : EM) : SM := fun Γ => (m Γ).bind fun p => .ok (.nx (p.2.set i p.1.sv))
def sDrop (m : EM) : SM := fun Γ => (m Γ).bind fun p => .ok (.nx p.2)
def sIf (t : TM) (a b : SM) : SM := fun Γ => (t Γ).bind fun p => if p.1 = true then a p.2 else b p.2
def sNx : SM := fun Γ => .ok (.nx Γ)
def sSeq (a b : SM) : SM := fun Γ => (a Γ).bind fun o => match o with
  | .nx g => b g
  | o => .ok o
def sBk : SM := fun Γ => .ok (.bk Γ)
def sCt : SM := fun Γ => .ok (.ct Γ)
def sUnp (js : List Nat) (m : EM) : SM := opd m fun d Γ => (bTup js d Γ).noEr.bind fun g => .ok (.nx g)
theorem DenS.nx {t : TS} {m : EM} : True := trivial
theorem ds_ret {e : Expr} {m : EM} {pos : Pos} (h : DE X E e m) : DS X E (.Return (some e) pos) (sRet m) := by
  obtain ⟨t, p, h⟩ := h
  refine ⟨_, ps_ret p, ?_⟩
  intro B F H σ Γ De r g
  refine h.raw r g ?_
  intro v q Γ1 F1 H1 r1 s1 rr g1
  exact g1 v σ F1 H1 r1 s1 rr
theorem ds_retN {pos : Pos} : DS X E (.Return none pos) sRetN := ⟨_, ps_retN, fun B F H σ Γ De r g => g _ σ F H r (Sub.refl _) .non⟩
theorem ds_set {i : Nat} {x : Str} {e : Expr} {m : EM} {pos pos' : Pos} (h : DE X E e m) (hN : X.N.Nodup) (hi : X.N[i]? = some x := by rfl) (hx : Loc X.env.scope x := by first | exact Or.inl rfl | exact Or.inr rfl) (hs : swapsWith e (some (.Name x pos')) pos.line X.env = pure false := by rfl)
    (hf : X.fn x = true ∨ X.env.scope.names.lookup x = some .local := by first | exact .inl rfl | exact .inr rfl | assumption) : DS X E (.Assign [.Name x pos'] e pos) (sSet i m) := by
  obtain ⟨t, p, h⟩ := h
  refine ⟨_, ps_set hN hi hx p hs hf, ?_⟩
  intro B F H σ Γ De r g
  refine h.raw r g ?_
  intro v q Γ1 F1 H1 r1 s1 rr g1
  exact g1 _ F1 H1 (r1.set rr) s1
theorem ds_setLc {i : Nat} {y : Str} {py : Pos} {elt tg iter : Expr} {ifs : List Expr} {scope : Scope} {own : List (Str × Nat)} {pos spos : Pos} {js : List Nat} {mi : IM} {b : BM} {mt : TM} {me : EM} (hi : DI X E tg iter mi) (hc : X.calm = true) (hN : X.N.Nodup)
    (ok : BlkOk X.N X.env.scope scope own)
    (hg : ∀ (s : Shared) (H : Hp) (C : Addr) (cl : List (Str × Addr)) (fp : List Addr), DG (X.blk s H scope (compEnvC scope cl C X.env) fp) tg js b)
    (ht : ∀ (s : Shared) (H : Hp) (C : Addr) (cl : List (Str × Addr)) (fp : List Addr), DTs (X.blk s H scope (compEnvC scope cl C X.env) fp) E0 ifs mt)
    (he : ∀ (s : Shared) (H : Hp) (C : Addr) (cl : List (Str × Addr)) (fp : List Addr), DE (X.blk s H scope (compEnvC scope cl C X.env) fp) E0 elt me) (hj : ∀ j ∈ js, j ∈ own.map (·.2))
    (hy : X.N[i]? = some y) (hyl : X.env.scope.names.lookup y = some .local) (hsw : swapsWith (.ListComp elt [⟨tg, iter, ifs, 0⟩] scope pos) (some (.Name y py)) spos.line X.env = pure true)
    (hs : ∀ x, foldedSetIterable iter X.env x = pure x := by intro _; rfl) :
    DS X E (.Assign [.Name y py] (.ListComp elt [⟨tg, iter, ifs, 0⟩] scope pos) spos) (sSet i (eLc mi b mt me (own.map (·.2)))) := by
  obtain ⟨wi, pi, hi⟩ := hi
  refine ⟨_, ps_setLc (te := tE X.K X.mg E0 me) (tt := tT X.K X.mg E0 mt) (g := tGo X.K js b) hc hN hy hyl hsw pi ok (fun s H C cl fp => (hg s H C cl fp).pg) (fun s H C cl fp => (ht s H C cl fp).pts) (fun s H C cl fp => (he s H C cl fp).pe) hs, ?_⟩
  intro B F H σ Γ De r g
  refine (Den.lc (X := X) (E := E) hi hj).raw r g ?_
  intro v q Γ1 F1 H1 r1 s1 rr g1
  exact g1 _ F1 H1 (r1.set rr) s1
theorem ds_drop {e : Expr} {m : EM} {pos : Pos} (h : DE X E e m) (hs : swapsWith e none pos.line X.env = pure false := by rfl) : DS X E (.Expr e pos) (sDrop m) := by
  obtain ⟨t, p, h⟩ := h
  refine ⟨_, ps_expr p hs, ?_⟩
  intro B F H σ Γ De r g
  refine h.raw r g ?_
  intro v q Γ1 F1 H1 r1 s1 rr g1
  exact g1 σ F1 H1 r1 s1
theorem ds_doc {x : Str} {j : Nat} {pos pos' : Pos} : DS X E (.Expr (.Constant (.str x) j pos) pos') sNx := ⟨_, ps_doc, fun B F H σ Γ De r g => g σ F H r (Sub.refl _)⟩
theorem ds_pass {pos : Pos} : DS X E (.Pass pos) sNx := ⟨_, ps_pass, fun B F H σ Γ De r g => g σ F H r (Sub.refl _)⟩
theorem ds_bk {pos : Pos} : DS X E (.Break pos) sBk := ⟨_, ps_break, fun B F H σ Γ De r g => g σ F H r (Sub.refl _)⟩
theorem ds_ct {pos : Pos} : DS X E (.Continue pos) sCt := ⟨_, ps_continue, fun B F H σ Γ De r g => g σ F H r (Sub.refl _)⟩
theorem ds_never {st : Stmt} : DS X E st (fun _ => .no) := ⟨_, ps_never, fun B F H σ Γ De r g => g.elim⟩
theorem ds_unp {elts : List Expr} {kk : Nat} {tpos : Pos} {e : Expr} {js : List Nat} {m : EM} {pos : Pos} (h : DE X E e m) (hg : DGs X elts js) (hc : X.calm = true) (hk : elts.length = js.length := by rfl)
    (hp : ∀ {gs : TGs}, PGs X elts gs → PG X (.Tuple elts kk tpos) (gTup X.K js.length gs))
    (hs : swapsWithSole [.Tuple elts kk tpos] e pos.line X.env = pure false := by rfl) (hw : swappedStores [.Tuple elts kk tpos] e X.env = pure none := by rfl) :
    DS X E (.Assign [.Tuple elts kk tpos] e pos) (sUnp js m) := by
  obtain ⟨t, p, h⟩ := h
  obtain ⟨gs, pg, hg⟩ := hg
  refine ⟨_, ps_asg p (hp pg) hs hw, ?_⟩
  intro B F H σ Γ De r g
  refine h.opd r g ?_
  intro v d Γ1 F1 H1 r1 s1 rp g1
  have g2 := Res.noEr_good g1
  unfold bTup at g2
  split at g2
  · rename_i ds
    obtain ⟨a, xs, e1, h1, p1⟩ := rp.tupv
    subst e1
    have hlen : ∀ {js : List Nat} {ds : List D} {Γ : Gm} {kk kx}, (bNames js ds Γ).good kk kx → ds.length = js.length := by
      intro js
      induction js with
      | nil => intro ds Γ kk kx z; cases ds with
        | nil => rfl
        | cons _ _ => cases z
      | cons j js ih => intro ds Γ kk kx z; cases ds with
        | nil => cases z
        | cons d ds => rw [List.length_cons, List.length_cons, ih z]
    refine ⟨a, xs, rfl, r1.fh.t h1, by rw [p1.length, hlen g2], hg B F1 H1 σ Γ1 xs ds _ r1 p1 (g2.mono ?_ fun _ _ z => z)⟩
    intro Γ' k σ' r' _
    exact k σ' F1 H1 r' s1
  · cases g2
theorem DenS.seq {t u : TS} {a b : SM} (ha : DenS X E t a) (hb : DenS X E u b) : DenS X E (tSeq t u) (sSeq a b) := by
  intro B F H σ Γ De r g
  unfold sSeq at g
  rw [Res.good_bind] at g
  refine ha B F H σ Γ _ r (g.mono ?_ fun _ _ z => z)
  intro o ho
  cases o with
  | nx g' =>
    intro σ' F' H' r' s'
    exact hb B F' H' σ' g' De r' (Res.good.mono ho (fun o z => mono_sub z s') fun _ _ z => z.mono s')
  | rt q g' => exact ho
  | bk g' => exact ho
  | ct g' => exact ho
theorem dss_nil : DSs X E [] sNx := ⟨_, pss_nil, fun B F H σ Γ De r g => g σ F H r (Sub.refl _)⟩
theorem dss_cons {st : Stmt} {rest : List Stmt} {a b : SM} (ha : DS X E st a) (hb : DSs X E rest b) : DSs X E (st :: rest) (sSeq a b) := by
  obtain ⟨t, p, h⟩ := ha
  obtain ⟨u, q, k⟩ := hb
  exact ⟨_, pss_cons p q, h.seq k⟩
theorem dss_one {st : Stmt} {a : SM} (ha : DS X E st a) : DSs X E [st] a := by
  obtain ⟨t, p, h⟩ := ha
  exact ⟨_, pss_one p, h⟩
theorem ds_if {c : Expr} {a b : List Stmt} {t : TM} {ma mb : SM} {pos : Pos} (hc : DT X E c t) (ha : DSs X E a ma) (hb : DSs X E b mb) : DS X E (.If c a b pos) (sIf t ma mb) := by
  obtain ⟨tc, pc, hc⟩ := hc
  obtain ⟨ta, pa, ha⟩ := ha
  obtain ⟨tb, pb, hb⟩ := hb
  refine ⟨_, ps_if pc pa pb, ?_⟩
  intro B F H σ Γ De r g
  refine hc.raw r g ?_
  intro b Γ1 F1 H1 r1 s1 g1
  cases b with
  | true => exact ha B F1 H1 σ Γ1 De r1 (Res.good.mono g1 (fun o z => mono_sub z s1) fun _ _ z => z)
  | false => exact hb B F1 H1 σ Γ1 De r1 (Res.good.mono g1 (fun o z => mono_sub z s1) fun _ _ z => z)
/-- slots that nobody reads any more -/
def sFor (mi : IM) (b : BM) (body : SM) (tmp : List Nat) : SM := fun Γ => (mi Γ).bind fun p => forGo b body tmp p.1 p.2
where
  forGo (b : BM) (body : SM) (tmp : List Nat) : List D → SM
    | [], Γ => .ok (.nx Γ)
    | d :: ds, Γ => (b d Γ).noEr.bind fun Γ1 => (body Γ1).bind fun o => match o with
      | .nx g => forGo b body tmp ds (wipeG g tmp)
      | .ct g => forGo b body tmp ds (wipeG g tmp)
      | .bk g => .ok (.nx g)
      | .rt r g => .ok (.rt r g)
theorem ds_for {tg iter : Expr} {body : List Stmt} {js : List Nat} {mi : IM} {b : BM} {mb : SM} {pos : Pos} (tmp : List Nat) (hi : DI X E tg iter mi) (hg : DG X tg js b) (hb : DSs X E body mb) (hp : PassesOwn (model X.prog X.w) X.A X.env X.xe) (hc : X.calm = true)
    (hs : ∀ x, foldedSetIterable iter X.env x = pure x := by intro _; rfl) : DS X E (.For tg iter body [] pos) (sFor mi b mb tmp) := by
  obtain ⟨wi, pi, hi⟩ := hi
  obtain ⟨t, pb, hb⟩ := hb
  refine ⟨_, ps_for hp hc pi hg.pg pb hs, ?_⟩
  intro B F H σ Γ De r gd
  unfold sFor at gd
  rw [Res.good_bind] at gd
  refine hi B F H σ Γ _ r (gd.mono ?_ fun _ _ z => z)
  intro p gp J F1 H1 r1 s1 ok
  let W : Nat → Nat → L2.St → Hp → Prop := fun i m σ H => m = p.1.length - i ∧ i ≤ p.1.length ∧ ∃ F2 Γ2, Rel B X.K F2 H σ Γ2 ∧ Sub F1 F2 ∧ (sFor.forGo b mb tmp (p.1.drop i) Γ2).good (OutOk B X.K F De) (XPx X B F E)
  refine ⟨W, ⟨p.1.length, by simp, Nat.zero_le _, F1, p.2, r1, Sub.refl _, gp⟩, ?_⟩
  rintro i m σ2 H2 ⟨rfl, hi', F2, Γ2, r2, s2, g2⟩
  have hit := ok F2 H2 s2 r2.fh i
  by_cases hlt : i < p.1.length
  · obtain ⟨d, hd⟩ : ∃ d, p.1[i]? = some d := ⟨_, List.getElem?_eq_getElem hlt⟩
    obtain ⟨go, yl⟩ := hit.1 d hd
    have hdrop : p.1.drop i = d :: p.1.drop (i + 1) := by
      rw [List.drop_eq_getElem_cons hlt]
      rw [List.getElem?_eq_getElem hlt] at hd
      cases hd
      rfl
    rw [hdrop] at g2
    unfold sFor.forGo at g2
    have g3 := Res.noEr_good g2
    refine .inr ⟨go, fun σ' H' => W (i + 1) (p.1.length - (i + 1)) σ' H', fun σ' H' w => ⟨_, by omega, w⟩, ?_⟩
    intro x H3 hy
    obtain ⟨F3, gr, rx⟩ := yl x H3 hy
    have r3 := r2.grow gr
    refine ⟨_, F3, Γ2, d, r3, rx, g3.mono ?_ fun _ _ z => z⟩
    intro Γ3 g4 σ4 r4 ag
    rw [Res.good_bind] at g4
    have sF : Sub F F3 := s1.trans (s2.trans gr.ff)
    refine hb B F3 H3 σ4 Γ3 _ r4 (g4.mono ?_ fun _ _ z => z.mono sF)
    intro o ho
    cases o with
    | nx g' => exact fun σ' F' H' r' s' => ⟨rfl, hlt, F', wipeG g' tmp, r'.weak (weak_wipeG g' tmp), s2.trans (gr.ff.trans s'), ho⟩
    | ct g' => exact fun σ' F' H' r' s' => ⟨rfl, hlt, F', wipeG g' tmp, r'.weak (weak_wipeG g' tmp), s2.trans (gr.ff.trans s'), ho⟩
    | bk g' => exact fun σ' F' H' r' s' => ho σ' F' H' r' (sF.trans s')
    | rt q g' => exact fun v σ' F' H' r' s' => ho v σ' F' H' r' (sF.trans s')
  · have he : i = p.1.length := by omega
    subst he
    rw [List.drop_length] at g2
    exact .inl ⟨hit.2 (Nat.le_refl _), g2 σ2 F2 H2 r2 (s1.trans s2)⟩
/-- while, at most so many turns -/
def sWhile (n : Nat) (t : TM) (body : SM) (tmp : List Nat) : SM := whGo t body tmp n
where
  whGo (t : TM) (body : SM) (tmp : List Nat) : Nat → SM
    | 0, _ => .no
    | n + 1, Γ => (t Γ).bind fun p => if p.1 = true then (body p.2).bind fun o => match o with
      | .nx g => whGo t body tmp n (wipeG g tmp)
      | .ct g => whGo t body tmp n (wipeG g tmp)
      | .bk g => .ok (.nx g)
      | .rt r g => .ok (.rt r g)
      else .ok (.nx p.2)
theorem ds_while {c : Expr} {body : List Stmt} {t : TM} {mb : SM} {pos : Pos} (n : Nat) (tmp : List Nat) (hc : DT X E c t) (hb : DSs X E body mb) (hp : PassesOwn (model X.prog X.w) X.A X.env X.xe) : DS X E (.While c body [] pos) (sWhile n t mb tmp) := by
  obtain ⟨tc, pc, hc⟩ := hc
  obtain ⟨tb, pb, hb⟩ := hb
  refine ⟨_, ps_while hp pc pb, ?_⟩
  intro B F H σ Γ De r gd
  let W : Nat → L2.St → Hp → Prop := fun m σ H => ∃ F2 Γ2, Rel B X.K F2 H σ Γ2 ∧ Sub F F2 ∧ (sWhile.whGo t mb tmp m Γ2).good (OutOk B X.K F De) (XPx X B F E)
  refine ⟨W, ⟨n, F, Γ, r, Sub.refl _, gd⟩, ?_⟩
  rintro m σ2 H2 ⟨F2, Γ2, r2, s2, g2⟩
  cases m with
  | zero => exact g2.elim
  | succ m =>
    unfold sWhile.whGo at g2
    rw [Res.good_bind] at g2
    refine hc B F2 H2 σ2 Γ2 _ r2 (g2.mono ?_ fun _ _ z => z.mono s2)
    intro q g3 F3 H3 r3 s3
    by_cases hq : q.1 = true
    · rw [if_pos hq] at g3 ⊢
      rw [Res.good_bind] at g3
      have sF : Sub F F3 := s2.trans s3
      refine ⟨fun σ' H' => W m σ' H', fun σ' H' w => ⟨m, Nat.lt_succ_self m, w⟩, hb B F3 H3 σ2 q.2 _ r3 (g3.mono ?_ fun _ _ z => z.mono sF)⟩
      intro o ho
      cases o with
      | nx g' => exact fun σ' F' H' r' s' => ⟨F', wipeG g' tmp, r'.weak (weak_wipeG g' tmp), sF.trans s', ho⟩
      | ct g' => exact fun σ' F' H' r' s' => ⟨F', wipeG g' tmp, r'.weak (weak_wipeG g' tmp), sF.trans s', ho⟩
      | bk g' => exact fun σ' F' H' r' s' => ho σ' F' H' r' (sF.trans s')
      | rt q g' => exact fun v σ' F' H' r' s' => ho v σ' F' H' r' (sF.trans s')
    · rw [if_neg hq] at g3 ⊢
      exact g3 σ2 F3 H3 r3 (s2.trans s3)
end
end Fw

namespace Fw
open PySem L2 PySem.Spec PyProof.Rows

/-! ## owned lists that change -/
section
open AutoSeq1 (wpAny_loadPart')
theorem exL (l : Addr) (items : Array Value) (n : Nat) (b : Addr) (items2 : Array Value) (n2 : Nat) (dd : Option Addr) (sl : Array (Option Value)) (h0 : ¬(!items.isEmpty && Builtin.List.listTooLong (items.size + items2.size)) = true) (h1 : items.size ≤ sizeLine) (h2 : items.size + items2.size ≤ sizeLine + 1) :
    Meets (Builtin.«list.extend» ⟨[.ref l, .ref b], []⟩) (fun _ R s => s.heap.get? l = some { cls := .type "list", data := .seq items n } ∧ s.heap.get? b = some { cls := .type "list", dict := dd, data := .seq items2 n2, slots := sl } ∧
      R (.ok (.ret Value.none)) { s with heap := s.heap.update l (Obj.mapSeq fun x => x ++ items2), toks := s.toks }) := by
  refine .of_wp ?_
  rintro prog w A R ⟨hp, g, d, tk, os⟩ ⟨hl, hb, h⟩
  have q1 := AutoSeq1.idx_int
  have q2 := AutoSeq1.sub_tuple_tuple
  have q3 := AutoSeq1.sub_list_list
  have q4 := AutoSeq1.sub_tuple_list
  have q5 := AutoSeq1.sub_list_tuple
  have hz : (items ++ items2).size ≤ sizeLine + 1 := by rw [Array.size_append]; exact h2
  wp_walk using (wpAny_updateSeq hl rfl (hz := h1) (_hz' := hz)), wpAny_loadPart' hl, wpAny_loadPart' hb
  exact ⟨_, rfl, h⟩
theorem exT (l : Addr) (items : Array Value) (n : Nat) (b : Addr) (items2 : Array Value) (n2 : Nat) (dd : Option Addr) (sl : Array (Option Value)) (h0 : ¬(!items.isEmpty && Builtin.List.listTooLong (items.size + items2.size)) = true) (h1 : items.size ≤ sizeLine) (h2 : items.size + items2.size ≤ sizeLine + 1) :
    Meets (Builtin.«list.extend» ⟨[.ref l, .ref b], []⟩) (fun _ R s => s.heap.get? l = some { cls := .type "list", data := .seq items n } ∧ s.heap.get? b = some { cls := .type "tuple", dict := dd, data := .seq items2 n2, slots := sl } ∧
      R (.ok (.ret Value.none)) { s with heap := s.heap.update l (Obj.mapSeq fun x => x ++ items2), toks := s.toks }) := by
  refine .of_wp ?_
  rintro prog w A R ⟨hp, g, d, tk, os⟩ ⟨hl, hb, h⟩
  have q1 := AutoSeq1.idx_int
  have q2 := AutoSeq1.sub_tuple_tuple
  have q3 := AutoSeq1.sub_list_list
  have q4 := AutoSeq1.sub_tuple_list
  have q5 := AutoSeq1.sub_list_tuple
  have hz : (items ++ items2).size ≤ sizeLine + 1 := by rw [Array.size_append]; exact h2
  wp_walk using (wpAny_updateSeq hl rfl (hz := h1) (_hz' := hz)), wpAny_loadPart' hl, wpAny_loadPart' hb
  exact ⟨_, rfl, h⟩
end
section
variable {X : Cx} {E : XK}
/-- a method of a list that changes it: xs the items, ds the arguments; what it tells, the items behind -/
def mD (K : PySem.W.Frag) (f : List D → List D → Option (D × List D)) : V → List V → Hp → VK → Prop := fun x vs H Q => ∃ l xs F items ds r items', x = .ref l ∧ H l = some (.lst xs) ∧ Sub F H ∧ F l = none ∧ RpAll K F xs items ∧ RpAll K F vs ds ∧
  f items ds = some (r, items') ∧ ∀ z ys, Rp K F z r → RpAll K F ys items' → Q z (upd H l (.lst ys))
def mAppend : List D → List D → Option (D × List D)
  | xs, [d] => if xs.length < lim then some (.none, xs ++ [d]) else none
  | _, _ => none
def mExtend : List D → List D → Option (D × List D)
  | xs, [.list ds] => if xs.length + ds.length ≤ lim then some (.none, xs ++ ds) else none
  | xs, [.tuple ds] => if xs.length + ds.length ≤ lim then some (.none, xs ++ ds) else none
  | _, _ => none
def mPop : List D → List D → Option (D × List D)
  | xs, [] => match xs.getLast? with
    | some d => some (d, xs.dropLast)
    | none => none
  | _, _ => none
theorem mt_appendD : MtM X "list.append" (mD X.K mAppend) := by
  intro pins s σ H x vs v us Q I rx rv ⟨l, xs, F, items, ds, r, items', ex, hl, sb, fl, ra, rd, e, q⟩
  refine mt_append pins s σ H x vs v us Q I rx rv ?_
  unfold mAppend at e
  split at e
  · split at e
    · rename_i hlen
      cases e
      cases rd with
      | cons rd t =>
        cases t
        exact ⟨l, xs, _, ex, rfl, hl, by rw [ra.length]; exact Nat.lt_of_lt_of_le hlen (by decide), q _ _ .non (ra.append (.cons rd .nil))⟩
    · cases e
  · cases e
theorem mt_extendD : MtM X "list.extend" (mD X.K mExtend) := by
  intro pins s σ H x vs v us Q I rx rv ⟨l, xs, F, items, ds, r, items', ex, hl, sb, fl, ra, rd, e, q⟩
  subst ex
  cases rx
  have fin : ∀ {its zs : List Value} {n : Nat} {ys : List V} {es : List D}, Vals xs its → s.heap.get? l = some { cls := .type "list", data := .seq its.toArray n } → Vals ys zs → RpAll X.K F ys es → items.length + es.length ≤ lim →
      (∀ z ys, Rp X.K F z PyData.none → RpAll X.K F ys (items ++ es) → Q z (upd H l (.lst ys))) → EP X pins σ Q Value.none { s with heap := s.heap.update l (Obj.mapSeq fun x => x ++ zs.toArray), toks := s.toks } := by
    intro its zs n ys es rv1 ho rv2 r2 hlen q
    refine ⟨.non, _, I.lset (its' := its ++ zs) hl ho (by simp) (rv1.append rv2) ?_, rfl, q _ _ .non (ra.append r2)⟩
    rw [List.length_append, ra.length, r2.length]
    exact lim_le hlen
  obtain ⟨z, its, n, r1, hlen1, e1⟩ := I.lstM hl
  unfold mExtend at e
  split at e
  · split at e
    · rename_i es hlen
      cases e
      cases rd with
      | cons rd t =>
        cases t
        obtain ⟨b, ys, e2, h2, p2⟩ := rd.lstv
        subst e2
        obtain ⟨u, e3, ru⟩ := vals1 rv
        subst e3
        cases ru
        obtain ⟨zs, rz, ⟨⟨cls, dd, data, sl⟩, m, ho, hc, _, hd⟩, _⟩ := I.list (sb.l h2)
        simp only at hc hd
        subst hc hd
        have a1 := ra.length
        have a2 := p2.length
        have a3 := rz.length
        have hsz : its.toArray.size + zs.toArray.size ≤ sizeLine := by rw [List.size_toArray, List.size_toArray, ← hlen1, ← a3, a1, a2]; exact lim_le hlen
        exact call_meets PySem.F.slot_list_extend ⟨_, e1, rfl⟩ PySem.F.entry_list_extend (PySem.F.args_list_extend_2 _ _)
          (exL l its.toArray n b zs.toArray m dd sl (by rw [notLongL hsz, Bool.and_false]; exact Bool.false_ne_true) (by rw [List.size_toArray, ← hlen1]; exact z) (by omega)) ⟨e1, ho, fin r1 e1 rz p2 hlen q⟩
    · cases e
  · split at e
    · rename_i es hlen
      cases e
      cases rd with
      | cons rd t =>
        cases t
        obtain ⟨b, ys, e2, h2, p2⟩ := rd.tupv
        subst e2
        obtain ⟨u, e3, ru⟩ := vals1 rv
        subst e3
        cases ru
        obtain ⟨zs, rz, ⟨⟨cls, dd, data, sl⟩, ho, hc, m, hd⟩, _⟩ := I.tuple (sb.t h2)
        simp only at hc hd
        subst hc hd
        have a1 := ra.length
        have a2 := p2.length
        have a3 := rz.length
        have hsz : its.toArray.size + zs.toArray.size ≤ sizeLine := by rw [List.size_toArray, List.size_toArray, ← hlen1, ← a3, a1, a2]; exact lim_le hlen
        exact call_meets PySem.F.slot_list_extend ⟨_, e1, rfl⟩ PySem.F.entry_list_extend (PySem.F.args_list_extend_2 _ _)
          (exT l its.toArray n b zs.toArray m dd sl (by rw [notLongL hsz, Bool.and_false]; exact Bool.false_ne_true) (by rw [List.size_toArray, ← hlen1]; exact z) (by omega)) ⟨e1, ho, fin r1 e1 rz p2 hlen q⟩
    · cases e
  · cases e
theorem mt_popD : MtM X "list.pop" (mD X.K mPop) := by
  intro pins s σ H x vs v us Q I rx rv ⟨l, xs, F, items, ds, r, items', ex, hl, sb, fl, ra, rd, e, q⟩
  refine mt_pop pins s σ H x vs v us Q I rx rv ?_
  unfold mPop at e
  split at e
  · split at e
    · rename_i d hd
      cases e
      cases rd
      rw [List.getLast?_eq_getElem?] at hd
      obtain ⟨w, h1, h2⟩ := ra.get hd
      have hx : xs.dropLast = xs.take (items.length - 1) := by rw [List.dropLast_eq_take, ra.length]
      refine ⟨l, xs, w, ex, rfl, hl, by rw [ra.length]; exact h1, q _ _ h2 ?_⟩
      rw [hx, List.dropLast_eq_take]
      exact ra.take _
    · cases e
  · cases e
end
/-- the slot's list, owned or lent -/
def lstAt (Γ : Gm) (i : Nat) : Option (List D) := match Γ[i]? with
  | some (.ow (.lst xs)) => some xs
  | some (.io (.lst xs)) => some xs
  | _ => none
def setLst (Γ : Gm) (i : Nat) (xs : List D) : Gm := match Γ[i]? with
  | some (.io _) => Γ.set i (.io (.lst xs))
  | _ => Γ.set i (.ow (.lst xs))
def eMut (f : List D → List D → Option (D × List D)) (i : Nat) (ms : AM) : EM := fun Γ => match lstAt Γ i with
  | none => .no
  | some _ => (ms Γ).bind fun p => match lstAt p.2 i with
    | none => .no
    | some xs => match f xs p.1 with
      | some q => .ok (.fro q.1, setLst p.2 i q.2)
      | none => .no
section
variable {B : Bd} {K : PySem.W.Frag} {F H : Hp} {σ : L2.St} {Γ : Gm}
theorem Rel.lst (r : Rel B K F H σ Γ) {i : Nat} {xs : List D} (h : lstAt Γ i = some xs) : ∃ a vs, σ[i]? = some (some (.ref a)) ∧ H a = some (.lst vs) ∧ RpAll K F vs xs ∧ F a = none ∧ Owns σ Γ i a := by
  have go : ∀ {sv : SV}, Γ[i]? = some sv → sv.owned = true → (∃ a, σ.getD i none = some (.ref a) ∧ CellAt K F H a (.lst xs)) → ∃ a vs, σ[i]? = some (some (.ref a)) ∧ H a = some (.lst vs) ∧ RpAll K F vs xs ∧ F a = none ∧ Owns σ Γ i a := by
    rintro sv e o ⟨a, ea, vs, h1, h2⟩
    have hs : σ[i]? = some (some (.ref a)) := by
      rw [List.getD_eq_getElem?_getD] at ea
      cases q : σ[i]? with
      | none => rw [q] at ea; cases ea
      | some w => rw [q] at ea; exact congrArg some ea
    have ow : Owns σ Γ i a := ⟨⟨sv, e, o⟩, hs⟩
    exact ⟨a, vs, hs, h1, h2, (r.ofr i a ow).1, ow⟩
  unfold lstAt at h
  split at h
  · rename_i e
    cases h
    obtain ⟨a, e1, q⟩ := r.sl i _ e
    exact go e rfl ⟨a, e1, q⟩
  · rename_i e
    cases h
    obtain ⟨a, _, e1, q⟩ := r.sl i _ e
    exact go e rfl ⟨a, e1, q⟩
  · cases h
/-- an owned object changes -/
theorem Rel.mut (r : Rel B K F H σ Γ) {i : Nat} {a : Addr} {o : HO} {sv sv' : SV} (hi : Γ[i]? = some sv) (ho : sv.owned = true) (hs : σ[i]? = some (some (.ref a)))
    (hn : SlotOk K F (upd H a o) (B.π.getD i none) (some (.ref a)) sv') (ho' : sv'.owned = true) : Rel B K F (upd H a o) σ (Γ.set i sv') := by
  have ow : Owns σ Γ i a := ⟨⟨sv, hi, ho⟩, hs⟩
  obtain ⟨hF, hU⟩ := r.ofr i a ow
  have hlen : i < Γ.length := (List.getElem?_eq_some_iff.mp hi).1
  have own : ∀ {j b}, Owns σ (Γ.set i sv') j b → Owns σ Γ j b := by
    rintro j b ⟨⟨w, e, o2⟩, e2⟩
    by_cases hj : j = i
    · subst hj
      exact ⟨⟨sv, hi, ho⟩, e2⟩
    · rw [List.getElem?_set_ne (fun z => hj z.symm)] at e
      exact ⟨⟨w, e, o2⟩, e2⟩
  refine ⟨r.lσ, by rw [List.length_set]; exact r.lΓ, ?_, ?_, r.f0, r.nw, ?_, fun j k b h1 h2 => r.inj j k b (own h1) (own h2), fun j b h => r.ofr j b (own h)⟩
  · intro b u e
    rw [upd_ne (fun z => by subst z; rw [hU] at e; cases e)]
    exact r.uh b u e
  · intro b u e
    rw [upd_ne (ne_of_none e hF)]
    exact r.fh b u e
  · intro j w e
    by_cases hj : j = i
    · subst hj
      rw [List.getElem?_set_self hlen] at e
      cases e
      have e3 : σ.getD j none = some (.ref a) := by rw [List.getD_eq_getElem?_getD, hs]; rfl
      rw [e3]
      exact hn
    · rw [List.getElem?_set_ne (fun z => hj z.symm)] at e
      refine (r.sl j w e).mono (Sub.refl _) fun o2 b eb => upd_ne fun z => ?_
      subst z
      have hb : σ[j]? = some (some (.ref b)) := by
        rw [List.getD_eq_getElem?_getD] at eb
        cases q : σ[j]? with
        | none => rw [q] at eb; cases eb
        | some w => rw [q] at eb; exact congrArg some eb
      exact hj (r.inj j i b ⟨⟨w, e, o2⟩, hb⟩ ow)
theorem Rel.setLst (r : Rel B K F H σ Γ) {i : Nat} {xs ys : List D} {a : Addr} {ws : List V} (h : lstAt Γ i = some xs) (hs : σ[i]? = some (some (.ref a))) (rp : RpAll K F ws ys) : Rel B K F (upd H a (.lst ws)) σ (setLst Γ i ys) := by
  unfold lstAt at h
  unfold Fw.setLst
  split at h
  · rename_i e
    rw [e]
    exact r.mut e rfl hs ⟨a, rfl, ws, upd_same, rp⟩ rfl
  · rename_i e
    rw [e]
    obtain ⟨b, e0, e1, q⟩ := r.sl i _ e
    have e3 : σ.getD i none = some (.ref a) := by rw [List.getD_eq_getElem?_getD, hs]; rfl
    rw [e3] at e1
    cases e1
    exact r.mut e rfl hs ⟨a, e0, rfl, ws, upd_same, rp⟩ rfl
  · cases h
end
section
variable {X : Cx} {E : XK}
theorem Den.mut {t : TA} {n i : Nat} {f : List D → List D → Option (D × List D)} {ms : AM} (h : DenA X E n t ms) : Den X E (tBM X.K "list" (mD X.K f) (tVar i) t) (eMut f i ms) := by
  intro B F H σ Γ Q r g
  unfold eMut at g
  split at g
  · cases g
  · rename_i xs0 e0
    obtain ⟨a, vs0, hs, h0, _, _, _⟩ := r.lst e0
    refine ⟨.ref a, hs, .inl ⟨rfl, vs0, SqL.of h0⟩, h.raw r g ?_⟩
    intro vs ds Γ1 F1 H1 r1 s1 rps hl g1
    simp only at g1
    split at g1
    · cases g1
    · rename_i xs e1
      split at g1
      · rename_i q e2
        obtain ⟨b, ws, hs1, h1, h2, h3, _⟩ := r1.lst e1
        rw [hs] at hs1
        cases hs1
        refine ⟨a, ws, F1, xs, ds, q.1, q.2, rfl, h1, r1.fh, h3, h2, rps, e2, ?_⟩
        intro z ys rz ry
        exact g1 z F1 _ (r1.setLst e1 hs ry) s1 rz
      · cases g1
theorem de_mut {id : String} {f : List D → List D → Option (D × List D)} {i : Nat} {x name : Str} {e : Expr} {es : List Expr} {ms : AM} {p apos cpos : Pos} (slot : Slot "list" name id) (hty : typeOf (.builtin id) = pure (.type "method_descriptor")) (hm : MtM X id (mD X.K f))
    (ha : DA X E (e :: es) ms) (hN : X.N[i]? = some x := by rfl) (hv : Vis X.env.scope x := by first | exact Or.inl rfl | exact Or.inr (Or.inl rfl) | exact Or.inr (Or.inr rfl)) (hd : (x == ("__debug__" : Str)) = false := by decide)
    (hcd : (x == ("__classdict__" : Str)) = false := by decide) (hbase : attributeBase (.Name x p) name X.env (eval (.Name x p) X.env) = eval (.Name x p) X.env := by rfl)
    (hfew : ((backTo cpos (starEach (e :: es) X.env)).all (fun x => !x.1) && (backToKw cpos (keywordEach [] X.env)).all (fun x => x.1.isSome)
      && decide ((e :: es).length + ([] : List Keyword).length + (if ([] : List Keyword).isEmpty then 0 else 1) < 30)) = true := by rfl)
    (hline : (apos.endLine == cpos.line) = true := by rfl) (hs : starEach (e :: es) X.env = (false, eval e X.env) :: starEach es X.env := by rfl) (hplain : (backTo cpos (starEach es X.env)).any (·.1) = false := by rfl) :
    DE X E (.Call (.Attribute (.Name x p) name apos) (e :: es) [] cpos) (eMut f i ms) := by
  obtain ⟨t, pa, h⟩ := ha
  exact ⟨_, pe_bm PySem.F.plainAttrs_list slot hty hm (pe_var hN hv hd hcd) pa hbase hfew hline hs hplain, Den.mut h⟩
theorem de_mut0 {id : String} {f : List D → List D → Option (D × List D)} {i : Nat} {x name : Str} {p apos cpos : Pos} (slot : Slot "list" name id) (hty : typeOf (.builtin id) = pure (.type "method_descriptor")) (hm : MtM X id (mD X.K f))
    (hN : X.N[i]? = some x := by rfl) (hv : Vis X.env.scope x := by first | exact Or.inl rfl | exact Or.inr (Or.inl rfl) | exact Or.inr (Or.inr rfl)) (hd : (x == ("__debug__" : Str)) = false := by decide)
    (hcd : (x == ("__classdict__" : Str)) = false := by decide) (hbase : attributeBase (.Name x p) name X.env (eval (.Name x p) X.env) = eval (.Name x p) X.env := by rfl)
    (hline : (apos.endLine == cpos.line) = true := by rfl) : DE X E (.Call (.Attribute (.Name x p) name apos) [] [] cpos) (eMut f i aNil) := by
  refine ⟨_, pe_bm0 PySem.F.plainAttrs_list slot hty hm (pe_var hN hv hd hcd) hbase hline, ?_⟩
  have h : DenA X E 0 tNil aNil := fun B F H σ Γ Q r g => g [] F H r (Sub.refl _) .nil rfl
  intro B F H σ Γ Q r g
  exact Den.mut h B F H σ Γ Q r g
end
end Fw

namespace Fw
open PySem L2 PySem.Spec PyProof.Rows

/-! ## built-in names -/
theorem bt_len : bootBuiltins "len" = some (.builtin "len") := by decide +kernel
theorem bt_min : bootBuiltins "min" = some (.builtin "min") := by decide +kernel
theorem bt_max : bootBuiltins "max" = some (.builtin "max") := by decide +kernel
theorem bt_repr : bootBuiltins "repr" = some (.builtin "repr") := by decide +kernel
theorem bt_all : bootBuiltins "all" = some (.builtin "all") := by decide +kernel
theorem bt_any : bootBuiltins "any" = some (.builtin "any") := by decide +kernel
theorem bt_sum : bootBuiltins "sum" = some (.builtin "sum") := by decide +kernel
theorem bt_abs : bootBuiltins "abs" = some (.builtin "abs") := by decide +kernel
theorem bt_sorted : bootBuiltins "sorted" = some (.builtin "sorted") := by decide +kernel
theorem bt_isinstance : bootBuiltins "isinstance" = some (.builtin "isinstance") := by decide +kernel
theorem bt_str : bootBuiltins "str" = some (.type "str") := by decide +kernel
theorem bt_int : bootBuiltins "int" = some (.type "int") := by decide +kernel
theorem bt_bool : bootBuiltins "bool" = some (.type "bool") := by decide +kernel
theorem bt_tuple : bootBuiltins "tuple" = some (.type "tuple") := by decide +kernel
theorem bt_list : bootBuiltins "list" = some (.type "list") := by decide +kernel
theorem bt_dict : bootBuiltins "dict" = some (.type "dict") := by decide +kernel

/-! ## a def of the text, by its name -/
structure Hd (K : PySem.W.Frag) (mg : Str → Option Value) (name : Str) (ps : List Str) (st : Stmt) : Prop where
  ex : ∃ f fd, mg name = some (.ref f) ∧ Fun K name name st f fd ∧ Binds K fd ps []
structure GF (P : Program) (w : World) (K : PySem.W.Frag) (mg : Str → Option Value) (k : Nat) (name : Str) (ps : List Str) (m : Fn) : Prop where
  ex : ∃ f fd, mg name = some (.ref f) ∧ PySem.W.keepIn K (.ref f) = true ∧ Binds K fd ps [] ∧ ∀ base, GOk P w K mg base CX0 k f fd ps (sp0 K ps.length m)
section
variable {P : Program} {w : World} {K : PySem.W.Frag} {mg : Str → Option Value} {k : Nat} {name : Str} {ps N : List Str} {st : Stmt} {nl : Nat} {body : SM}
theorem GF.def0 (h : Hd K mg name ps st) (S : FnScope N ps (defScope st)) (hN : N.length = ps.length + nl)
    (hb : ∀ (base : Heap) (f : Addr) (cdv : Value) (A : Around) (outer : List PySem.Env) (s : Shared) (H : Hp) (E : XK), A.guards = some [] → Room k (A.deeper (envOfC name (defScope st) s.heap.objs.size f cdv)) →
      DSs (cxOf CX0 P w K mg base N name (defScope st) f cdv A outer s H E).nox E0 (defBody st) body) : GF P w K mg (k + 1) name ps (runFn nl body) := by
  obtain ⟨f, fd, h1, h2, h3⟩ := h.ex
  exact ⟨f, fd, h1, h2.kp, h3, fun base => GOk.def0 h2 S hN (hb base f)⟩
theorem GF.zero (h : Hd K mg name ps st) : GF P w K mg k name ps (fun _ => .no) := by
  obtain ⟨f, fd, h1, h2, h3⟩ := h.ex
  refine ⟨f, fd, h1, h2.kp, h3, fun base => GOk.none ?_⟩
  rintro vs H Q E ⟨_, B, F, Γ, _, _, z⟩
  exact z
theorem GF.mono {j : Nat} {m : Fn} (h : GF P w K mg j name ps m) (hj : j ≤ k) : GF P w K mg k name ps m := by
  obtain ⟨f, fd, h1, h2, h3, h4⟩ := h.ex
  exact ⟨f, fd, h1, h2, h3, fun base => (h4 base).mono hj⟩
end
section
variable {X : Cx} {E : XK}
theorem de_f {k : Nat} {ps : List Str} {m : Fn} {x : Str} {e : Expr} {es : List Expr} {ms : AM} {p pos : Pos} (G : GF X.prog X.w X.K X.mg k x ps m) (ha : DA X E (e :: es) ms)
    (hgd : X.A.guards = some []) (hr : Room k X.A) (hn : (e :: es).length = ps.length := by rfl) (hg : Gl X x := by rfl)
    (hdb : (x == ("__debug__" : Str)) = false := by decide) (he : starEach (e :: es) X.env = (false, eval e X.env) :: starEach es X.env := by rfl) (hpl : (backTo pos (starEach es X.env)).any (·.1) = false := by rfl) :
    DE X E (.Call (.Name x p) (e :: es) [] pos) (eFn m ms) := by
  obtain ⟨f, fd, h1, h2, h3, h4⟩ := G.ex
  exact de_fn (h4 _) ha hgd hr h3 h1 h2 hn hg hdb he hpl
theorem de_f0 {k : Nat} {ps : List Str} {m : Fn} {x : Str} {p pos : Pos} (G : GF X.prog X.w X.K X.mg k x ps m)
    (hgd : X.A.guards = some []) (hr : Room k X.A) (hn : 0 = ps.length := by rfl) (hg : Gl X x := by rfl) (hdb : (x == ("__debug__" : Str)) = false := by decide) : DE X E (.Call (.Name x p) [] [] pos) (eFn m aNil) := by
  obtain ⟨f, fd, h1, h2, h3, h4⟩ := G.ex
  exact de_fn0 (h4 _) hgd hr h3 h1 h2 hn hg hdb
end
theorem hd_mk {h : Heap} {K : PySem.W.Frag} {mg : Str → Option Value} {f : Addr} {x : Str} {st : Stmt} {ps : List Str} {oc : Value} {od an : Option Addr} {osl : Array (Option Value)} {kV doc pm cdv ct : Value}
    (b : ∀ (kV doc pm : Value) (an : Option Addr) (cdv ct : Value) (us : List Value), us.length = ps.length → bindArgs (PySem.W.fnOf x x (defArgs st) (defBody st) (defScope st) .none kV doc pm an cdv ct) ⟨us, []⟩ = pure (ps.zip us))
    (X : K.In h) (G : h.Ns mainGlobals mg) (a : PySem.W.nsIn K mainGlobals x = some (some (.ref f)))
    (l : K.lookup f = some ⟨oc, od, .func (PySem.W.fnOf x x (defArgs st) (defBody st) (defScope st) .none kV doc pm an cdv ct), osl⟩) (c : PySem.W.codeIn K cdv x = true) (k : PySem.W.keepIn K (.ref f) = true) : Hd K mg x ps st := by
  have F1 := fun_mk (st := st) l c k
  exact ⟨f, _, PySem.W.mg_of X G a, F1, F1.binds b⟩
/-! ## the law's end -/
/-- the law's own promise: for a script of at most 63 whole numbers it tells True -/
theorem law_end {P : Program} {w : World} {K : PySem.W.Frag} {mg : Str → Option Value} {m : Fn} (hm : ∀ ns : List Int, ns.length ≤ 63 → ∃ g, m [.d (.list (ns.map .int))] = .ok (.fro (.bool true), g)) (H : Hp) (a : Addr) (ns : List Int) (hl : ns.length ≤ 63) (hS : SqL K H a (ns.map V.int)) :
    sp0 K 1 m [.ref a] H (fun v _ => v = .bl true) fun _ _ _ => False := by
  have rp : ∀ ns : List Int, RpAll K H (ns.map V.int) (ns.map PyData.int) := by
    intro ns
    induction ns with
    | nil => exact .nil
    | cons n ns ih => exact .cons (.int n) ih
  have hr := rel_args (K := K) (Sub.refl H) (RpAll.cons (Rp.lst hS (rp ns)) RpAll.nil)
  refine ⟨rfl, _, H, _, hr, fun i a z => by simp at z, ?_⟩
  obtain ⟨g, e⟩ := hm ns hl
  show (m [.d (.list (ns.map .int))]).good _ _
  rw [e]
  intro v F' H' r' s' rr
  exact Rp.blv rr
theorem walk_fw {l : PySem.W.OpenLaw} {k : Nat} {q : Program} {loose : List Str} {XP : (Str → Option Value) → Heap → Prop} {YP : World → Heap → Prop} {d : DefRec} {K : Params → PySem.W.Frag} {x : Str} {m : Fn}
    (hn : l.most = some 63) (hdf : d.params.defaults = []) (hr : Room k callerA) (hY : ∀ (w : World) (h : Heap), YP w h → (K w.params).In h) (hx : d.name = x)
    (hm : ∀ ns : List Int, ns.length ≤ 63 → ∃ g, m [.d (.list (ns.map .int))] = .ok (.fro (.bool true), g)) {p : Str}
    (F : ∀ (w : World) (mg : Str → Option Value) (h : Heap), (K w.params).In h → h.Ns mainGlobals mg → GF l.prog w (K w.params) mg k x [p] m) :
    PySem.W.WalkO q loose XP YP l.row.toRowW d [] (fun f vs => PySem.call f vs) := by
  refine walk_g (n := 63) (k := k) (CX := fun _ => CX0) (sp := fun w => sp0 (K w.params) 1 m) (x := p) hn (by decide) hdf hr hY ?_ (fun _ _ _ _ _ z => z)
  intro w mg fa h KX G hmg
  refine ⟨fun H a ns hl _ hS => law_end (P := l.prog) (w := w) (mg := mg) hm H a ns hl hS, ?_⟩
  obtain ⟨f, fd, h1, h2, h3, h4⟩ := (F w mg h KX G).ex
  rw [hx, h1] at hmg
  cases hmg
  exact ⟨fd, h3, fun base _ _ => h4 base⟩
end Fw

namespace Fw
open PySem L2 PySem.Spec PyProof.Rows

/-! ## owned cells by slot -/
def cellS : Option SV → Option Cell
  | some (.ow c) => some c
  | some (.io c) => some c
  | _ => none
def ownC (Γ : Gm) (i : Nat) : Option Cell := cellS Γ[i]?
def putS (c : Cell) : SV → SV
  | .io _ => .io c
  | _ => .ow c
def setC (Γ : Gm) (i : Nat) (c : Cell) : Gm := Γ.set i (putS c (Γ.getD i .no))
section
variable {B : Bd} {K : PySem.W.Frag} {F H : Hp} {σ : L2.St} {Γ : Gm}
theorem ownC_some {i : Nat} {c : Cell} (h : ownC Γ i = some c) : Γ[i]? = some (.ow c) ∨ Γ[i]? = some (.io c) := by
  unfold ownC cellS at h
  split at h
  · rename_i e; cases h; exact .inl e
  · rename_i e; cases h; exact .inr e
  · cases h
theorem getD_some {i : Nat} {v : V} (h : σ.getD i none = some v) : σ[i]? = some (some v) := by
  rw [List.getD_eq_getElem?_getD] at h
  cases q : σ[i]? with
  | none => rw [q] at h; cases h
  | some w => rw [q] at h; exact congrArg some h
theorem some_getD {i : Nat} {v : V} (h : σ[i]? = some (some v)) : σ.getD i none = some v := by
  rw [List.getD_eq_getElem?_getD, h]; rfl
theorem Rel.cell (r : Rel B K F H σ Γ) {i : Nat} {c : Cell} (h : ownC Γ i = some c) : ∃ a, σ[i]? = some (some (.ref a)) ∧ CellAt K F H a c ∧ F a = none ∧ B.U a = none ∧ Owns σ Γ i a := by
  have go : ∀ {sv : SV}, Γ[i]? = some sv → sv.owned = true → (∃ a, σ.getD i none = some (.ref a) ∧ CellAt K F H a c) → ∃ a, σ[i]? = some (some (.ref a)) ∧ CellAt K F H a c ∧ F a = none ∧ B.U a = none ∧ Owns σ Γ i a := by
    rintro sv e o ⟨a, ea, k⟩
    have hs := getD_some ea
    have ow : Owns σ Γ i a := ⟨⟨sv, e, o⟩, hs⟩
    exact ⟨a, hs, k, (r.ofr i a ow).1, (r.ofr i a ow).2, ow⟩
  rcases ownC_some h with e | e
  · obtain ⟨a, e1, q⟩ := r.sl i _ e
    exact go e rfl ⟨a, e1, q⟩
  · obtain ⟨a, _, e1, q⟩ := r.sl i _ e
    exact go e rfl ⟨a, e1, q⟩
/-- an owned cell changes -/
theorem Rel.setC (r : Rel B K F H σ Γ) {i : Nat} {c c' : Cell} {a : Addr} {o : HO} (h : ownC Γ i = some c) (hs : σ[i]? = some (some (.ref a))) (k : CellAt K F (upd H a o) a c') : Rel B K F (upd H a o) σ (setC Γ i c') := by
  rcases ownC_some h with e | e
  · have e2 : Fw.setC Γ i c' = Γ.set i (.ow c') := by unfold Fw.setC; rw [List.getD_eq_getElem?_getD, e]; rfl
    rw [e2]
    exact r.mut e rfl hs ⟨a, rfl, k⟩ rfl
  · have e2 : Fw.setC Γ i c' = Γ.set i (.io c') := by unfold Fw.setC; rw [List.getD_eq_getElem?_getD, e]; rfl
    rw [e2]
    obtain ⟨b, e0, e1, q⟩ := r.sl i _ e
    rw [some_getD hs] at e1
    cases e1
    exact r.mut e rfl hs ⟨a, e0, rfl, k⟩ rfl
end

/-! ## a list or dict that is lent to a call -/
inductive LA where
  | v (d : D)
  | l (i : Nat)
abbrev LM := Gm → Res (List LA × Gm)
inductive RpL (K : PySem.W.Frag) (F : Hp) (σ : L2.St) : List V → List LA → Prop
  | nil : RpL K F σ [] []
  | v {x : V} {xs : List V} {d : D} {ds : List LA} : Rp K F x d → RpL K F σ xs ds → RpL K F σ (x :: xs) (.v d :: ds)
  | l {a : Addr} {xs : List V} {i : Nat} {ds : List LA} : σ[i]? = some (some (.ref a)) → RpL K F σ xs ds → RpL K F σ (.ref a :: xs) (.l i :: ds)
def svOf (Γ : Gm) : LA → SV
  | .v d => .d d
  | .l i => match ownC Γ i with
    | some c => .io c
    | none => .no
def lends : List LA → List Nat
  | [] => []
  | .v _ :: ds => lends ds
  | .l i :: ds => i :: lends ds
def back1 (Γ : Gm) (i : Nat) : Option SV → Option Gm
  | some (.io c) => match ownC Γ i with
    | some _ => some (setC Γ i c)
    | none => none
  | _ => none
def backL : List LA → List SV → Gm → Option Gm
  | [], _, Γ => some Γ
  | .v _ :: ds, g, Γ => backL ds g.tail Γ
  | .l i :: ds, g, Γ => (back1 Γ i g.head?).bind fun Γ1 => backL ds g.tail Γ1
def lentR (las : List LA) (Γ : Gm) : Res (R × List SV) → Res (R × Gm)
  | .ok p => match backL las p.2 Γ with
    | some g => .ok (p.1, g)
    | none => .no
  | _ => .no
def callL (m : Fn) (las : List LA) (Γ : Gm) : Res (R × Gm) := if (lends las).Nodup ∧ (lends las).all (fun i => (ownC Γ i).isSome) = true then lentR las Γ (m (las.map (svOf Γ))) else .no
def eFnL (m : Fn) (ms : LM) : EM := fun Γ => (ms Γ).bind fun p => callL m p.1 p.2
def laNil : LM := fun Γ => .ok ([], Γ)
def laV (m : EM) (ms : LM) : LM := opd m fun d Γ => (ms Γ).bind fun p => .ok (.v d :: p.1, p.2)
def laL (i : Nat) (ms : LM) : LM := fun Γ => match ownC Γ i with
  | none => .no
  | some _ => (ms Γ).bind fun p => .ok (.l i :: p.1, p.2)
section
variable {K : PySem.W.Frag} {F F' : Hp} {σ : L2.St}
theorem RpL.mono (e : Sub F F') {vs : List V} {ds : List LA} (h : RpL K F σ vs ds) : RpL K F' σ vs ds := by
  induction h with
  | nil => exact .nil
  | v h _ ih => exact .v (h.mono e) ih
  | l h _ ih => exact .l h ih
theorem RpL.length {vs : List V} {ds : List LA} (h : RpL K F σ vs ds) : vs.length = ds.length := by
  induction h with
  | nil => rfl
  | v _ _ ih => rw [List.length_cons, List.length_cons, ih]
  | l _ _ ih => rw [List.length_cons, List.length_cons, ih]
theorem RpL.atV {vs : List V} {ds : List LA} (h : RpL K F σ vs ds) : ∀ {k : Nat} {d : D}, ds[k]? = some (.v d) → ∃ v, vs[k]? = some v ∧ Rp K F v d := by
  induction h with
  | nil => intro k d e; cases e
  | v h _ ih =>
    intro k d e
    cases k with
    | zero => cases e; exact ⟨_, rfl, h⟩
    | succ k => exact ih (k := k) e
  | l h _ ih =>
    intro k d e
    cases k with
    | zero => cases e
    | succ k => exact ih (k := k) e
theorem RpL.atL {vs : List V} {ds : List LA} (h : RpL K F σ vs ds) : ∀ {k i : Nat}, ds[k]? = some (.l i) → ∃ a, vs[k]? = some (.ref a) ∧ σ[i]? = some (some (.ref a)) := by
  induction h with
  | nil => intro k d e; cases e
  | v h _ ih =>
    intro k d e
    cases k with
    | zero => cases e
    | succ k => exact ih (k := k) e
  | l h _ ih =>
    intro k d e
    cases k with
    | zero => cases e; exact ⟨_, rfl, h⟩
    | succ k => exact ih (k := k) e
theorem lends_mem {ds : List LA} {i : Nat} : i ∈ lends ds ↔ ∃ k : Nat, ds[k]? = some (.l i) := by
  induction ds with
  | nil => simp [lends]
  | cons d ds ih =>
    cases d with
    | v d =>
      show i ∈ lends ds ↔ _
      rw [ih]
      constructor
      · rintro ⟨k, e⟩; exact ⟨k + 1, e⟩
      · rintro ⟨k, e⟩
        cases k with
        | zero => cases e
        | succ k => exact ⟨k, e⟩
    | l j =>
      show i ∈ j :: lends ds ↔ _
      rw [List.mem_cons, ih]
      constructor
      · rintro (e | ⟨k, e⟩)
        · subst e; exact ⟨0, rfl⟩
        · exact ⟨k + 1, e⟩
      · rintro ⟨k, e⟩
        cases k with
        | zero => cases e; exact .inl rfl
        | succ k => exact .inr ⟨k, e⟩
theorem lends_inj {ds : List LA} (h : (lends ds).Nodup) : ∀ {k l i : Nat}, ds[k]? = some (.l i) → ds[l]? = some (.l i) → k = l := by
  induction ds with
  | nil => intro k l i e; cases e
  | cons d ds ih =>
    cases d with
    | v d =>
      intro k l i e1 e2
      cases k with
      | zero => cases e1
      | succ k => cases l with
        | zero => cases e2
        | succ l => rw [ih h (k := k) (l := l) e1 e2]
    | l j =>
      have hc := List.nodup_cons.mp h
      intro k l i e1 e2
      cases k with
      | zero => cases l with
        | zero => rfl
        | succ l => cases e1; exact (hc.1 (lends_mem.mpr ⟨l, e2⟩)).elim
      | succ k => cases l with
        | zero => cases e2; exact (hc.1 (lends_mem.mpr ⟨k, e1⟩)).elim
        | succ l => rw [ih hc.2 (k := k) (l := l) e1 e2]
theorem setC_at {Γ : Gm} {i j : Nat} {c : Cell} {sv : SV} (h : (setC Γ i c)[j]? = some sv) : (j ≠ i ∧ Γ[j]? = some sv) ∨ (j = i ∧ sv = putS c (Γ.getD i .no)) := by
  unfold setC at h
  by_cases e : j = i
  · subst e
    have hi : j < Γ.length := by
      have := (List.getElem?_eq_some_iff.mp h).1
      simpa using this
    rw [List.getElem?_set_self hi] at h
    cases h
    exact .inr ⟨rfl, rfl⟩
  · rw [List.getElem?_set_ne (fun z => e z.symm)] at h
    exact .inl ⟨e, h⟩
/-- what the slots hold when a call has given back -/
theorem back_spec : ∀ {las : List LA} {g : List SV} {Γ Γ' : Gm}, backL las g Γ = some Γ' → Γ'.length = Γ.length ∧ ∀ j sv, Γ'[j]? = some sv → (Γ[j]? = some sv ∧ j ∉ lends las) ∨
    ∃ (k : Nat) (c c0 : Cell), las[k]? = some (.l j) ∧ g[k]? = some (.io c) ∧ ((Γ[j]? = some (.ow c0) ∧ sv = .ow c) ∨ (Γ[j]? = some (.io c0) ∧ sv = .io c)) := by
  intro las
  induction las with
  | nil =>
    intro g Γ Γ' h
    cases h
    exact ⟨rfl, fun j sv e => .inl ⟨e, List.not_mem_nil⟩⟩
  | cons d las ih =>
    intro g Γ Γ' h
    have tl : ∀ {k : Nat} {c : Cell}, g.tail[k]? = some (SV.io c) → g[k + 1]? = some (SV.io c) := by
      intro k c e
      rw [List.getElem?_tail] at e
      exact e
    cases d with
    | v d =>
      obtain ⟨l, q⟩ := ih (g := g.tail) h
      refine ⟨l, fun j sv e => ?_⟩
      rcases q j sv e with q | ⟨k, c, c0, e1, e2, e3⟩
      · exact .inl q
      · exact .inr ⟨k + 1, c, c0, e1, tl e2, e3⟩
    | l i =>
      simp only [backL] at h
      cases hb : back1 Γ i g.head? with
      | none => rw [hb] at h; cases h
      | some Γ1 =>
        rw [hb] at h
        simp only [Option.bind_some] at h
        unfold back1 at hb
        split at hb
        · rename_i c hg
          split at hb
          · rename_i c0 hc
            cases hb
            have hg0 : g[0]? = some (.io c) := by rw [← List.head?_eq_getElem?]; exact hg
            obtain ⟨l, q⟩ := ih (g := g.tail) h
            have mine : ∀ sv, sv = putS c (Γ.getD i .no) → ∃ (k : Nat) (c1 c0 : Cell), (LA.l i :: las)[k]? = some (.l i) ∧ g[k]? = some (.io c1) ∧ ((Γ[i]? = some (.ow c0) ∧ sv = .ow c1) ∨ (Γ[i]? = some (.io c0) ∧ sv = .io c1)) := by
              intro sv e
              rcases ownC_some hc with e1 | e1
              · rw [List.getD_eq_getElem?_getD, e1] at e
                exact ⟨0, c, c0, rfl, hg0, .inl ⟨e1, e⟩⟩
              · rw [List.getD_eq_getElem?_getD, e1] at e
                exact ⟨0, c, c0, rfl, hg0, .inr ⟨e1, e⟩⟩
            refine ⟨by rw [l]; unfold setC; rw [List.length_set], fun j sv e => ?_⟩
            rcases q j sv e with ⟨q1, q2⟩ | ⟨k, c1, c2, e1, e2, e3⟩
            · rcases setC_at q1 with ⟨n, q3⟩ | ⟨n, q3⟩
              · refine .inl ⟨q3, ?_⟩
                show j ∉ i :: lends las
                rw [List.mem_cons]
                exact fun z => z.elim n q2
              · subst n
                exact .inr (mine sv q3)
            · refine .inr ?_
              by_cases n : j = i
              · subst n
                have h0 : ∃ c0, Γ[j]? = some (.ow c0) ∧ (setC Γ j c)[j]? = some (.ow c) ∨ Γ[j]? = some (.io c0) ∧ (setC Γ j c)[j]? = some (.io c) := by
                  have hj : j < Γ.length := by
                    rcases ownC_some hc with e | e <;> exact (List.getElem?_eq_some_iff.mp e).1
                  rcases ownC_some hc with e | e
                  · refine ⟨c0, .inl ⟨e, ?_⟩⟩
                    unfold setC
                    rw [List.getElem?_set_self hj, List.getD_eq_getElem?_getD, e]
                    rfl
                  · refine ⟨c0, .inr ⟨e, ?_⟩⟩
                    unfold setC
                    rw [List.getElem?_set_self hj, List.getD_eq_getElem?_getD, e]
                    rfl
                obtain ⟨c3, h0⟩ := h0
                refine ⟨k + 1, c1, c3, e1, tl e2, ?_⟩
                rcases h0 with ⟨a1, a2⟩ | ⟨a1, a2⟩ <;> rcases e3 with ⟨b1, b2⟩ | ⟨b1, b2⟩
                · exact .inl ⟨a1, b2⟩
                · rw [a2] at b1; cases b1
                · rw [a2] at b1; cases b1
                · exact .inr ⟨a1, b2⟩
              · refine ⟨k + 1, c1, c2, e1, tl e2, ?_⟩
                have e4 : ∀ w, (setC Γ i c)[j]? = some w → Γ[j]? = some w := by
                  intro w hw
                  rcases setC_at hw with ⟨_, q⟩ | ⟨q, _⟩
                  · exact q
                  · exact (n q).elim
                rcases e3 with ⟨b1, b2⟩ | ⟨b1, b2⟩
                · exact .inl ⟨e4 _ b1, b2⟩
                · exact .inr ⟨e4 _ b1, b2⟩
          · cases hb
        · cases hb
end
end Fw

namespace Fw
open PySem L2 PySem.Spec PyProof.Rows
open Classical in
/-- the frame of a call that is lent some cells -/
noncomputable def lentU (σ : L2.St) (las : List LA) (H : Hp) : Hp := fun a => if ∃ i ∈ lends las, σ[i]? = some (some (.ref a)) then none else H a
def lentP (σ : L2.St) : LA → Option Addr
  | .v _ => none
  | .l i => match σ.getD i none with
    | some (.ref a) => some a
    | _ => none
section
variable {B : Bd} {K : PySem.W.Frag} {F H : Hp} {σ : L2.St} {Γ : Gm}
theorem lentU_some {las : List LA} {a : Addr} {o : HO} (h : lentU σ las H a = some o) : H a = some o := by
  unfold lentU at h
  split at h
  · cases h
  · exact h
theorem lentU_none {las : List LA} {a : Addr} (h : ∃ i ∈ lends las, σ[i]? = some (some (.ref a))) : lentU σ las H a = none := if_pos h
theorem lentU_keep {las : List LA} {a : Addr} (h : ¬ ∃ i ∈ lends las, σ[i]? = some (some (.ref a))) : lentU σ las H a = H a := if_neg h
theorem lentP_l {i : Nat} {a : Addr} (h : σ[i]? = some (some (.ref a))) : lentP σ (.l i) = some a := by
  have e := some_getD h
  show (match σ.getD i none with | some (.ref a) => some a | _ => none) = some a
  rw [e]
theorem rel_lent {vs : List V} {las : List LA} (r : Rel B K F H σ Γ) (h : RpL K F σ vs las) (nd : (lends las).Nodup) (ow : ∀ i ∈ lends las, (ownC Γ i).isSome = true) :
    Rel ⟨lentU σ las H, F, las.map (lentP σ), vs.length⟩ K F H (vs.map some) (las.map (svOf Γ)) := by
  have own : ∀ k a, Owns (vs.map some) (las.map (svOf Γ)) k a → ∃ i, las[k]? = some (.l i) ∧ Owns σ Γ i a := by
    rintro k a ⟨⟨sv, e, o⟩, e2⟩
    rw [List.getElem?_map] at e e2
    cases q : las[k]? with
    | none => rw [q] at e; cases e
    | some w =>
      rw [q] at e
      cases e
      cases w with
      | v d => cases o
      | l i =>
        obtain ⟨b, e3, e4⟩ := h.atL q
        rw [e3] at e2
        cases e2
        obtain ⟨c, hc⟩ := Option.isSome_iff_exists.mp (ow i (lends_mem.mpr ⟨k, q⟩))
        obtain ⟨b, e5, _, _, _, o2⟩ := r.cell hc
        rw [e4] at e5
        cases e5
        exact ⟨i, rfl, o2⟩
  refine ⟨by rw [List.length_map], by rw [List.length_map, h.length], fun a o e => lentU_some e, r.fh, Sub.refl _, fun a o e => .inl (fun z => by rw [show F a = none from z] at e; cases e), ?_, ?_, ?_⟩
  · intro k sv e
    rw [List.getElem?_map] at e
    cases q : las[k]? with
    | none => rw [q] at e; cases e
    | some w =>
      rw [q] at e
      cases e
      cases w with
      | v d =>
        obtain ⟨x, e1, e2⟩ := h.atV q
        exact ⟨x, by rw [List.getD_eq_getElem?_getD, List.getElem?_map, e1]; rfl, e2⟩
      | l i =>
        obtain ⟨a, e3, e4⟩ := h.atL q
        obtain ⟨c, hc⟩ := Option.isSome_iff_exists.mp (ow i (lends_mem.mpr ⟨k, q⟩))
        obtain ⟨b, e5, kc, _, _, _⟩ := r.cell hc
        rw [e4] at e5
        cases e5
        show SlotOk K F H _ _ (match ownC Γ i with | some c => SV.io c | none => SV.no)
        rw [hc]
        refine ⟨a, ?_, by rw [List.getD_eq_getElem?_getD, List.getElem?_map, e3]; rfl, kc⟩
        show (las.map (lentP σ)).getD k none = some a
        rw [List.getD_eq_getElem?_getD, List.getElem?_map, q]
        exact lentP_l e4
  · intro j k a h1 h2
    obtain ⟨i, e1, o1⟩ := own j a h1
    obtain ⟨i2, e2, o2⟩ := own k a h2
    have := r.inj i i2 a o1 o2
    subst this
    exact lends_inj nd e1 e2
  · intro k a h1
    obtain ⟨i, e1, o1⟩ := own k a h1
    exact ⟨(r.ofr i a o1).1, lentU_none ⟨i, lends_mem.mpr ⟨k, e1⟩, o1.2⟩⟩
theorem lent_pins {vs : List V} {las : List LA} (h : RpL K F σ vs las) {U : Hp} {n : Nat} : ∀ i a, (⟨U, F, las.map (lentP σ), n⟩ : Bd).π.getD i none = some a → vs[i]? = some (.ref a) := by
  intro k a e
  have e : (las.map (lentP σ)).getD k none = some a := e
  rw [List.getD_eq_getElem?_getD, List.getElem?_map] at e
  cases q : las[k]? with
  | none => rw [q] at e; cases e
  | some w =>
    rw [q] at e
    cases w with
    | v d => cases e
    | l i =>
      obtain ⟨b, e3, e4⟩ := h.atL q
      have e : lentP σ (.l i) = some a := e
      rw [lentP_l e4] at e
      cases e
      exact e3
/-- what a call gives back -/
theorem rel_back {vs : List V} {las : List LA} {F' H' : Hp} {g : List SV} {Γ' : Gm} (r : Rel B K F H σ Γ) (h : RpL K F σ vs las) (nd : (lends las).Nodup) (ow : ∀ i ∈ lends las, (ownC Γ i).isSome = true)
    (r' : Rel ⟨lentU σ las H, F, las.map (lentP σ), vs.length⟩ K F' H' (vs.map some) g) (sf : Sub F F') (hb : backL las g Γ = some Γ') :
    Rel B K F' H' σ Γ' ∧ ∀ v q, RR ⟨lentU σ las H, F, las.map (lentP σ), vs.length⟩ K F' H' (vs.map some) g v q → RR B K F' H' σ Γ' v q := by
  obtain ⟨hl, hs⟩ := back_spec hb
  -- lent slots own in the callee too
  have lent : ∀ (j k : Nat) (a : Addr) (c : Cell), las[k]? = some (.l j) → g[k]? = some (.io c) → σ[j]? = some (some (.ref a)) → CellAt K F' H' a c ∧ F' a = none ∧ Owns (vs.map some) g k a := by
    intro j k a c e1 e2 e3
    obtain ⟨b, e4, e5⟩ := h.atL e1
    rw [e3] at e5
    cases e5
    obtain ⟨b, _, e6, kc⟩ := r'.sl k _ e2
    have e7 : (vs.map some).getD k Option.none = some (.ref a) := by rw [List.getD_eq_getElem?_getD, List.getElem?_map, e4]; rfl
    rw [e7] at e6
    cases e6
    have o : Owns (vs.map some) g k a := ⟨⟨_, e2, rfl⟩, by rw [List.getElem?_map, e4]; rfl⟩
    exact ⟨kc, (r'.ofr k a o).1, o⟩
  have own : ∀ j a, Owns σ Γ' j a → Owns σ Γ j a ∧ ((j ∉ lends las ∧ ∃ sv, Γ[j]? = some sv ∧ Γ'[j]? = some sv) ∨ ∃ (k : Nat) (c : Cell), las[k]? = some (.l j) ∧ g[k]? = some (.io c)) := by
    rintro j a ⟨⟨sv, e, o⟩, e2⟩
    rcases hs j sv e with ⟨q, n⟩ | ⟨k, c, c0, e3, e4, ⟨e5, _⟩ | ⟨e5, _⟩⟩
    · exact ⟨⟨⟨sv, q, o⟩, e2⟩, .inl ⟨n, sv, q, e⟩⟩
    · exact ⟨⟨⟨_, e5, rfl⟩, e2⟩, .inr ⟨k, c, e3, e4⟩⟩
    · exact ⟨⟨⟨_, e5, rfl⟩, e2⟩, .inr ⟨k, c, e3, e4⟩⟩
  have isl : ∀ i ∈ lends las, ∀ a, σ[i]? = some (some (.ref a)) → Owns σ Γ i a := by
    intro i hi a e
    obtain ⟨c, hc⟩ := Option.isSome_iff_exists.mp (ow i hi)
    obtain ⟨b, e5, _, _, _, o⟩ := r.cell hc
    rw [e] at e5
    cases e5
    exact o
  have nl : ∀ j a, j ∉ lends las → Owns σ Γ j a → lentU σ las H a = H a := by
    intro j a hj o
    refine lentU_keep ?_
    rintro ⟨i, hi, e⟩
    have := r.inj i j a (isl i hi a e) o
    subst this
    exact hj hi
  have un : ∀ a, lentU σ las H a = none → B.U a = none := by
    intro a e
    unfold lentU at e
    split at e
    · rename_i z
      obtain ⟨i, hi, e2⟩ := z
      exact (r.ofr i a (isl i hi a e2)).2
    · exact r.uh.ne e
  have rel : Rel B K F' H' σ Γ' := by
    refine ⟨r.lσ, hl.trans r.lΓ, ?_, r'.fh, r.f0.trans sf, ?_, ?_, fun j k a h1 h2 => r.inj j k a (own j a h1).1 (own k a h2).1, ?_⟩
    · intro a o e
      refine r'.uh a o ?_
      show lentU σ las H a = some o
      rw [lentU_keep, r.uh a o e]
      rintro ⟨i, hi, e2⟩
      rw [(r.ofr i a (isl i hi a e2)).2] at e
      cases e
    · intro a o e
      rcases r'.nw a o e with q | q
      · cases q1 : F a with
        | none => exact absurd q1 q
        | some u => exact r.nw a u q1
      · exact .inr (un a q)
    · intro j sv e
      rcases hs j sv e with ⟨q, n⟩ | ⟨k, c, c0, e3, e4, ⟨e5, e6⟩ | ⟨e5, e6⟩⟩
      · refine (r.sl j sv q).mono sf fun o a ea => ?_
        have ow1 : Owns σ Γ j a := ⟨⟨sv, q, o⟩, getD_some ea⟩
        obtain ⟨u, hu⟩ := ow1.some r
        have := nl j a n ow1
        rw [hu] at this
        rw [hu]
        exact r'.uh a u this
      · subst e6
        obtain ⟨a, e7, _⟩ := r.sl j _ e5
        exact ⟨a, e7, (lent j k a c e3 e4 (getD_some e7)).1⟩
      · subst e6
        obtain ⟨a, e8, e7, _⟩ := r.sl j _ e5
        exact ⟨a, e8, e7, (lent j k a c e3 e4 (getD_some e7)).1⟩
    · intro j a h1
      obtain ⟨o, q⟩ := own j a h1
      refine ⟨?_, (r.ofr j a o).2⟩
      rcases q with ⟨n, sv, e1, e2⟩ | ⟨k, c, e3, e4⟩
      · cases q : F' a with
        | none => rfl
        | some w =>
          rcases r'.nw a w q with q1 | q1
          · exact absurd (r.ofr j a o).1 q1
          · obtain ⟨u, hu⟩ := o.some r
            have q1 : lentU σ las H a = none := q1
            rw [nl j a n o, hu] at q1
            cases q1
      · exact (lent j k a c e3 e4 o.2).2.1
  refine ⟨rel, fun v q rr => ?_⟩
  cases q with
  | fro d => exact rr
  | own c =>
    obtain ⟨a, e, f, u, n, k⟩ := rr
    refine ⟨a, e, f, un a u, fun j o => ?_, k⟩
    obtain ⟨o1, q⟩ := own j a o
    rcases q with ⟨nn, sv, e1, e2⟩ | ⟨k2, c2, e3, e4⟩
    · obtain ⟨w, hw⟩ := o1.some r
      have u : lentU σ las H a = none := u
      rw [nl j a nn o1, hw] at u
      cases u
    · exact n k2 (lent j k2 a c2 e3 e4 o1.2).2.2
end

/-! ## the rules -/
def DenL (X : Cx) (E : XK) (n : Nat) (t : TA) (m : LM) : Prop := ∀ (B : Bd) (F H : Hp) (σ : L2.St) (Γ : Gm) (Q : List V → Hp → Prop), Rel B X.K F H σ Γ →
  (m Γ).good (fun p => ∀ vs F' H', Rel B X.K F' H' σ p.2 → Sub F F' → RpL X.K F' σ vs p.1 → vs.length = n → Q vs H') (XPx X B F E) → t σ H Q
def DL (X : Cx) (E : XK) (es : List Expr) (m : LM) : Prop := ∃ t, PA X es t ∧ DenL X E es.length t m
section
variable {X : Cx} {E : XK}
theorem dl_nil : DL X E [] laNil := ⟨_, pa_nil, fun B F H σ Γ Q r g => g [] F H r (Sub.refl _) .nil rfl⟩
theorem dl_v {e : Expr} {es : List Expr} {m : EM} {ms : LM} (he : DE X E e m) (hs : DL X E es ms) (hst : starEach (e :: es) X.env = (false, eval e X.env) :: starEach es X.env := by rfl) : DL X E (e :: es) (laV m ms) := by
  obtain ⟨t, p, h⟩ := he
  obtain ⟨ts, ps, hs⟩ := hs
  refine ⟨_, pa_cons p ps hst, ?_⟩
  intro B F H σ Γ Q r g
  refine h.opd r g ?_
  intro v d Γ1 F1 H1 r1 s1 rp g1
  refine hs B F1 H1 σ Γ1 _ r1 ?_
  rw [Res.good_bind] at g1
  refine g1.mono ?_ fun _ _ z => z
  intro p hp vs F' H' r' s' rl hn
  exact hp _ F' H' r' (s1.trans s') (.v (rp.mono s') rl) (by rw [List.length_cons, hn, List.length_cons])
theorem dl_l (i : Nat) {x : Str} {pos : Pos} {es : List Expr} {ms : LM} (hs : DL X E es ms) (hN : X.N[i]? = some x := by rfl) (hv : Vis X.env.scope x := by first | exact Or.inl rfl | exact Or.inr (Or.inl rfl) | exact Or.inr (Or.inr rfl)) (hd : (x == ("__debug__" : Str)) = false := by decide)
    (hcd : (x == ("__classdict__" : Str)) = false := by decide) (hst : starEach (.Name x pos :: es) X.env = (false, eval (.Name x pos) X.env) :: starEach es X.env := by rfl) : DL X E (.Name x pos :: es) (laL i ms) := by
  obtain ⟨ts, ps, hs⟩ := hs
  refine ⟨_, pa_cons (pe_var hN hv hd hcd) ps hst, ?_⟩
  intro B F H σ Γ Q r g
  unfold laL at g
  split at g
  · cases g
  · rename_i c hc
    obtain ⟨a, e1, _⟩ := r.cell hc
    refine ⟨.ref a, e1, ?_⟩
    refine hs B F H σ Γ _ r ?_
    rw [Res.good_bind] at g
    refine g.mono ?_ fun _ _ z => z
    intro p hp vs F' H' r' s' rl hn
    exact hp _ F' H' r' s' (.l e1 rl) (by rw [List.length_cons, hn, List.length_cons])
theorem Den.fl {np n : Nat} {t : TA} {m : Fn} {ms : LM} (h : DenL X E n t ms) (hn : n = np) : Den X E (gCall (sp0 X.K np m) E0 t) (eFnL m ms) := by
  intro B F H σ Γ Q r g
  refine h B F H σ Γ _ r ?_
  unfold eFnL at g
  rw [Res.good_bind] at g
  refine g.mono ?_ fun _ _ z => z
  intro p g1 vs F1 H1 r1 s1 rl hl
  unfold callL at g1
  split at g1
  · rename_i hc
    obtain ⟨nd, ow⟩ := hc
    rw [List.all_eq_true] at ow
    show sp0 X.K np m vs H1 Q E0
    refine ⟨hl.trans hn, _, F1, _, rel_lent r1 rl nd ow, lent_pins rl, ?_⟩
    cases q : m (p.1.map (svOf p.2)) with
    | ok p2 =>
      rw [q] at g1
      simp only [lentR] at g1
      split at g1
      · rename_i g' hb
        intro v F' H' r' s' rr
        obtain ⟨a, b⟩ := rel_back r1 rl nd ow r' s' hb
        exact g1 v F' H' a (s1.trans s') (b v p2.1 rr)
      · cases g1
    | er x g' => rw [q] at g1; exact g1.elim
    | no => rw [q] at g1; exact g1.elim
  · cases g1
theorem de_fl {k : Nat} {ps : List Str} {m : Fn} {x : Str} {e : Expr} {es : List Expr} {ms : LM} {p pos : Pos} (G : GF X.prog X.w X.K X.mg k x ps m) (ha : DL X E (e :: es) ms)
    (hgd : X.A.guards = some []) (hr : Room k X.A) (hn : (e :: es).length = ps.length := by rfl) (hg : Gl X x := by rfl)
    (hdb : (x == ("__debug__" : Str)) = false := by decide) (he : starEach (e :: es) X.env = (false, eval e X.env) :: starEach es X.env := by rfl) (hpl : (backTo pos (starEach es X.env)).any (·.1) = false := by rfl) :
    DE X E (.Call (.Name x p) (e :: es) [] pos) (eFnL m ms) := by
  obtain ⟨f, fd, h1, h2, h3, h4⟩ := G.ex
  obtain ⟨t, pa, h⟩ := ha
  exact ⟨_, ge_call (h4 _) hgd hr h3 pass0 hg h1 h2 pa hdb he hpl, Den.fl h hn⟩
end
end Fw

namespace Fw
open PySem L2 PySem.Spec PyProof.Rows

/-! ## operands that are looked at, not frozen -/
inductive Pk where
  | v (d : D)
  | s (i : Nat)
abbrev OM := Gm → Res (Pk × Gm)
def pkS : Option SV → Option D
  | some (.d d) => some d
  | some (.ow c) => some c.toD
  | some (.io c) => some c.toD
  | _ => none
def pkD (Γ : Gm) : Pk → Option D
  | .v d => some d
  | .s i => pkS Γ[i]?
def pkO (Γ : Gm) : Pk → Bool
  | .v _ => false
  | .s i => (ownC Γ i).isSome
def PkOk (K : PySem.W.Frag) (F : Hp) (σ : L2.St) (v : V) : Pk → Prop
  | .v d => Rp K F v d
  | .s i => σ[i]? = some (some v)
def oV (m : EM) : OM := opd m fun d Γ => .ok (.v d, Γ)
def oN (i : Nat) : OM := fun Γ => match pkS Γ[i]? with
  | some _ => .ok (.s i, Γ)
  | none => .no
def sclr : D → Bool
  | .none => true
  | .bool _ => true
  | .int _ => true
  | .str _ => true
  | _ => false
def liftP (own : Bool) (Γ : Gm) : Res R → Res (R × Gm)
  | .ok (.fro d) => if own = true ∧ sclr d = false then .no else .ok (.fro d, Γ)
  | .ok (.own c) => if own = true then .no else .ok (.own c, Γ)
  | _ => .no
def binP (f : D → D → Res R) (p q : Pk) (Γ : Gm) : Res (R × Gm) := match pkD Γ p, pkD Γ q with
  | some x, some y => liftP (pkO Γ p || pkO Γ q) Γ (f x y)
  | _, _ => .no
def unP (f : D → Res R) (p : Pk) (Γ : Gm) : Res (R × Gm) := match pkD Γ p with
  | some x => liftP (pkO Γ p) Γ (f x)
  | none => .no
def eBinO (f : D → D → Res R) (oa ob : OM) : EM := fun Γ => (oa Γ).bind fun p => (ob p.2).bind fun q => binP f p.1 q.1 q.2
def eUnO (f : D → Res R) (oa : OM) : EM := fun Γ => (oa Γ).bind fun p => unP f p.1 p.2
def tNm (i : Nat) : TM := fun Γ => match pkS Γ[i]? with
  | some d => truOf d Γ
  | none => .no
section
variable {X : Cx} {E : XK} {B : Bd} {K : PySem.W.Frag} {F F' G H H' : Hp} {σ : L2.St} {Γ : Gm}
theorem PkOk.mono (e : Sub F F') {v : V} {p : Pk} (h : PkOk K F σ v p) : PkOk K F' σ v p := by
  cases p with
  | v d => exact Rp.mono e h
  | s i => exact h
theorem Rp.scl {v : V} {d : D} (h : Rp K F v d) (e : sclr d = true) : ∀ G, Rp K G v d := by
  intro G
  cases h with
  | non => exact .non
  | bl b => exact .bl b
  | int i => exact .int i
  | str x => exact .str x
  | lst _ _ => cases e
  | tup _ _ => cases e
  | dct _ _ _ => cases e
theorem Rel.pkSlot (r : Rel B K F H σ Γ) {i : Nat} {d : D} (h : pkS Γ[i]? = some d) : ∃ v, σ[i]? = some (some v) ∧ ((ownC Γ i = none ∧ Rp K F v d) ∨ ∃ a c, v = .ref a ∧ ownC Γ i = some c ∧ c.toD = d ∧ CellAt K F H a c ∧ F a = none) := by
  cases q : ownC Γ i with
  | some c =>
    obtain ⟨a, e1, k, f, _, _⟩ := r.cell q
    refine ⟨_, e1, .inr ⟨a, c, rfl, rfl, ?_, k, f⟩⟩
    rcases ownC_some q with e | e <;> rw [e] at h <;> cases h <;> rfl
  | none =>
    unfold ownC at q
    cases e : Γ[i]? with
    | none => rw [e] at h; cases h
    | some sv =>
      rw [e] at h q
      cases sv with
      | no => cases h
      | d d' => cases h; obtain ⟨v, e1, e2⟩ := r.at e; exact ⟨v, e1, .inl ⟨rfl, e2⟩⟩
      | ow c => cases q
      | io c => cases q
theorem CellAt.seen {a : Addr} {c : Cell} (k : CellAt K F H a c) (s : Sub F G) (sg : Sub G H) : ∃ G', Sub G G' ∧ Sub G' H ∧ Rp K G' (.ref a) c.toD := by
  obtain ⟨o, ho⟩ := k.some
  have sG : Sub G (upd G a o) := by
    intro b w e
    by_cases z : b = a
    · subst z
      rw [upd_same, ← ho]
      exact (sg b w e).symm ▸ rfl
    · rw [upd_ne z]; exact e
  have sH : Sub (upd G a o) H := by
    intro b w e
    by_cases z : b = a
    · subst z; rw [upd_same] at e; cases e; exact ho
    · rw [upd_ne z] at e; exact sg b w e
  refine ⟨upd G a o, sG, sH, ?_⟩
  cases c with
  | lst xs =>
    obtain ⟨vs, h1, h2⟩ := k
    rw [h1] at ho; cases ho
    exact .lst (SqL.of upd_same) (h2.mono (s.trans sG))
  | dct kvs =>
    obtain ⟨vs, h1, h2⟩ := k
    rw [h1] at ho; cases ho
    exact .dct upd_same (h2.mono (s.trans sG)) rfl
theorem Rel.peek (r : Rel B K F H σ Γ) (s : Sub F G) (sg : Sub G H) {v : V} {p : Pk} {d : D} (hp : PkOk K F σ v p) (e : pkD Γ p = some d) : ∃ G', Sub G G' ∧ Sub G' H ∧ Rp K G' v d ∧ (pkO Γ p = false → G' = G) := by
  cases p with
  | v d' => cases e; exact ⟨G, Sub.refl _, sg, Rp.mono s hp, fun _ => rfl⟩
  | s i =>
    obtain ⟨w, e1, q⟩ := r.pkSlot (i := i) (d := d) e
    have hp : σ[i]? = some (some v) := hp
    rw [hp] at e1
    cases e1
    rcases q with ⟨q, rp⟩ | ⟨a, c, e2, q, e3, k, _⟩
    · exact ⟨G, Sub.refl _, sg, rp.mono s, fun _ => rfl⟩
    · subst e2 e3
      obtain ⟨G', a1, a2, a3⟩ := k.seen s sg
      exact ⟨G', a1, a2, a3, fun z => by have z : (ownC Γ i).isSome = false := z; rw [q] at z; cases z⟩
theorem Grow.under (s : Sub F G) (g : Grow G H F' H') : Grow F H F H' := ⟨g.hh, Sub.refl _, (s.trans g.ff).trans g.fh, fun a o e => .inl (by rw [e]; simp)⟩
theorem liftP_good {F0 : Hp} {own : Bool} {q : Res R} {Q : VK} {kx : Ex → Gm → Prop} (r : Rel B K F H σ Γ) (s0 : Sub F0 F) (s : Sub F G) (sg : Sub G H) (ho : own = false → G = F)
    (g : (liftP own Γ q).good (fun p => ∀ v F' H', Rel B K F' H' σ p.2 → Sub F0 F' → RR B K F' H' σ p.2 v p.1 → Q v H') kx) :
    q.good (fun q => ∀ z F' H', Grow G H F' H' → NR K F' H H' z q → Q z H') (fun _ _ => False) := by
  cases q with
  | er x g' => exact g.elim
  | no => exact g
  | ok q =>
    intro z F' H' gr nr
    cases q with
    | fro d =>
      simp only [liftP] at g
      split at g
      · cases g
      · rename_i hn
        have g : ∀ v F' H', Rel B K F' H' σ Γ → Sub F0 F' → RR B K F' H' σ Γ v (.fro d) → Q v H' := g
        cases own with
        | false =>
          have e := ho rfl
          subst e
          exact g z F' H' (r.grow gr) (s0.trans gr.ff) nr
        | true =>
          have hs : sclr d = true := by
            cases h : sclr d with
            | true => rfl
            | false => exact (hn ⟨rfl, h⟩).elim
          have nr : Rp K F' z d := nr
          exact g z F H' (r.grow (Grow.under s gr)) s0 (nr.scl hs F)
    | own c =>
      simp only [liftP] at g
      split at g
      · cases g
      · rename_i hn
        have g : ∀ v F' H', Rel B K F' H' σ Γ → Sub F0 F' → RR B K F' H' σ Γ v (.own c) → Q v H' := g
        cases own with
        | false =>
          have e := ho rfl
          subst e
          exact g z F' H' (r.grow gr) (s0.trans gr.ff) (nr.rr r)
        | true => exact (hn rfl).elim
def DenP (X : Cx) (E : XK) (t : TE) (m : OM) : Prop := ∀ (B : Bd) (F H : Hp) (σ : L2.St) (Γ : Gm) (Q : VK), Rel B X.K F H σ Γ →
  (m Γ).good (fun p => ∀ v F' H', Rel B X.K F' H' σ p.2 → Sub F F' → PkOk X.K F' σ v p.1 → Q v H') (XPx X B F E) → t σ H Q
def DP (X : Cx) (E : XK) (e : Expr) (m : OM) : Prop := ∃ t, PE X e t ∧ DenP X E t m
theorem DenP.raw {β : Type} {t : TE} {m : OM} {k : Pk × Gm → Res β} {kk : β → Prop} {Q : VK} (h : DenP X E t m) (r : Rel B X.K F H σ Γ) (g : ((m Γ).bind k).good kk (XPx X B F E))
    (c : ∀ v q Γ1 F1 H1, Rel B X.K F1 H1 σ Γ1 → Sub F F1 → PkOk X.K F1 σ v q → (k (q, Γ1)).good kk (XPx X B F1 E) → Q v H1) : t σ H Q := by
  refine h B F H σ Γ Q r ?_
  rw [Res.good_bind] at g
  refine g.mono ?_ fun _ _ z => z
  intro p hp v F' H' r' s' pk
  exact c v _ _ _ _ r' s' pk (hp.mono (fun _ z => z) fun _ _ z => z.mono s')
theorem dp_v {e : Expr} {m : EM} (h : DE X E e m) : DP X E e (oV m) := by
  obtain ⟨t, p, h⟩ := h
  refine ⟨t, p, ?_⟩
  intro B F H σ Γ Q r g
  refine h.opd r g ?_
  intro v d Γ1 F1 H1 r1 s1 rp g1
  exact g1 v F1 H1 r1 s1 rp
theorem dp_n (i : Nat) {x : Str} {pos : Pos} (hN : X.N[i]? = some x := by rfl) (hv : Vis X.env.scope x := by first | exact Or.inl rfl | exact Or.inr (Or.inl rfl) | exact Or.inr (Or.inr rfl)) (hd : (x == ("__debug__" : Str)) = false := by decide)
    (hcd : (x == ("__classdict__" : Str)) = false := by decide) : DP X E (.Name x pos) (oN i) := by
  refine ⟨_, pe_var hN hv hd hcd, ?_⟩
  intro B F H σ Γ Q r g
  unfold oN at g
  split at g
  · rename_i d e
    obtain ⟨v, e1, _⟩ := r.pkSlot e
    exact ⟨v, e1, g v F H r (Sub.refl _) e1⟩
  · cases g
theorem DenP.bin {K : PySem.W.Frag} {ta tb : TE} {f : D → D → Res R} {oa ob : OM} (ha : DenP X E ta oa) (hb : DenP X E tb ob) (hK : K = X.K) : Den X E (fun σ H Q => ta σ H fun x H1 => tb σ H1 fun y H2 => rD2 X.K f x y H2 Q) (eBinO f oa ob) := by
  intro B F H σ Γ Q r g
  refine ha.raw r g ?_
  intro v p Γ1 F1 H1 r1 s1 pk g1
  refine hb.raw r1 g1 ?_
  intro w q Γ2 F2 H2 r2 s2 pq g2
  simp only [binP] at g2
  split at g2
  · rename_i x y e1 e2
    obtain ⟨G1, a1, a2, a3, a4⟩ := r2.peek (Sub.refl _) r2.fh (pk.mono s2) e1
    obtain ⟨G2, b1, b2, b3, b4⟩ := r2.peek a1 a2 pq e2
    refine ⟨G2, [x, y], b2, .cons (a3.mono b1) (.cons b3 .nil), liftP_good (own := pkO Γ2 p || pkO Γ2 q) (kx := XPx X B F2 E) r2 (s1.trans s2) (a1.trans b1) b2 ?_ g2⟩
    intro z
    rw [Bool.or_eq_false_iff] at z
    rw [b4 z.2, a4 z.1]
  · cases g2
theorem DenP.un {ta : TE} {f : D → Res R} {oa : OM} (ha : DenP X E ta oa) : Den X E (fun σ H Q => ta σ H fun x H1 => rD X.K (one f) [x] H1 Q) (eUnO f oa) := by
  intro B F H σ Γ Q r g
  refine ha.raw r g ?_
  intro v p Γ1 F1 H1 r1 s1 pk g1
  simp only [unP] at g1
  split at g1
  · rename_i x e1
    obtain ⟨G1, a1, a2, a3, a4⟩ := r1.peek (Sub.refl _) r1.fh pk e1
    refine ⟨G1, [x], a2, .cons a3 .nil, liftP_good (own := pkO Γ1 p) (kx := XPx X B F1 E) r1 s1 a1 a2 ?_ g1⟩
    intro z
    rw [a4 z]
  · cases g1
theorem de_binO {op : Operator} {f : D → D → Res R} {a b : Expr} {ma mb : OM} {pos : Pos} (ho : OpR X (binaryOp op) (rD2 X.K f)) (ha : DP X E a ma) (hb : DP X E b mb) : DE X E (.BinOp a op b pos) (eBinO f ma mb) := by
  obtain ⟨ta, pa, ha⟩ := ha
  obtain ⟨tb, pb, hb⟩ := hb
  exact ⟨_, pe_op ho pa pb, ha.bin hb rfl⟩
theorem de_cmpO {op : CmpOp} {f : D → D → Res R} {a b : Expr} {ma mb : OM} {pos : Pos} (ho : OpR X (compareOp op) (rD2 X.K f)) (ha : DP X E a ma) (hb : DP X E b mb) (hm : behindInMarks op b = false := by first | exact nomark _ | rfl) :
    DE X E (.Compare a [op] [b] pos) (eBinO f ma mb) := by
  obtain ⟨ta, pa, ha⟩ := ha
  obtain ⟨tb, pb, hb⟩ := hb
  exact ⟨_, pe_cmpR ho pa pb hm, ha.bin hb rfl⟩
theorem bool_binO {f : D → D → Res R} (hf : ∀ d e q, f d e = .ok q → ∃ b, q = .fro (.bool b)) (ma mb : OM) : ∀ Γ kk kx, (eBinO f ma mb Γ).good kk kx → (eBinO f ma mb Γ).good (fun p => kk p ∧ ∃ b, p.1.dat = .bool b) kx := by
  intro Γ kk kx g
  unfold eBinO at g ⊢
  rw [Res.good_bind] at g ⊢
  refine g.mono (fun p g1 => ?_) fun _ _ z => z
  rw [Res.good_bind] at g1 ⊢
  refine g1.mono (fun p2 g2 => ?_) fun _ _ z => z
  simp only [binP] at g2 ⊢
  split at g2
  · rename_i x y e1 e2
    cases q : f x y with
    | ok r =>
      rw [q] at g2
      obtain ⟨b, e⟩ := hf _ _ _ q
      subst e
      have e3 : liftP (pkO p2.2 p.1 || pkO p2.2 p2.1) p2.2 (.ok (.fro (.bool b))) = .ok (.fro (.bool b), p2.2) := by
        show (if (pkO p2.2 p.1 || pkO p2.2 p2.1) = true ∧ sclr (.bool b) = false then Res.no else Res.ok (R.fro (.bool b), p2.2)) = _
        rw [if_neg (fun z => by cases z.2)]
      rw [e3] at g2 ⊢
      exact ⟨g2, b, rfl⟩
    | er x g' => rw [q] at g2; cases g2
    | no => rw [q] at g2; cases g2
  · cases g2
theorem dt_cmpO {op : CmpOp} {f : D → D → Res R} {a b : Expr} {ma mb : OM} {pos : Pos} (ho : OpR X (compareOp op) (rD2 X.K f)) (hf : ∀ d e q, f d e = .ok q → ∃ b, q = .fro (.bool b)) (ha : DP X E a ma) (hb : DP X E b mb)
    (hm : behindInMarks op b = false := by first | exact nomark _ | rfl) : DT X E (.Compare a [op] [b] pos) (tVal (eBinO f ma mb)) := by
  obtain ⟨ta, pa, ha⟩ := ha
  obtain ⟨tb, pb, hb⟩ := hb
  exact ⟨_, pt_cmpR ho pa pb hm, .test (ha.bin hb rfl) (bool_binO hf ma mb)⟩
theorem dt_nm (i : Nat) {x : Str} {pos : Pos} (hN : X.N[i]? = some x := by rfl) (hv : Vis X.env.scope x := by first | exact Or.inl rfl | exact Or.inr (Or.inl rfl) | exact Or.inr (Or.inr rfl)) (hd : (x == ("__debug__" : Str)) = false := by decide)
    (hcd : (x == ("__classdict__" : Str)) = false := by decide) : DT X E (.Name x pos) (tNm i) := by
  refine ⟨_, pt_truth (pe_var hN hv hd hcd) (by intro _; rfl), ?_⟩
  intro B F H σ Γ Q r g
  unfold tNm at g
  split at g
  · rename_i d e
    obtain ⟨v, e1, q⟩ := r.pkSlot e
    refine ⟨v, e1, ?_⟩
    unfold truOf at g
    split at g
    · rename_i b hb
      refine ⟨b, ?_, g F H r (Sub.refl _)⟩
      rcases q with ⟨_, rp⟩ | ⟨a, c, e2, _, e3, k, _⟩
      · exact tru_rp r.fh rp hb
      · subst e2 e3
        obtain ⟨G, a1, a2, a3⟩ := k.seen (Sub.refl _) r.fh
        exact tru_rp a2 a3 hb
    · cases g
  · cases g
/-- a built-in of one argument -/
theorem de_callB1 {id : String} {f : D → Res R} {x : Str} {e : Expr} {m : OM} {p pos : Pos} (hc : CallR X (.builtin id) (rD X.K (one f))) (ha : DP X E e m) (hm : X.mg x = none) (hv : bootBuiltins x = some (.builtin id))
    (hg : Gl X x := by rfl) (hn : x ≠ "__name__" := by decide) (hdb : (x == ("__debug__" : Str)) = false := by decide) (he : starEach [e] X.env = (false, eval e X.env) :: starEach [] X.env := by rfl)
    (hpl : (backTo pos (starEach [] X.env)).any (·.1) = false := by rfl) : DE X E (.Call (.Name x p) [e] [] pos) (eUnO f m) := by
  obtain ⟨t, pa, h⟩ := ha
  refine ⟨_, pe_callB hc hg hm hv (pa_cons pa pa_nil he) hn hdb he hpl, ?_⟩
  exact h.un
theorem de_callTy1 {T : String} {f : D → Res R} {x : Str} {e : Expr} {m : OM} {p pos : Pos} (hc : CallR X (.type T) (rD X.K (one f))) (ha : DP X E e m) (hm : X.mg x = none) (hv : bootBuiltins x = some (.type T))
    (hg : Gl X x := by rfl) (hn : x ≠ "__name__" := by decide) (hdb : (x == ("__debug__" : Str)) = false := by decide) (he : starEach [e] X.env = (false, eval e X.env) :: starEach [] X.env := by rfl)
    (hpl : (backTo pos (starEach [] X.env)).any (·.1) = false := by rfl) : DE X E (.Call (.Name x p) [e] [] pos) (eUnO f m) := by
  obtain ⟨t, pa, h⟩ := ha
  refine ⟨_, pe_callTy hc hg hm hv (pa_cons pa pa_nil he) hn hdb he hpl, ?_⟩
  exact h.un
theorem de_isiO (T : String) {x t : Str} {e : Expr} {p pos p2 : Pos} {m : OM} (he : DP X E e m) (hm : X.mg x = none) (hv : bootBuiltins x = some (.builtin "isinstance")) (hmt : X.mg t = none) (hvt : bootBuiltins t = some (.type T))
    (hg : Gl X x := by rfl) (hgt : Gl X t := by rfl) (hn : x ≠ "__name__" := by decide) (hnt : t ≠ "__name__" := by decide) (hdb : (x == ("__debug__" : Str)) = false := by decide) (hdt : (t == ("__debug__" : Str)) = false := by decide)
    (hs : starEach (e :: [.Name t p2]) X.env = (false, eval e X.env) :: starEach [.Name t p2] X.env := by rfl) (hs2 : starEach (.Name t p2 :: []) X.env = (false, eval (.Name t p2) X.env) :: starEach [] X.env := by rfl)
    (hpl : (backTo pos (starEach [.Name t p2] X.env)).any (·.1) = false := by rfl) : DE X E (.Call (.Name x p) [e, .Name t p2] [] pos) (eUnO (dIsi T) m) := by
  obtain ⟨te, pe, h⟩ := he
  refine ⟨_, pe_callB (call_isiD T) hg hm hv (pa_cons pe (pa_cons (pe_bltn (v := .ty T) hgt hmt hvt rfl hnt hdt) pa_nil hs2) hs) hn hdb hs hpl, ?_⟩
  intro B F H σ Γ Q r g
  refine h.raw r g ?_
  intro v p Γ1 F1 H1 r1 s1 pk g1
  simp only [unP] at g1
  split at g1
  · rename_i x e1
    obtain ⟨G1, a1, a2, a3, a4⟩ := r1.peek (Sub.refl _) r1.fh pk e1
    refine ⟨v, F1, rfl, r1.fh, G1, [x], a2, .cons a3 .nil, liftP_good (own := pkO Γ1 p) (kx := XPx X B F1 E) r1 s1 a1 a2 ?_ g1⟩
    intro z
    rw [a4 z]
  · cases g1
end
end Fw

namespace Fw
open PySem L2 PySem.Spec PyProof.Rows

/-! ## in, chains, and some built-ins -/
def flatD : D → Bool
  | .none => true
  | .bool _ => true
  | .int _ => true
  | .str _ => true
  | _ => false
def dGet (kvs : List (D × D)) (k : D) : Option D := (kvs.find? fun p => PyData.eqv p.1 k).map (·.2)
def isKey : D → Bool
  | .int _ => true
  | .str _ => true
  | _ => false
def strIn (w z : Str) : Bool := !(Builtin.Str.occurrences z w 0 z.length 1).isEmpty
def memD (d : D) (ys : List D) : Bool := ys.any fun z => PyData.eqv z d
def inSeq (d : D) (ys : List D) : Option Bool := if flatD d = true ∧ ys.all flatD = true then some (memD d ys) else if SeqAt.shaped d = true ∧ SeqAt.shaped (.list ys) = true then some (memD d ys) else none
def inB (d : D) : D → Option Bool
  | .str z => (match d with
    | .str w => some (strIn w z)
    | _ => none)
  | .list ys => inSeq d ys
  | .tuple ys => inSeq d ys
  | .dict kvs => if isKey d = true then some (dGet kvs d).isSome else none
  | _ => none
def dIn (d e : D) : Res R := match inB d e with
  | some b => fr (.bool b)
  | none => .no
def dNotIn (d e : D) : Res R := match inB d e with
  | some b => fr (.bool !b)
  | none => .no
def dAbs : D → Res R
  | .int i => fr (.int (if i < 0 then -i else i))
  | _ => .no
def dInt : D → Res R
  | .int i => fr (.int i)
  | .bool b => fr (.int (if b = true then 1 else 0))
  | .str a => if a.length ≤ 640 then (match intText? a with
    | some n => fr (.int n)
    | none => .no) else .no
  | _ => .no
section
variable {X : Cx} {E : XK}
theorem flat_rp {K : PySem.W.Frag} {F : Hp} {v : V} {d : D} (h : Rp K F v d) (f : flatD d = true) : flatV v = true := by
  cases h <;> first | rfl | cases f
theorem flat_eq {K : PySem.W.Frag} {F : Hp} {v w : V} {d e : D} (h : Rp K F v d) (k : Rp K F w e) (f : flatD d = true) (g : flatD e = true) : eqV v w = PyData.eqv d e := by
  cases h <;> (try (cases f; done)) <;> cases k <;> (try (cases g; done)) <;> first | rfl | (simp [eqV, PyData.eqv, Bool.beq_eq_decide_eq]; done) | (unfold eqV PyData.eqv; first | rfl | (rename_i a b; cases a <;> first | rfl | simp [Bool.beq_eq_decide_eq]) | skip)
theorem flat_all {K : PySem.W.Frag} {F : Hp} {vs : List V} {ds : List D} (h : RpAll K F vs ds) (f : ds.all flatD = true) : vs.all flatV = true := by
  induction ds generalizing vs with
  | nil => cases h; rfl
  | cons d ds ih => cases h with
    | cons h t =>
      rw [List.all_cons, Bool.and_eq_true] at f ⊢
      exact ⟨flat_rp h f.1, ih t f.2⟩
theorem inV_mem {K : PySem.W.Frag} {F : Hp} {v : V} {d : D} {vs : List V} {ds : List D} (hv : Rp K F v d) (fd : flatD d = true) (h : RpAll K F vs ds) (f : ds.all flatD = true) : inV v vs = memD d ds := by
  unfold inV memD
  induction ds generalizing vs with
  | nil => cases h; rfl
  | cons e ds ih => cases h with
    | cons h t =>
      rw [List.all_cons, Bool.and_eq_true] at f
      rw [List.any_cons, List.any_cons, ih t f.2, flat_eq h hv f.1 fd]
theorem Rp.eqkey {K : PySem.W.Frag} {F : Hp} {v : V} {d : D} (h : Rp K F v d) (k : isKey d = true) : ∃ q : Key, v = kV q ∧ d = kD q := by
  cases h with
  | int i => exact ⟨.inl i, rfl, rfl⟩
  | str x => exact ⟨.inr x, rfl, rfl⟩
  | _ => cases k
theorem eqv_key (a b : Key) : PyData.eqv (kD a) (kD b) = decide (a = b) := by
  cases a with
  | inl i => cases b with
    | inl j => simp [kD, PyData.eqv, Bool.beq_eq_decide_eq]
    | inr y => simp [kD, PyData.eqv]
  | inr x => cases b with
    | inl j => simp [kD, PyData.eqv]
    | inr y => simp [kD, PyData.eqv, Bool.beq_eq_decide_eq]
theorem dGet_cons (p : D × D) (ps : List (D × D)) (k : D) : dGet (p :: ps) k = if PyData.eqv p.1 k = true then some p.2 else dGet ps k := by
  unfold dGet
  rw [List.find?_cons]
  cases PyData.eqv p.1 k <;> rfl
/-- what a dict of data tells of a key -/
def GetOk (K : PySem.W.Frag) (F : Hp) (o : Option V) : Option D → Prop
  | some d => ∃ v, o = some v ∧ Rp K F v d
  | none => o = none
theorem GetOk.isSome {K : PySem.W.Frag} {F : Hp} {o : Option V} {d : Option D} (h : GetOk K F o d) : o.isSome = d.isSome := by
  cases d with
  | none => rw [show o = none from h]; rfl
  | some d => obtain ⟨v, e, _⟩ := h; rw [e]; rfl
theorem RpKv.get {K : PySem.W.Frag} {F : Hp} {kvs : List (Key × V)} {es : List (Key × D)} (h : RpKv K F kvs es) (k : Key) : GetOk K F (valV kvs k) (dGet (es.map pD) (kD k)) := by
  induction es generalizing kvs with
  | nil => cases h; rfl
  | cons e es ih => cases h with
    | @cons k0 v0 _ d0 _ h t =>
      rw [List.map_cons, dGet_cons]
      show GetOk K F _ (if PyData.eqv (kD k0) (kD k) = true then some d0 else _)
      rw [eqv_key]
      by_cases q : k0 = k
      · rw [decide_eq_true q, if_pos rfl]; exact ⟨v0, valV_pos (p := (k0, v0)) q, h⟩
      · rw [decide_eq_false q, if_neg (by decide), valV_neg (p := (k0, v0)) q]; exact ih t
theorem inSeq_some {d : D} {ys : List D} {b : Bool} (h : inSeq d ys = some b) : b = memD d ys ∧ ((flatD d = true ∧ ys.all flatD = true) ∨ (SeqAt.shaped d = true ∧ SeqAt.shaped (.list ys) = true)) := by
  unfold inSeq at h
  split at h
  · rename_i q; cases h; exact ⟨rfl, .inl q⟩
  · split at h
    · rename_i q; cases h; exact ⟨rfl, .inr q⟩
    · cases h
theorem op_inDD {k : Nat} (hr : Room k X.A) : OpR X (compareOp .In) (rD2 X.K dIn) := by
  intro pins s σ H x y v u Q I rx ry ⟨F, ds, sb, rp, g⟩
  cases rp with
  | cons r1 t => cases t with
    | cons r2 t =>
      cases t

      simp only [two, dIn] at g
      split at g
      · rename_i b hb
        have fin : Q (.bl b) H := g _ _ _ (.refl sb) (.bl _)
        have hu : X.A.units + 65 < cLine := by have := hr.un; omega
        cases r2 with
        | str z =>
          simp only [inB] at hb
          split at hb
          · cases hb
            exact op_in_str pins s σ H _ _ v u Q I rx ry ⟨_, z, r1.strv, rfl, fin⟩
          · cases hb
        | lst h r =>
          simp only [inB] at hb
          obtain ⟨e1, ⟨f1, f2⟩ | ⟨f1, f2⟩⟩ := inSeq_some hb
          · subst e1
            refine op_in_seq pins s σ H _ _ v u Q I rx ry ⟨_, _, rfl, .inl (sb.l h), flat_rp r1 f1, flat_all r f2, ?_⟩
            rw [inV_mem r1 f1 r f2]
            exact fin
          · obtain ⟨as, q1⟩ := (r1.mono sb).reads I v rx
            obtain ⟨bs, q2⟩ := (Rp.mono sb (Rp.lst h r)).reads I u ry
            subst e1
            exact SeqAt.in_list_reads q2 q1 (SeqAt.canLay_of_shaped f2) (SeqAt.canLay_of_shaped f1) (room_in_shaped f1 hu) ⟨.bl _, H, I, rfl, fin⟩
        | tup h r =>
          simp only [inB] at hb
          obtain ⟨e1, ⟨f1, f2⟩ | ⟨f1, f2⟩⟩ := inSeq_some hb
          · subst e1
            refine op_in_seq pins s σ H _ _ v u Q I rx ry ⟨_, _, rfl, .inr (sb.t h), flat_rp r1 f1, flat_all r f2, ?_⟩
            rw [inV_mem r1 f1 r f2]
            exact fin
          · obtain ⟨as, q1⟩ := (r1.mono sb).reads I v rx
            obtain ⟨bs, q2⟩ := (Rp.mono sb (Rp.tup h r)).reads I u ry
            subst e1
            exact SeqAt.in_tuple_reads q2 q1 (SeqAt.canLay_of_shaped f2) (SeqAt.canLay_of_shaped f1) (room_in_shaped f1 hu) ⟨.bl _, H, I, rfl, fin⟩
        | dct h r q =>
          simp only [inB] at hb
          split at hb
          · rename_i hk
            cases hb
            obtain ⟨k2, e1, e2⟩ := r1.eqkey hk
            subst e1 e2 q
            cases (show u = Value.ref _ from ry)
            refine d_in (by omega) I (.inl ⟨_, k2, .inl (sb _ _ h), rfl, rfl⟩) rx fun s' I' => ⟨.bl _, H, I', rfl, ?_⟩
            rw [(r.get k2).isSome]
            exact fin
          · cases hb
        | _ => cases hb
      · cases g
theorem op_notInDD {k : Nat} (hr : Room k X.A) : OpR X (compareOp .NotIn) (rD2 X.K dNotIn) := by
  intro pins s σ H x y v u Q I rx ry ⟨F, ds, sb, rp, g⟩
  cases rp with
  | cons r1 t => cases t with
    | cons r2 t =>
      cases t

      simp only [two, dNotIn] at g
      split at g
      · rename_i b hb
        have fin : Q (.bl !b) H := g _ _ _ (.refl sb) (.bl _)
        have hu : X.A.units + 65 < cLine := by have := hr.un; omega
        cases r2 with
        | str z =>
          simp only [inB] at hb
          split at hb
          · cases hb
            exact L2.op_notIn_str pins s σ H _ _ v u Q I rx ry ⟨_, z, r1.strv, rfl, fin⟩
          · cases hb
        | lst h r =>
          simp only [inB] at hb
          obtain ⟨e1, ⟨f1, f2⟩ | ⟨f1, f2⟩⟩ := inSeq_some hb
          · subst e1
            refine op_notIn_seq pins s σ H _ _ v u Q I rx ry ⟨_, _, rfl, .inl (sb.l h), flat_rp r1 f1, flat_all r f2, ?_⟩
            rw [inV_mem r1 f1 r f2]
            exact fin
          · obtain ⟨as, q1⟩ := (r1.mono sb).reads I v rx
            obtain ⟨bs, q2⟩ := (Rp.mono sb (Rp.lst h r)).reads I u ry
            subst e1
            exact SeqAt.notIn_list_reads q2 q1 (SeqAt.canLay_of_shaped f2) (SeqAt.canLay_of_shaped f1) (room_in_shaped f1 hu) ⟨.bl _, H, I, rfl, fin⟩
        | tup h r =>
          simp only [inB] at hb
          obtain ⟨e1, ⟨f1, f2⟩ | ⟨f1, f2⟩⟩ := inSeq_some hb
          · subst e1
            refine op_notIn_seq pins s σ H _ _ v u Q I rx ry ⟨_, _, rfl, .inr (sb.t h), flat_rp r1 f1, flat_all r f2, ?_⟩
            rw [inV_mem r1 f1 r f2]
            exact fin
          · obtain ⟨as, q1⟩ := (r1.mono sb).reads I v rx
            obtain ⟨bs, q2⟩ := (Rp.mono sb (Rp.tup h r)).reads I u ry
            subst e1
            exact SeqAt.notIn_tuple_reads q2 q1 (SeqAt.canLay_of_shaped f2) (SeqAt.canLay_of_shaped f1) (room_in_shaped f1 hu) ⟨.bl _, H, I, rfl, fin⟩
        | dct h r q =>
          simp only [inB] at hb
          split at hb
          · rename_i hk
            cases hb
            obtain ⟨k2, e1, e2⟩ := r1.eqkey hk
            subst e1 e2 q
            cases (show u = Value.ref _ from ry)
            refine d_notIn (by omega) I (.inl ⟨_, k2, .inl (sb _ _ h), rfl, rfl⟩) rx fun s' I' => ⟨.bl _, H, I', rfl, ?_⟩
            rw [(r.get k2).isSome]
            exact fin
          · cases hb
        | _ => cases hb
      · cases g
theorem bo_in : ∀ d e q, dIn d e = .ok q → ∃ b, q = .fro (.bool b) := by
  intro d e q h
  unfold dIn at h
  split at h <;> cases h
  exact ⟨_, rfl⟩
theorem bo_notin : ∀ d e q, dNotIn d e = .ok q → ∃ b, q = .fro (.bool b) := by
  intro d e q h
  unfold dNotIn at h
  split at h <;> cases h
  exact ⟨_, rfl⟩
/-! is True, is False -/
def dIs2 (d e : D) : Res R := match e, d with
  | .none, d => dIsN d
  | .bool a, .bool b => fr (.bool (decide (b = a)))
  | _, _ => .no
def dIsNot2 (d e : D) : Res R := match e, d with
  | .none, d => dNotN d
  | .bool a, .bool b => fr (.bool !(decide (b = a)))
  | _, _ => .no
theorem op_isBD : OpR X (compareOp .Is) (rD2 X.K fun d e => match e, d with | .bool a, .bool b => fr (.bool (decide (b = a))) | _, _ => .no) := op2_of op_is_bl fun F H x y d e Q s r1 r2 g => by
  split at g
  · exact ⟨_, _, r1.blv, r2.blv, g _ _ _ (.refl s) (.bl _)⟩
  · cases g
theorem op_notBD : OpR X (compareOp .IsNot) (rD2 X.K fun d e => match e, d with | .bool a, .bool b => fr (.bool !(decide (b = a))) | _, _ => .no) := op2_of op_isnot_bl fun F H x y d e Q s r1 r2 g => by
  split at g
  · exact ⟨_, _, r1.blv, r2.blv, g _ _ _ (.refl s) (.bl _)⟩
  · cases g
def dIsB (d e : D) : Res R := match e, d with
  | .bool a, .bool b => fr (.bool (decide (b = a)))
  | _, _ => .no
def dIsNotB (d e : D) : Res R := match e, d with
  | .bool a, .bool b => fr (.bool !(decide (b = a)))
  | _, _ => .no
theorem op_isB : OpR X (compareOp .Is) (rD2 X.K dIsB) := op_isBD
theorem op_isNotB : OpR X (compareOp .IsNot) (rD2 X.K dIsNotB) := op_notBD
theorem bo_isB : ∀ d e q, dIsB d e = .ok q → ∃ b, q = .fro (.bool b) := by
  intro d e q h
  unfold dIsB at h
  split at h <;> cases h
  exact ⟨_, rfl⟩
theorem bo_isNotB : ∀ d e q, dIsNotB d e = .ok q → ∃ b, q = .fro (.bool b) := by
  intro d e q h
  unfold dIsNotB at h
  split at h <;> cases h
  exact ⟨_, rfl⟩
/-! built-ins -/
theorem call_absD : CallR X (.builtin "abs") (rD X.K (one dAbs)) := call1_of call_abs fun F H x d Q s r1 g => by
  unfold dAbs at g
  split at g
  · rw [r1.intv]
    exact ⟨_, rfl, g _ _ _ (.refl s) (.int _)⟩
  · cases g
theorem call_intD : CallR X (.type "int") (rD X.K (one dInt)) := call1_of (call_int1.or call_int_str) fun F H x d Q s r1 g => by
  unfold dInt at g
  split at g
  · rw [r1.intv]
    exact .inl (.inl ⟨_, rfl, g _ _ _ (.refl s) (.int _)⟩)
  · rw [r1.blv]
    exact .inl (.inr ⟨_, rfl, g _ _ _ (.refl s) (.int _)⟩)
  · split at g
    · rename_i hl
      split at g
      · rename_i n hn
        rw [r1.strv]
        exact .inr ⟨_, n, rfl, hn, hl, g _ _ _ (.refl s) (.int _)⟩
      · cases g
    · cases g
  · cases g
/-! a chain of two comparisons -/
def bok : R → Option Bool
  | .fro (.bool b) => some b
  | _ => none
def eChain (f g : D → D → Res R) (ma mb mc : EM) : EM := opd ma fun x => opd mb fun y Γ => (lift (f x y) Γ).bind fun p => match bok p.1 with
  | some true => (opd mc fun z Γ1 => lift (g y z) Γ1) p.2
  | some false => .ok (.fro (.bool false), p.2)
  | none => .no
theorem Den.chain {f g : D → D → Res R} {ta tb tc : TE} {ma mb mc : EM} (ha : Den X E ta ma) (hb : Den X E tb mb) (hc : Den X E tc mc) : Den X E (tChain (rD2 X.K f) (rD2 X.K g) ta tb tc) (eChain f g ma mb mc) := by
  intro B F H σ Γ Q r g0
  refine ha.opd r g0 ?_
  intro v d Γ1 F1 H1 r1 s1 rp g1
  refine hb.opd r1 g1 ?_
  intro w e Γ2 F2 H2 r2 s2 rq g2
  refine ⟨F2, [d, e], r2.fh, .cons (rp.mono s2) (.cons rq .nil), ?_⟩
  show (f d e).good _ _
  cases q : f d e with
  | er x g' => rw [q] at g2; exact g2.elim
  | no => rw [q] at g2; exact g2.elim
  | ok p =>
    rw [q] at g2
    simp only [lift_ok, Res.bind_ok] at g2
    intro z F' H' gr nr
    split at g2
    · rename_i hb2
      unfold bok at hb2
      split at hb2
      · cases hb2
        have nr : Rp X.K F' z (.bool true) := nr
        refine ⟨true, nr.blv, ?_⟩
        show tc σ H' _
        refine hc.opd (r2.grow gr) (Res.good.mono g2 (fun _ z => z) fun _ _ z => z.mono gr.ff) ?_
        intro u c Γ3 F3 H3 r3 s3 rc g3
        exact ⟨F3, [e, c], r3.fh, .cons (rq.mono (gr.ff.trans s3)) (.cons rc .nil), lift_good (mg := X.mg) r3 (s1.trans (s2.trans (gr.ff.trans s3))) g3⟩
      · cases hb2
    · rename_i hb2
      unfold bok at hb2
      split at hb2
      · cases hb2
        have nr : Rp X.K F' z (.bool false) := nr
        refine ⟨false, nr.blv, ?_⟩
        exact g2 _ F' H' (r2.grow gr) (s1.trans (s2.trans gr.ff)) (.bl false)
      · cases hb2
    · cases g2
theorem de_chain {op op' : CmpOp} {f g : D → D → Res R} {a b c : Expr} {ma mb mc : EM} {pos : Pos} (ho : OpR X (compareOp op) (rD2 X.K f)) (ho' : OpR X (compareOp op') (rD2 X.K g)) (ha : DE X E a ma) (hb : DE X E b mb) (hc : DE X E c mc)
    (hm : lastMarks [op, op'] [b, c] = false := by with_unfolding_all rfl) : DE X E (.Compare a [op, op'] [b, c] pos) (eChain f g ma mb mc) := by
  obtain ⟨ta, pa, ha⟩ := ha
  obtain ⟨tb, pb, hb⟩ := hb
  obtain ⟨tc, pc, hc⟩ := hc
  exact ⟨_, pe_chain ho ho' pa pb pc hm, ha.chain hb hc⟩
theorem bool_chain {f g : D → D → Res R} (hg : ∀ d e q, g d e = .ok q → ∃ b, q = .fro (.bool b)) (ma mb mc : EM) : ∀ Γ kk kx, (eChain f g ma mb mc Γ).good kk kx → (eChain f g ma mb mc Γ).good (fun p => kk p ∧ ∃ b, p.1.dat = .bool b) kx := by
  intro Γ kk kx h
  unfold eChain opd at h ⊢
  rw [Res.good_bind] at h ⊢
  refine h.mono (fun p h1 => ?_) fun _ _ z => z
  rw [Res.good_bind] at h1 ⊢
  refine h1.mono (fun p2 h2 => ?_) fun _ _ z => z
  rw [Res.good_bind] at h2 ⊢
  refine h2.mono (fun p3 h3 => ?_) fun _ _ z => z
  split at h3
  · rename_i hb
    simp only
    rw [Res.good_bind] at h3 ⊢
    refine h3.mono (fun p4 h4 => ?_) fun _ _ z => z
    simp only at h4 ⊢
    cases q : g p2.1.dat p4.1.dat with
    | ok r =>
      rw [q] at h4
      obtain ⟨b, e⟩ := hg _ _ _ q
      subst e
      exact ⟨h4, b, rfl⟩
    | er x g' => rw [q] at h4; cases h4
    | no => rw [q] at h4; cases h4
  · exact ⟨h3, false, rfl⟩
  · cases h3
theorem dt_chain {op op' : CmpOp} {f g : D → D → Res R} {a b c : Expr} {ma mb mc : EM} {pos : Pos} (ho : OpR X (compareOp op) (rD2 X.K f)) (ho' : OpR X (compareOp op') (rD2 X.K g)) (hg : ∀ d e q, g d e = .ok q → ∃ b, q = .fro (.bool b)) (ha : DE X E a ma) (hb : DE X E b mb) (hc : DE X E c mc)
    (hm : lastMarks [op, op'] [b, c] = false := by with_unfolding_all rfl) : DT X E (.Compare a [op, op'] [b, c] pos) (tVal (eChain f g ma mb mc)) := by
  obtain ⟨ta, pa, ha⟩ := ha
  obtain ⟨tb, pb, hb⟩ := hb
  obtain ⟨tc, pc, hc⟩ := hc
  exact ⟨_, pt_chain ho ho' pa pb pc hm, .test (ha.chain hb hc) (bool_chain hg ma mb mc)⟩
end
end Fw

namespace Fw
open PySem L2 PySem.Spec PyProof.Rows

/-! ## what stands in a slot, one step deep -/
def Seen (K : PySem.W.Frag) (F H : Hp) (v : V) : D → Prop
  | .list ds => ∃ a vs, v = .ref a ∧ SqL K H a vs ∧ RpAll K F vs ds
  | .dict ps => ∃ a kvs es, v = .ref a ∧ Rd H a (.dK kvs) ∧ RpKv K F kvs es ∧ ps = es.map pD
  | d => Rp K F v d
section
variable {X : Cx} {E : XK} {B : Bd} {K : PySem.W.Frag} {F F' G H H' : Hp} {σ : L2.St} {Γ : Gm}
theorem Rp.seen (s : Sub F H) {v : V} {d : D} (h : Rp K F v d) : Seen K F H v d := by
  cases h with
  | lst h r => exact ⟨_, _, rfl, s.l h, r⟩
  | dct h r q => exact ⟨_, _, _, rfl, .inl (s _ _ h), r, q⟩
  | non => exact .non
  | bl b => exact .bl b
  | int i => exact .int i
  | str x => exact .str x
  | tup h r => exact .tup h r
theorem CellAt.look {a : Addr} {c : Cell} (k : CellAt K F H a c) : Seen K F H (.ref a) c.toD := by
  cases c with
  | lst xs => obtain ⟨vs, h1, h2⟩ := k; exact ⟨a, vs, rfl, SqL.of h1, h2⟩
  | dct kvs => obtain ⟨es, h1, h2⟩ := k; exact ⟨a, es, kvs, rfl, .inl h1, h2, rfl⟩
theorem Rel.seenSlot (r : Rel B K F H σ Γ) {i : Nat} {d : D} (h : pkS Γ[i]? = some d) : ∃ v, σ[i]? = some (some v) ∧ Seen K F H v d := by
  obtain ⟨v, e, q⟩ := r.pkSlot h
  refine ⟨v, e, ?_⟩
  rcases q with ⟨_, rp⟩ | ⟨a, c, e1, _, e2, k, _⟩
  · exact rp.seen r.fh
  · subst e1 e2; exact k.look
theorem PE.or {e : Expr} {a b : TE} (ha : PE X e a) (hb : PE X e b) : PE X e (fun σ H Q => a σ H Q ∨ b σ H Q) :=
  ⟨fun pins s σ H Q I h => h.elim (ha.run pins s σ H Q I) (hb.run pins s σ H Q I)⟩
/-! ### subscripts, of dicts too -/
def dIx2 (d k : D) : Res R := match d with
  | .dict ps => if isKey k = true then (match dGet ps k with
    | some v => fr v
    | none => .no) else .no
  | d => dIx d k
def isDict : D → Bool
  | .dict _ => true
  | _ => false
theorem ix_dict {v y : V} {d k : D} {Q : VK} (hd : isDict d = true) (q : Seen K F H v d) (rk : Rp K F y k) (r : Rel B K F H σ Γ)
    (g : (dIx2 d k).good (fun q => ∀ z F' H', Grow F H F' H' → NR K F' H H' z q → Q z H') (fun _ _ => False)) : ∃ a w, v = .ref a ∧ DGet H a y (some w) ∧ Q w H := by
  cases d with
  | dict ps =>
    simp only [dIx2] at g
    split at g
    · rename_i hk
      obtain ⟨k2, e1, e2⟩ := rk.eqkey hk
      obtain ⟨a, kvs, es, e3, e4, rp, e5⟩ := q
      subst e1 e2 e3 e5
      have o := rp.get k2
      split at g
      · rename_i w hw
        rw [hw] at o
        obtain ⟨x, h1, h2⟩ := o
        exact ⟨a, x, rfl, .inl ⟨kvs, k2, e4, rfl, h1.symm⟩, g _ _ _ (.refl r.fh) h2⟩
      · cases g
    · cases g
  | _ => cases hd
theorem ix_other {v y : V} {d k : D} {Q : VK} (hd : isDict d = false) (q : Seen K F H v d) (rk : Rp K F y k) (r : Rel B K F H σ Γ)
    (g : (dIx2 d k).good (fun q => ∀ z F' H', Grow F H F' H' → NR K F' H H' z q → Q z H') (fun _ _ => False)) : rIx K v y H Q := by
  have g : (dIx d k).good (fun q => ∀ z F' H', Grow F H F' H' → NR K F' H H' z q → Q z H') (fun _ _ => False) := by
    cases d <;> first | exact g | cases hd
  unfold dIx at g
  split at g
  · split at g
    · rename_i e
      obtain ⟨a, xs, e1, h1, p1⟩ := q
      obtain ⟨w, e2, h2⟩ := atI_rp p1 e
      subst e1
      exact .inl ⟨a, xs, _, w, rfl, rk.intv, h1, e2, g _ _ _ (.refl r.fh) h2⟩
    · cases g
  · split at g
    · rename_i e
      obtain ⟨a, xs, e1, h1, p1⟩ := Rp.tupv q
      obtain ⟨w, e2, h2⟩ := atI_rp p1 e
      subst e1
      exact .inr (.inl ⟨a, xs, _, w, rfl, rk.intv, r.fh.t h1, e2, g _ _ _ (.refl r.fh) h2⟩)
    · cases g
  · split at g
    · rename_i hl
      split at g
      · rename_i c e
        exact .inr (.inr ⟨_, _, c, Rp.strv q, rk.intv, lim_le hl, e, g _ _ _ (.refl r.fh) (.str _)⟩)
      · cases g
    · cases g
  · cases g
theorem de_ixG {a b : Expr} {ma mb : EM} {pos : Pos} {k0 : Nat} (hr : Room k0 X.A) (ha : DE X E a ma) (hb : DE X E b mb) (hs : PlainIx b := by exact fun _ _ => rfl) (hn : NoSl b := by exact fun _ _ => rfl) : DE X E (.Subscript a b pos) (eBin dIx2 ma mb) := by
  obtain ⟨ta, pa, ha⟩ := ha
  obtain ⟨tb, pb, hb⟩ := hb
  refine ⟨_, PE.or (pe_ix ix_seq pa pb hs) (pe_dget (by have := hr.un; omega) pa pb hn), ?_⟩
  intro B F H σ Γ Q r g
  unfold eBin opd at g
  cases q : ma Γ with
  | er x g' =>
    rw [q] at g
    refine .inl (ha B F H σ Γ _ r ?_)
    rw [q]; exact g
  | no => rw [q] at g; cases g
  | ok p =>
    rw [q] at g
    simp only [Res.bind_ok] at g
    have go : ∀ (P : V → Hp → Prop), (∀ v F1 H1, Rel B X.K F1 H1 σ p.2 → Sub F F1 → Rp X.K F1 v p.1.dat → P v H1) → ta σ H P := by
      intro P hP
      refine ha B F H σ Γ _ r ?_
      rw [q]
      intro v F' H' r' s' rr
      obtain ⟨F2, r2, s2, rp⟩ := rr.freeze r'
      exact hP v F2 H' r2 (s'.trans s2) rp
    have g : (opd mb (fun y Γ => lift (dIx2 p.1.dat y) Γ) p.2).good (fun p => ∀ (v : V) (F' H' : Hp), Rel B X.K F' H' σ p.2 → Sub F F' → RR B X.K F' H' σ p.2 v p.1 → Q v H') (XPx X B F E) := g
    cases hd : isDict p.1.dat with
    | true =>
      refine .inr (go _ ?_)
      intro v F1 H1 r1 s1 rp
      refine hb.opd r1 (Res.good.mono g (fun _ z => z) fun _ _ z => z.mono s1) ?_
      intro w k Γ2 F2 H2 r2 s2 rk g2
      exact ix_dict hd ((rp.mono s2).seen r2.fh) rk r2 (lift_good (mg := X.mg) r2 (s1.trans s2) g2)
    | false =>
      refine .inl (go _ ?_)
      intro v F1 H1 r1 s1 rp
      refine hb.opd r1 (Res.good.mono g (fun _ z => z) fun _ _ z => z.mono s1) ?_
      intro w k Γ2 F2 H2 r2 s2 rk g2
      exact ix_other hd ((rp.mono s2).seen r2.fh) rk r2 (lift_good (mg := X.mg) r2 (s1.trans s2) g2)
/-- x[k], x a name that keeps what it holds -/
def ixK (i : Nat) (k : D) (Γ : Gm) : Res (R × Gm) := match pkS Γ[i]? with
  | some d => lift (dIx2 d k) Γ
  | none => .no
def eIxN (i : Nat) (mb : EM) : EM := fun Γ => match pkS Γ[i]? with
  | none => .no
  | some _ => opd mb (ixK i) Γ
theorem de_ixN (i : Nat) {x : Str} {b : Expr} {mb : EM} {pos p : Pos} {k0 : Nat} (hr : Room k0 X.A) (hb : DE X E b mb) (hN : X.N[i]? = some x := by rfl) (hv : Vis X.env.scope x := by first | exact Or.inl rfl | exact Or.inr (Or.inl rfl) | exact Or.inr (Or.inr rfl)) (hd : (x == ("__debug__" : Str)) = false := by decide)
    (hcd : (x == ("__classdict__" : Str)) = false := by decide) (hs : PlainIx b := by exact fun _ _ => rfl) (hn : NoSl b := by exact fun _ _ => rfl) : DE X E (.Subscript (.Name x p) b pos) (eIxN i mb) := by
  obtain ⟨tb, pb, hb⟩ := hb
  refine ⟨_, PE.or (pe_ix ix_seq (pe_var hN hv hd hcd) pb hs) (pe_dget (by have := hr.un; omega) (pe_var hN hv hd hcd) pb hn), ?_⟩
  intro B F H σ Γ Q r g
  unfold eIxN at g
  split at g
  · cases g
  · rename_i d0 hd0
    obtain ⟨v, ev, _⟩ := r.seenSlot hd0
    unfold opd at g
    cases q : mb Γ with
    | er x g' =>
      rw [q] at g
      refine .inl ⟨v, ev, hb B F H σ Γ _ r ?_⟩
      rw [q]; exact g
    | no => rw [q] at g; cases g
    | ok p =>
      rw [q] at g
      simp only [Res.bind_ok, ixK] at g
      split at g
      · rename_i d hd1
        have go : ∀ (P : V → Hp → Prop), (∀ w F1 H1, Rel B X.K F1 H1 σ p.2 → Sub F F1 → Rp X.K F1 w p.1.dat → P w H1) → tb σ H P := by
          intro P hP
          refine hb B F H σ Γ _ r ?_
          rw [q]
          intro w F' H' r' s' rr
          obtain ⟨F2, r2, s2, rp⟩ := rr.freeze r'
          exact hP w F2 H' r2 (s'.trans s2) rp
        have see : ∀ {F1 H1}, Rel B X.K F1 H1 σ p.2 → Seen X.K F1 H1 v d := by
          intro F1 H1 r1
          obtain ⟨v2, ev2, sn⟩ := r1.seenSlot hd1
          rw [ev] at ev2
          cases ev2
          exact sn
        cases hk : isDict d with
        | true =>
          refine .inr ⟨v, ev, go _ ?_⟩
          intro w F1 H1 r1 s1 rk
          exact ix_dict hk (see r1) rk r1 (lift_good (mg := X.mg) r1 s1 g)
        | false =>
          refine .inl ⟨v, ev, go _ ?_⟩
          intro w F1 H1 r1 s1 rk
          exact ix_other hk (see r1) rk r1 (lift_good (mg := X.mg) r1 s1 g)
      · cases g
/-! ### slices by name -/
def slK (i : Nat) (lo hi : Option Int) (Γ : Gm) : Res (R × Gm) := match pkS Γ[i]? with
  | some d => lift (dSl d lo hi) Γ
  | none => .no
def eSlN (i : Nat) (pl ph : PM) : EM := fun Γ => match pkS Γ[i]? with
  | none => .no
  | some _ => (pl Γ).bind fun l => (ph l.2).bind fun h => slK i l.1 h.1 h.2
theorem de_slN (i : Nat) {x : Str} {lo hi : Option Expr} {pl ph : PM} {pos p2 p : Pos} (hl : DO X E lo pl) (hh : DO X E hi ph) (hN : X.N[i]? = some x := by rfl) (hv : Vis X.env.scope x := by first | exact Or.inl rfl | exact Or.inr (Or.inl rfl) | exact Or.inr (Or.inr rfl)) (hd : (x == ("__debug__" : Str)) = false := by decide)
    (hcd : (x == ("__classdict__" : Str)) = false := by decide) : DE X E (.Subscript (.Name x p) (.Slice lo hi none p2) pos) (eSlN i pl ph) := by
  obtain ⟨tl, p1, hl⟩ := hl
  obtain ⟨th, p2', hh⟩ := hh
  refine ⟨_, pe_slice sl_D (pe_var hN hv hd hcd) p1 p2', ?_⟩
  intro B F H σ Γ Q r g
  unfold eSlN at g
  split at g
  · cases g
  · rename_i d0 hd0
    obtain ⟨v, ev, _⟩ := r.seenSlot hd0
    refine ⟨v, ev, ?_⟩
    refine hl.raw r g ?_
    intro lo Γ2 F2 H2 r2 s2 g2
    refine hh.raw r2 g2 ?_
    intro hi Γ3 F3 H3 r3 s3 g3
    simp only [slK] at g3
    split at g3
    · rename_i d hd3
      obtain ⟨v2, ev2, q⟩ := r3.seenSlot hd3
      rw [ev] at ev2
      cases ev2
      have g4 := lift_good (mg := X.mg) r3 (s2.trans s3) g3
      unfold dSl at g4
      split at g4
      · obtain ⟨a, xs, e1, h1, p1⟩ := q
        subst e1
        exact .inl ⟨a, xs, rfl, h1, fun p hp => newLst r3.fh hp (rp_cut p1 _ _) g4⟩
      · obtain ⟨a, xs, e1, h1, p1⟩ := Rp.tupv q
        subst e1
        refine .inr (.inl ⟨a, xs, rfl, r3.fh.t h1, ?_, fun _ p hp => newTup r3.fh hp (rp_cut p1 _ _) g4⟩)
        intro ⟨w1, w2⟩
        have ew : cutV xs lo hi = xs := by unfold cutV; rw [w1, w2, List.drop_zero, Nat.sub_zero, List.take_length]
        refine g4 _ _ _ (.refl r3.fh) (.tup h1 ?_)
        have := rp_cut p1 lo hi
        rwa [ew] at this
      · split at g4
        · rename_i hz
          exact .inr (.inr ⟨_, Rp.strv q, lim_le hz, g4 _ _ _ (.refl r3.fh) (.str _)⟩)
        · cases g4
      · cases g4
    · cases g3
/-! ### x[k] = value, x a name that owns a list or a dict -/
def putD (kvs : List (Key × D)) (k : Key) (v : D) : List (Key × D) :=
  if (kvs.any fun kv => decide (kv.1 = k)) = true then kvs.map (fun kv => if kv.1 = k then (kv.1, v) else kv) else kvs ++ [(k, v)]
def keyOf : D → Option Key
  | .int i => some (.inl i)
  | .str x => some (.inr x)
  | _ => none
def putC (c : Cell) (k v : D) : Option Cell := match c with
  | .lst xs => (match k with
    | .int i => (ixN xs.length i).map fun j => .lst (xs.set j v)
    | _ => none)
  | .dct kvs => if kvs.length < lim then (keyOf k).map fun k => .dct (putD kvs k v) else none
def sSetIx (i : Nat) (mk mv : EM) : SM := opd mv fun v Γ => match ownC Γ i with
  | none => .no
  | some _ => opd mk (fun k Γ1 => match ownC Γ1 i with
    | some c => (match putC c k v with
      | some c' => .ok (.nx (setC Γ1 i c'))
      | none => .no)
    | none => .no) Γ
theorem RpKv.put {kvs : List (Key × V)} {es : List (Key × D)} (h : RpKv K F kvs es) (k : Key) {v : V} {d : D} (hv : Rp K F v d) : RpKv K F (putK kvs k v) (putD es k d) := by
  have an : ∀ {kvs : List (Key × V)} {es : List (Key × D)}, RpKv K F kvs es → (kvs.any fun kv => decide (kv.1 = k)) = (es.any fun kv => decide (kv.1 = k)) := by
    intro kvs es h
    induction es generalizing kvs with
    | nil => cases h; rfl
    | cons e es ih => cases h with
      | cons h t => rw [List.any_cons, List.any_cons, ih t]
  have mp : ∀ {kvs : List (Key × V)} {es : List (Key × D)}, RpKv K F kvs es → RpKv K F (kvs.map fun kv => if kv.1 = k then (kv.1, v) else kv) (es.map fun kv => if kv.1 = k then (kv.1, d) else kv) := by
    intro kvs es h
    induction es generalizing kvs with
    | nil => cases h; exact .nil
    | cons e es ih => cases h with
      | @cons k0 v0 _ d0 _ h t =>
        rw [List.map_cons, List.map_cons]
        by_cases q : k0 = k
        · rw [if_pos q, if_pos q]; exact .cons hv (ih t)
        · rw [if_neg q, if_neg q]; exact .cons h (ih t)
  have sn : ∀ {kvs : List (Key × V)} {es : List (Key × D)}, RpKv K F kvs es → RpKv K F (kvs ++ [(k, v)]) (es ++ [(k, d)]) := by
    intro kvs es h
    induction es generalizing kvs with
    | nil => cases h; exact .cons hv .nil
    | cons e es ih => cases h with
      | cons h t => exact .cons h (ih t)
  unfold putK putD
  rw [an h]
  split
  · exact mp h
  · exact sn h
theorem RpKv.length {kvs : List (Key × V)} {es : List (Key × D)} (h : RpKv K F kvs es) : kvs.length = es.length := by
  induction es generalizing kvs with
  | nil => cases h; rfl
  | cons d ds ih => cases h with
    | cons h t => rw [List.length_cons, List.length_cons, ih t]
def rSet2 : TSet := fun o i v H Q => rSetL o i v H Q ∨ rSetD o i v H Q
theorem pset_or {a b : TSet} (ha : PSet X a) (hb : PSet X b) : PSet X (fun o i v H Q => a o i v H Q ∨ b o i v H Q) := by
  intro pins s σ H o i v ov iv u Q I ro ri rv h
  exact h.elim (ha pins s σ H o i v ov iv u Q I ro ri rv) (hb pins s σ H o i v ov iv u Q I ro ri rv)
theorem keyOf_rp {v : V} {d : D} {k : Key} (h : Rp K F v d) (e : keyOf d = some k) : v = kV k := by
  cases h with
  | int i => cases e; rfl
  | str x => cases e; rfl
  | _ => cases e
theorem ds_setix (i : Nat) {x : Str} {b e : Expr} {mb mv : EM} {pos p pos' : Pos} {k0 : Nat} (hr : Room k0 X.A) (he : DE X E e mv) (hb : DE X E b mb) (hN : X.N[i]? = some x := by rfl) (hv : Vis X.env.scope x := by first | exact Or.inl rfl | exact Or.inr (Or.inl rfl) | exact Or.inr (Or.inr rfl)) (hd : (x == ("__debug__" : Str)) = false := by decide)
    (hcd : (x == ("__classdict__" : Str)) = false := by decide)
    (ha : ∀ v, assign (.Subscript (.Name x p) b pos') X.env v = (do
      let ov ← holding [v] (eval (.Name x p) X.env)
      let iv ← holding [v, ov] (eval b X.env)
      standAt pos'
      holding [v, ov, iv] (setItem ov iv v)
      release [v, ov, iv] []) := by intro _; rfl) (hs : swapsWithSole [.Subscript (.Name x p) b pos'] e pos.line X.env = pure false := by rfl) (hw : swappedStores [.Subscript (.Name x p) b pos'] e X.env = pure none := by rfl)
    (h1 : (assignEach [.Subscript (.Name x p) b pos'] X.env).map (·.2) = [assign (.Subscript (.Name x p) b pos') X.env] := by rfl) : DS X E (.Assign [.Subscript (.Name x p) b pos'] e pos) (sSetIx i mb mv) := by
  obtain ⟨tv, pv, he⟩ := he
  obtain ⟨tb, pb, hb⟩ := hb
  refine ⟨_, ps_asg pv (pg_sub (pe_var hN hv hd hcd) pb (pset_or set_list (set_dict (by have := hr.un; omega))) ha) hs hw h1, ?_⟩
  intro B F H σ Γ De r g
  refine he.opd r g ?_
  intro v d Γ1 F1 H1 r1 s1 rp g1
  split at g1
  · cases g1
  · rename_i c0 hc0
    obtain ⟨a, ea, _⟩ := r1.cell hc0
    refine ⟨.ref a, ea, ?_⟩
    refine hb.opd r1 g1 ?_
    intro w k Γ2 F2 H2 r2 s2 rk g2
    split at g2
    · rename_i c hc
      obtain ⟨a2, ea2, ck, _⟩ := r2.cell hc
      rw [ea] at ea2
      cases ea2
      split at g2
      · rename_i c' hp
        have fin : ∀ o, CellAt X.K F2 (upd H2 a o) a c' → De.nx σ (upd H2 a o) := fun o k2 => g2 σ F2 _ (r2.setC hc ea k2) (s1.trans s2)
        cases c with
        | lst xs =>
          simp only [putC] at hp
          split at hp
          · rename_i j0
            rw [Option.map_eq_some_iff] at hp
            obtain ⟨j, hj, e2⟩ := hp
            subst e2
            obtain ⟨vs, h1, h2⟩ := ck
            refine .inl ⟨a, vs, _, j, rfl, rk.intv, h1, by rw [h2.length]; exact hj, ?_⟩
            exact fin _ ⟨_, upd_same, h2.set (rp.mono s2) j⟩
          · cases hp
        | dct kvs =>
          simp only [putC] at hp
          split at hp
          · rename_i hl
            rw [Option.map_eq_some_iff] at hp
            obtain ⟨k2, hk, e2⟩ := hp
            subst e2
            obtain ⟨es, h1, h2⟩ := ck
            refine .inr ⟨a, _, rfl, .inl ⟨es, k2, h1, keyOf_rp rk hk, ?_, rfl⟩, ?_⟩
            · rw [h2.length]
              exact Nat.lt_of_lt_of_le hl (by decide)
            · exact fin _ ⟨_, upd_same, h2.put k2 (rp.mono s2)⟩
          · cases hp
      · cases g2
    · cases g2
end
end Fw

namespace Fw
open PySem L2 PySem.Spec PyProof.Rows

/-! ## names of the module -/
section
variable {X : Cx} {E : XK}
theorem de_gI {x : Str} {i : Int} {pos : Pos} (hm : ∃ t, X.mg x = some (.int i t)) (hg : Gl X x := by rfl) (hd : (x == ("__debug__" : Str)) = false := by decide) : DE X E (.Name x pos) (eC (.int i)) := by
  obtain ⟨t, h⟩ := hm
  exact de_globI h hg hd
theorem de_gS {x : Str} {i : Str} {pos : Pos} (hm : ∃ t, X.mg x = some (.str i t)) (hg : Gl X x := by rfl) (hd : (x == ("__debug__" : Str)) = false := by decide) : DE X E (.Name x pos) (eC (.str i)) := by
  obtain ⟨t, h⟩ := hm
  exact de_globS h hg hd
/-- a tuple of texts -/
structure GT (K : PySem.W.Frag) (mg : Str → Option Value) (x : Str) (xs : List Str) : Prop where
  ex : ∃ a, mg x = some (.ref a) ∧ ∀ F, SqT K F a (xs.map V.str)
theorem rp_strs {K : PySem.W.Frag} {F : Hp} (xs : List Str) : RpAll K F (xs.map V.str) (xs.map PyData.str) := by
  induction xs with
  | nil => exact .nil
  | cons x xs ih => exact .cons (.str x) ih
theorem de_gT {x : Str} {xs : List Str} {pos : Pos} (hm : GT X.K X.mg x xs) (hg : Gl X x := by rfl) (hd : (x == ("__debug__" : Str)) = false := by decide) : DE X E (.Name x pos) (eC (.tuple (xs.map PyData.str))) := by
  obtain ⟨a, h, q⟩ := hm.ex
  exact ⟨_, pe_glob (v := .ref a) hg h rfl hd, fun B F H σ Γ Q r g => g _ F H r (Sub.refl _) (.tup (q F) (rp_strs xs))⟩
def StrsV (xs : List Str) (vs : List Value) : Prop := Vals (xs.map V.str) vs
theorem strsV_nil : StrsV [] [] := .nil
theorem strsV_cons {x : Str} {xs : List Str} {t : Tok} {vs : List Value} (h : StrsV xs vs) : StrsV (x :: xs) (.str x t :: vs) := .cons ⟨t, rfl⟩ h
theorem gt_mk {h : Heap} {K : PySem.W.Frag} {mg : Str → Option Value} {a : Addr} {x : Str} {xs : List Str} {od : Option Addr} {its : List Value} {n : Nat} {sl : Array (Option Value)} (G : h.Ns mainGlobals mg) (X : K.In h)
    (e : PySem.W.nsIn K mainGlobals x = some (some (.ref a))) (l : K.lookup a = some ⟨.type "tuple", od, .seq its.toArray n, sl⟩) (hs : StrsV xs its) (hz : its.length ≤ 1000) : GT K mg x xs :=
  ⟨a, PySem.W.mg_of X G e, fun F => .inr ⟨_, its.toArray, n, l, rfl, rfl, by rw [List.size_toArray]; exact Nat.le_trans hz (by decide), show Vals _ _ from hs⟩⟩
end

/-! ## t[::-1] of tuples -/
section
variable {prog : Program} {w : World} {A : Around} {E : Value → Shared → Prop} {s : Shared}
theorem adjust_rev (n : Nat) : Builtin.Slice.sliceAdjust none none (-1) (n : Int) = ((n : Int) - 1, -1) := rfl
theorem places_rev (n : Nat) : Builtin.Slice.slicePlaces ((n : Int) - 1) (-1) (-1) = n := by
  unfold Builtin.Slice.slicePlaces
  have h1 : ¬ ((-1 : Int) > 0) := by omega
  simp only [h1, if_false]
  have e : -(-1 : Int) = 1 := rfl
  rw [e, Int.ediv_one]
  split <;> omega
theorem fmc {α β : Type} {f g : α → Option β} : ∀ {l : List α}, (∀ a ∈ l, f a = g a) → l.filterMap f = l.filterMap g
  | [], _ => rfl
  | a :: l, h => by
    rw [List.filterMap_cons, List.filterMap_cons, h a (by simp), fmc fun b hb => h b (List.mem_cons_of_mem _ hb)]
theorem rg_all {α : Type} : ∀ l : List α, (List.range l.length).filterMap (fun m => l[m]?) = l := by
  intro l
  induction h : l.length generalizing l with
  | zero => rw [List.length_eq_zero_iff.mp h]; rfl
  | succ n ih =>
    have hl : l = l.take n ++ [l[n]] := by
      rw [← List.take_succ_eq_append_getElem (by omega), List.take_of_length_le (by omega)]
    rw [List.range_succ, List.filterMap_append]
    have e2 : (List.range n).filterMap (fun m => l[m]?) = (List.range n).filterMap (fun m => (l.take n)[m]?) := by
      refine fmc fun m hm => ?_
      rw [List.getElem?_take, if_pos (List.mem_range.mp hm)]
    rw [e2, ih (l.take n) (by rw [List.length_take]; omega)]
    have e3 : l[n]? = some l[n] := List.getElem?_eq_getElem (by omega)
    simp [e3]
    exact List.take_of_length_le (by omega)
theorem pick_rev (xs : Array Value) : ((List.range xs.size).filterMap fun (m : Nat) => xs[(((xs.size : Nat) : Int) - 1 + (m : Int) * (-1)).toNat]?).toArray = xs.toList.reverse.toArray := by
  have e : ∀ m ∈ List.range xs.size, xs[(((xs.size : Nat) : Int) - 1 + (m : Int) * (-1)).toNat]? = xs.toList.reverse[m]? := by
    intro m hm
    have hm := List.mem_range.mp hm
    have q : (((xs.size : Nat) : Int) - 1 + (m : Int) * (-1)).toNat = xs.size - 1 - m := by omega
    rw [q, List.getElem?_reverse (by rw [Array.length_toList]; exact hm), Array.length_toList, Array.getElem?_toList]
  rw [fmc e]
  have q : xs.size = xs.toList.reverse.length := by rw [List.length_reverse, Array.length_toList]
  rw [q, rg_all]
theorem sliceApplied_rev {sl : Addr} {t : Tok} {n : Nat} {Q : Int × Int × Nat → Shared → Prop} (hs : s.heap.IsSliceOf sl .none .none (.int (-1) t))
    (h : Q ((n : Int) - 1, -1, n) s) : wpAny (model prog w) A (Builtin.Slice.sliceApplied (.ref sl) (pure (n : Int))) Q E s := by
  obtain ⟨os, hos, hcs, hds⟩ := id hs
  unfold Builtin.Slice.sliceApplied Builtin.Slice.sliceFields
  refine wpAny_bind (wpAny_bind (wpAny_field hos hds (x := .none) rfl (wpAny_bind (wpAny_field hos hds (x := .none) rfl (wpAny_bind (wpAny_field hos hds (x := .int (-1) t) rfl (wpAny_pure ?_)))))))
  refine wpAny_bind (slicePart_int ?_)
  show wpAny _ _ (if ((-1 : Int) == 0) = true then _ else _) _ _ s
  rw [if_neg (by decide)]
  refine wpAny_bind (slicePart_none (wpAny_bind (slicePart_none (wpAny_bind (wpAny_pure ?_)))))
  show wpAny _ _ (match Builtin.Slice.sliceAdjust none none (-1) (n : Int) with | (lo, hi) => pure (lo, (-1 : Int), Builtin.Slice.slicePlaces lo hi (-1))) _ _ s
  rw [adjust_rev n]
  show wpAny _ _ (pure ((n : Int) - 1, (-1 : Int), Builtin.Slice.slicePlaces ((n : Int) - 1) (-1) (-1))) _ _ s
  rw [places_rev]
  exact wpAny_pure h
theorem getItem_tuple_rev {a sl : Addr} {t : Tok} {items : Array Value} {Q : Value → Shared → Prop} (ht : IsTup s.heap a items) (hs : s.heap.IsSliceOf sl .none .none (.int (-1) t))
    (h : Q (.ref s.heap.objs.size) { s with heap := s.heap.push { cls := .type "tuple", data := .seq items.toList.reverse.toArray } })
    (hsz : items.size ≤ sizeLine) : wpAny (model prog w) A (getItem (.ref a) (.ref sl)) Q E s := by
  have htake : sizeOk (.seq items.toList.reverse.toArray) := by
    show items.toList.reverse.toArray.size ≤ sizeLine
    rw [List.size_toArray, List.length_reverse, Array.length_toList]
    exact hsz
  obtain ⟨os, hos, hcs, hds⟩ := id hs
  have hTs : s.TypeIs (.ref sl) "slice" := ⟨os, hos, hcs⟩
  unfold getItem
  try with_reducible refine wpAny_holding ?_
  first | refine wpAny_bind (wpAny_pure ?_) | skip
  refine wpAny_bind (wpAny_sequenceKey ht.typeIs (by decide) ?_)
  refine wpAny_bind (wpAny_callSpecial?_slot (name := Str.ofString "__getitem__") ht.typeIs PyProof.Rows.slot_tuple_getitem
    (wpAny_call_entry PyProof.Rows.slot_tuple_getitem ht.typeIs entry_tuple_getitem ?_ (args_tuple_getitem _ _)))
  show wpAny _ _ (Builtin.Tuple.tupleItemsOf (.ref a) >>= _) _ _ s
  refine wpAny_bind (tupleItemsOf_ ht ?_)
  refine wpAny_bind (wpAny_typeOf hTs ?_)
  rw [if_pos (by decide)]
  refine wpAny_bind (sliceApplied_rev hs ?_)
  have hno : ¬ ((((items.size : Nat) : Int) - 1 == 0 && (-1 : Int) == 1 && items.size == items.size) = true) := by simp
  show wpAny _ _ (if (((items.size : Nat) : Int) - 1 == 0 && (-1 : Int) == 1 && items.size == items.size) = true then _ else _) _ _ s
  rw [if_neg hno, pick_rev]
  first
    | exact wpAny_bind (m := Builtin.Tuple.tupleExact _) (wpAny_newObj_type (wpAny_pure ⟨_, rfl, wpAny_pure h⟩) htake)
    | exact wpAny_bind (m := Builtin.Tuple.tupleExact _) (wpAny_newObj_type (wpAny_bind (wpAny_pure (wpAny_pure ⟨_, rfl, wpAny_pure h⟩))) htake)
    | exact wpAny_bind (wpAny_bind (m := Builtin.Tuple.tupleExact _) (wpAny_newObj_type (wpAny_pure (wpAny_pure ⟨_, rfl, wpAny_pure h⟩)) htake))
    | exact wpAny_bind (wpAny_bind (m := Builtin.Tuple.tupleExact _) (wpAny_newObj_type (wpAny_pure ⟨_, rfl, wpAny_pure h⟩) htake))
end
def dRev : D → Res R
  | .tuple xs => fr (.tuple xs.reverse)
  | _ => .no
section
variable {X : Cx} {E : XK}
def tRevT (K : PySem.W.Frag) (te : TE) : TE := fun σ H Q => te σ H fun x H1 => ∃ a xs, x = .ref a ∧ SqT K H1 a xs ∧ ∀ p, H1 p = none → Q (.ref p) (upd H1 p (.tup xs.reverse))
theorem pe_revT {e : Expr} {te : TE} {k : Nat} {p1 p2 p3 pos : Pos} (he : PE X e te) : PE X (.Subscript e (.Slice none none (some (.UnaryOp .USub (.Constant (.int 1) k p1) p2)) p3) pos) (tRevT X.K te) := by
  refine ⟨fun pins s σ H Q I h => ?_⟩
  refine Subscript_ (thn (he.run pins s σ H _ I h) fun v s1 ⟨x, H1, I1, r1, q1⟩ => ?_)
  obtain ⟨a, xs, ex, hx, q⟩ := q1
  subst ex
  cases r1
  have hst : PO X (some (.UnaryOp .USub (.Constant (.int 1) k p1) p2)) (tPart (tUn (rU fun i => .int (-i)) (tC (.int 1)))) := po_some (pe_un un_neg pe_int)
  refine wpAny_Slice (thn (po_none.run pins s1 σ H1 (fun o H2 => o = none ∧ H2 = H1) I1 ⟨rfl, rfl⟩) fun vl s2 ⟨l, H2, I2, pl, el, e2⟩ => ?_)
  subst el e2
  refine thn (po_none.run pins s2 σ H2 (fun o H3 => o = none ∧ H3 = H2) I2 ⟨rfl, rfl⟩) fun vu s3 ⟨u, H3, I3, pu, eu, e3⟩ => ?_
  subst eu e3
  refine thn (hst.run pins s3 σ H3 (fun o H4 => o = some (-1) ∧ H4 = H3) I3 ⟨1, rfl, -1, rfl, rfl, rfl⟩) fun vs s4 ⟨o, H4, I4, ps, eo, e4⟩ => ?_
  subst eo e4
  obtain rfl : vl = .none := by cases pl; rfl
  obtain rfl : vu = .none := by cases pu; rfl
  obtain ⟨t, rfl⟩ : ∃ t, vs = .int (-1) t := by cases ps; exact ⟨_, rfl⟩
  have I5 : L2.Inv X pins σ H4 { s4 with heap := s4.heap.push { cls := .type "slice", data := .fields #[.none, .none, .int (-1) t] } } := I4.kept (t' := s4.toks) fun b ob q => Heap.get?_push_of_some _ q
  obtain ⟨its, r, ht, hz⟩ := I5.tuple hx
  have hlen := r.length
  show wpAny (model X.prog X.w) X.A (subscriptTail e (.Slice none none (some (.UnaryOp .USub (.Constant (.int 1) k p1) p2)) p3) (.ref a) (.ref s4.heap.objs.size)) (EP X pins σ Q) X.xe { s4 with heap := s4.heap.push { cls := .type "slice", data := .fields #[.none, .none, .int (-1) t] } }
  refine tail_any (ops := [.ref a, .ref s4.heap.objs.size]) ht.typeIs (PyProof.Rows.slot_tuple_getitem.lookup) ?_ (by with_unfolding_all rfl)
  refine getItem_tuple_rev ht (Heap.IsSliceOf.new _ .none .none (.int (-1) t)) ?_ (by rw [List.size_toArray]; omega)
  refine ⟨.ref _, _, I5.laid (t' := s4.toks) (o := .tup xs.reverse) (fun b ob q => Heap.get?_push_of_some _ q) (Nat.le_refl _) ?_, rfl, q _ (I5.hok.fresh (Nat.le_refl _))⟩
  exact ⟨by rw [List.length_reverse]; omega, its.reverse, r.reverse, _, Heap.get?_push_size _ rfl, rfl, 0, rfl⟩
theorem RpAll.reverse {K : PySem.W.Frag} {F : Hp} {vs : List V} {ds : List D} (h : RpAll K F vs ds) : RpAll K F vs.reverse ds.reverse := by
  induction ds generalizing vs with
  | nil => cases h; exact .nil
  | cons d ds ih => cases h with
    | cons h t =>
      rw [List.reverse_cons, List.reverse_cons]
      exact (ih t).append (.cons h .nil)
theorem de_revT {e : Expr} {m : EM} {k : Nat} {p1 p2 p3 pos : Pos} (he : DE X E e m) : DE X E (.Subscript e (.Slice none none (some (.UnaryOp .USub (.Constant (.int 1) k p1) p2)) p3) pos) (eUn dRev m) := by
  obtain ⟨t, p, h⟩ := he
  refine ⟨_, pe_revT p, ?_⟩
  intro B F H σ Γ Q r g
  refine h.opd r g ?_
  intro v d Γ1 F1 H1 r1 s1 rp g1
  have g4 := lift_good (mg := X.mg) r1 s1 g1
  unfold dRev at g4
  split at g4
  · obtain ⟨a, xs, e1, h1, p1⟩ := rp.tupv
    subst e1
    exact ⟨a, xs, rfl, r1.fh.t h1, fun p hp => newTup r1.fh hp p1.reverse g4⟩
  · cases g4
/-! ## text * number -/
def sRep (x : Str) (n : Nat) : Str := ⟨(List.replicate n x.cps).foldl (· ++ ·) #[]⟩
end
end Fw

namespace Fw
open PySem L2 PySem.Spec PyProof.Rows

/-! ## repr of dicts that hold no list -/
mutual
def noList : D → Bool
  | .list _ => false
  | .tuple xs => noLists xs
  | .dict kvs => noListKv kvs
  | _ => true
def noLists : List D → Bool
  | [] => true
  | x :: xs => noList x && noLists xs
def noListKv : List (D × D) → Bool
  | [] => true
  | (_, v) :: r => noList v && noListKv r
end
section
variable {X : Cx} {pins : List (Addr × Obj)} {σ : L2.St} {H : Hp} {s : Shared}
theorem readsKey0 {k : Key} {v : Value} (h : keyIs k v = true) : Reads s.heap v (kD k) [] := by
  rcases keyIs_shape h with ⟨i, t, rfl, rfl⟩ | ⟨x, t, rfl, rfl⟩
  · exact .int i t
  · exact .str x t
def ReadsO (h : Heap) (u : Value) (d : D) : Prop := ∃ as, Reads h u d as ∧ sysModules ∉ as
def ReadsAO (h : Heap) (us : List Value) (ds : List D) : Prop := ∃ as, ReadsAll h us ds as ∧ sysModules ∉ as
theorem Rp.readsO (I : L2.Inv X pins σ H s) {v : V} {d : D} (h : Rp X.K H v d) : noList d = true → ∀ u, RelV v u → ReadsO s.heap u d :=
  Rp.rec (motive_1 := fun v d _ => noList d = true → ∀ u, RelV v u → ReadsO s.heap u d) (motive_2 := fun vs ds _ => noLists ds = true → ∀ us, Vals vs us → ReadsAO s.heap us ds)
    (motive_3 := fun kvs es _ => noListKv (es.map pD) = true → ∀ (ws : List (Key × Value)) (ents : List DictEntry), KV kvs ws → Pairs (mixKind X.prog X.w) ents ws → ReadsAll s.heap (ents.map (·.key)) ((es.map pD).map (·.1)) [] ∧ ReadsAO s.heap (ents.map (·.val)) ((es.map pD).map (·.2)))
    (fun _ u r => by cases (show u = Value.none from r); exact ⟨_, .none, List.not_mem_nil⟩) (fun b _ u r => by cases (show u = Value.bool b from r); exact ⟨_, .bool b, List.not_mem_nil⟩)
    (fun i _ u r => by obtain ⟨t, rfl⟩ := (show ∃ t, u = Value.int i t from r); exact ⟨_, .int i t, List.not_mem_nil⟩) (fun x _ u r => by obtain ⟨t, rfl⟩ := (show ∃ t, u = Value.str x t from r); exact ⟨_, .str x t, List.not_mem_nil⟩)
    (fun {a xs ds} h _ ih n u r => by simp [noList] at n)
    (fun {a xs ds} h _ ih n u r => by
      cases (show u = Value.ref a from r)
      obtain ⟨its, rv, ⟨o, ho, hc, m, hdt⟩, hlen⟩ := I.tuple h
      obtain ⟨as, q, hn⟩ := ih (by simpa [noList] using n) its rv
      exact ⟨_, .tuple ho hc hdt q, hn⟩)
    (fun {a kvs es ps} h _ e ih n u r => by
      cases (show u = Value.ref a from r)
      obtain ⟨_, hsm, vs, kv, o, ents, ep, h1, h2, h3, h4, h5, h6⟩ := I.hok a _ h
      subst e
      obtain ⟨q1, bs, q2, hb⟩ := ih (by simpa [noList] using n) vs ents.toList kv h5
      refine ⟨_, .dict h1 h2.1 h3 q1 q2, ?_⟩
      have hne : sysModules ≠ a := fun z => by rw [← z] at hsm; simp at hsm
      simp only [List.append_nil, List.cons_append, List.mem_cons, List.nil_append, not_or]
      exact ⟨hne, hb⟩)
    (fun _ us r => by cases r; exact ⟨_, .nil, List.not_mem_nil⟩)
    (fun _ _ ih1 ih2 n us r => by
      simp only [noLists, Bool.and_eq_true] at n
      cases r with
      | cons r1 r2 =>
        obtain ⟨as, q1, n1⟩ := ih1 n.1 _ r1
        obtain ⟨bs, q2, n2⟩ := ih2 n.2 _ r2
        exact ⟨_, .cons q1 q2, by rw [List.mem_append]; exact fun z => z.elim n1 n2⟩)
    (fun _ ws ents r p => by
      cases r
      cases p
      exact ⟨.nil, ⟨_, .nil, List.not_mem_nil⟩⟩)
    (fun {k v vs d ds} _ _ ih1 ih2 n ws ents r p => by
      rw [List.map_cons] at n
      simp only [pD, noListKv, Bool.and_eq_true] at n
      cases r with
      | cons r1 r2 =>
        cases p with
        | cons p1 p2 p3 =>
          obtain ⟨q1, ⟨bs, q2, n2⟩⟩ := ih2 n.2 _ _ r2 p3
          obtain ⟨e1, rv⟩ := r1
          obtain ⟨cs, q3, n3⟩ := ih1 n.1 _ rv
          have q4 := readsKey0 (s := s) (k := k) (show keyIs k _ = true by rw [show k = _ from e1]; exact p1)
          refine ⟨.cons q4 q1, _, .cons (Eq.mpr (congrArg (fun z => Reads s.heap z d cs) p2) q3) q2, ?_⟩
          rw [List.mem_append]
          exact fun z => z.elim n3 n2) h
end
def dRepr2 (d : D) : Res R := if d.showable = true ∧ (d.hasDict = false ∨ noList d = true) ∧ d.depth ≤ 60 ∧ d.shown.length ≤ lim then fr (.str d.shown) else .no
section
variable {X : Cx} {E : XK}
theorem call_reprD2 {k : Nat} (hgd : X.A.guards = some []) (hr : Room k X.A) : CallR X (.builtin "repr") (rD X.K (one dRepr2)) := by
  intro pins s σ H xs us Q I r ⟨F, ds, sb, rp, g⟩
  cases rp with
  | nil => cases g
  | cons r1 t =>
    cases t with
    | cons _ _ => cases g
    | nil =>
      obtain ⟨u, e, ru⟩ := vals1 r
      subst e
      simp only [one] at g
      unfold dRepr2 at g
      split at g
      · rename_i hc
        obtain ⟨h1, h2, h3, h4⟩ := hc
        have key : ∀ {x : V} {d : D}, Rp X.K F x d → RelV x u → (d.hasDict = false ∨ noList d = true) → ∃ as, Reads s.heap u d as ∧ (d.hasDict = true → sysModules ∉ as) := by
          intro x d r1 ru h2
          rcases h2 with h2 | h2
          · obtain ⟨as, q1⟩ := (r1.mono sb).reads I u ru
            exact ⟨as, q1, PyData.noDict_hsm h2⟩
          · obtain ⟨as, q1, n⟩ := (r1.mono sb).readsO I h2 u ru
            exact ⟨as, q1, fun _ => n⟩
        obtain ⟨as, q1, hsm⟩ := key r1 ru h2
        have fin : ∀ tk w h', (∀ b o, s.heap.get? b = some o → h'.get? b = some o) → EP X pins σ Q (.str _ w) { s with heap := h', toks := tk } := fun tk w h' hk => ⟨.str _, H, I.kept (t' := tk) hk, ⟨w, rfl⟩, g _ _ _ (.refl sb) (.str _)⟩
        cases r1 with
        | non => cases q1; exact P.repr_of_none (fin _ _ _ fun _ _ z => z)
        | bl b => cases q1; exact P.repr_of_bool (fin _ _ _ fun _ _ z => z)
        | int i =>
          cases q1
          exact P.repr_of_int (by simpa [PyData.showable] using h1) (fin _ _ _ fun _ _ z => z)
        | str x =>
          cases q1
          exact P.repr_of_str (fin _ _ _ fun _ _ z => z) (lim_le h4)
        | lst _ _ =>
          cases ru
          exact repr_of_reads' q1 h1 hsm hgd (by have := hr.un; omega) (fun _ _ z => z) (fun h' w tk hk => fin tk w h' hk) (lim_le h4)
        | tup _ _ =>
          cases ru
          exact repr_of_reads' q1 h1 hsm hgd (by have := hr.un; omega) (fun _ _ z => z) (fun h' w tk hk => fin tk w h' hk) (lim_le h4)
        | dct _ _ _ =>
          cases ru
          exact repr_of_reads' q1 h1 hsm hgd (by have := hr.un; omega) (fun _ _ z => z) (fun h' w tk hk => fin tk w h' hk) (lim_le h4)
      · cases g
end
/-! ## text * number, tuple * number -/
def dMul2 (x y : D) : Res R := match x, y with
  | .str z, .int k => if 2 ≤ k ∧ k ≤ 1000 ∧ 1 ≤ z.length ∧ z.length ≤ 1000 then fr (.str (sRep z k.toNat)) else .no
  | .tuple xs, .int k => if 2 ≤ k ∧ k ≤ 1000 ∧ xs ≠ [] ∧ xs.length ≤ 1000 then fr (.tuple (List.replicate k.toNat xs).flatten) else .no
  | x, y => dMul x y
section
variable {X : Cx} {E : XK}
theorem op_repS : OpR X (binaryOp .Mult) (fun x y H Q => ∃ (z : Str) (k : Int), x = .str z ∧ y = .int k ∧ 2 ≤ k ∧ k ≤ 1000 ∧ 1 ≤ z.length ∧ z.length ≤ 1000 ∧ Q (.str (sRep z k.toNat)) H) := by
  intro pins s σ H x y v u Q I rx ry h
  obtain ⟨z, k, rfl, rfl, h1, h2, h3, h4, q⟩ := h
  obtain ⟨t, rfl⟩ := rx
  obtain ⟨t', rfl⟩ := ry
  have hk : (k == 1 || z.length == 0) = false := by
    rw [Bool.or_eq_false_iff]
    exact ⟨beq_eq_false_iff_ne.mpr (by omega), beq_eq_false_iff_ne.mpr (by omega)⟩
  have hlen : z.length * k.toNat ≤ 1000 * 1000 := Nat.mul_le_mul h4 (by omega)
  have htl : Builtin.Str.tooLong (z.length * k.toNat) = false := by
    unfold Builtin.Str.tooLong
    first
      | (rw [decide_eq_false_iff_not]; rw [sizeLine_eq] ; omega)
      | (simp; omega)
  have hfit : (sRep z k.toNat).length ≤ sizeLine := by
    show ((List.replicate k.toNat z.cps).foldl (· ++ ·) #[]).size ≤ sizeLine
    have e : ∀ (n : Nat) (acc : Array Nat), ((List.replicate n z.cps).foldl (· ++ ·) acc).size = acc.size + n * z.cps.size := by
      intro n
      induction n with
      | zero => intro acc; simp
      | succ n ih => intro acc; rw [List.replicate_succ, List.foldl_cons, ih, Array.size_append, Nat.succ_mul]; omega
    rw [e, sizeLine_eq]
    have : k.toNat * z.cps.size = z.length * k.toNat := Nat.mul_comm _ _
    simp
    omega
  refine P.mul_str ?_ ?_ (fun _ _ => htl) ?_
  · rw [decide_eq_false (by omega), decide_eq_false (by omega)]; rfl
  · intro _ _
    have h6 : (z.length : Int) ≤ (2 ^ 63 - 1) / k := by
      rw [Int.le_ediv_iff_mul_le (by omega)]
      have : (z.length : Int) * k ≤ 1000 * 1000 := by
        have a1 : (z.length : Int) * k ≤ 1000 * k := Int.mul_le_mul_of_nonneg_right (by omega) (by omega)
        omega
      omega
    omega
  · rw [if_neg (by omega), if_neg (by rw [hk]; decide)]
    exact ⟨hfit, .str _, H, I.tok _, ⟨_, rfl⟩, q⟩
theorem OpR.or2 {f : Value → Value → Sem Value} {a b : R2} (ha : OpR X f a) (hb : OpR X f b) : OpR X f (fun x y H Q => a x y H Q ∨ b x y H Q) := by
  intro pins s σ H x y v u Q I rx ry h
  exact h.elim (ha pins s σ H x y v u Q I rx ry) (hb pins s σ H x y v u Q I rx ry)
theorem op_mulD2 : OpR X (binaryOp .Mult) (rD2 X.K dMul2) := by
  intro pins s σ H x y v u Q I rx ry ⟨F, ds, sb, rp, g⟩
  cases rp with
  | cons r1 t => cases t with
    | cons r2 t =>
      cases t
      simp only [two] at g
      unfold dMul2 at g
      split at g
      · split at g
        · rename_i hc
          exact op_repS pins s σ H _ _ v u Q I rx ry ⟨_, _, r1.strv, r2.intv, hc.1, hc.2.1, hc.2.2.1, hc.2.2.2, g _ _ _ (.refl sb) (.str _)⟩
        · cases g
      · split at g
        · rename_i hc
          obtain ⟨a, xs, e1, h1, p1⟩ := r1.tupv
          subst e1
          have hl := p1.length
          refine op_repT pins s σ H _ _ v u Q I rx ry ⟨a, _, xs, rfl, r2.intv, sb.t h1, ?_, hc.1, hc.2.1, by rw [hl]; exact hc.2.2.2, ?_⟩
          · intro z; subst z
            have : ([] : List V).length = _ := hl
            exact hc.2.2.1 (List.length_eq_zero_iff.mp this.symm)
          · intro p hp
            refine newTup sb hp ?_ g
            generalize Int.toNat _ = n
            induction n with
            | zero => exact .nil
            | succ n ih => rw [List.replicate_succ, List.replicate_succ, List.flatten_cons, List.flatten_cons]; exact p1.append ih
        · cases g
      · exact op_mulD pins s σ H _ _ v u Q I rx ry ⟨F, _, sb, .cons r1 (.cons r2 .nil), g⟩
end
/-! ## max of a list of whole numbers -/
def dMaxL : D → Res R
  | .list xs => (match intsOf xs with
    | some (n :: ns) => fr (.int (ns.foldl max n))
    | _ => .no)
  | _ => .no
section
variable {X : Cx} {E : XK}
theorem ints_some : ∀ {xs : List D} {ns : List Int}, intsOf xs = some ns → xs = ns.map .int := by
  intro xs
  induction xs with
  | nil => intro ns h; cases h; rfl
  | cons x xs ih =>
    intro ns h
    cases x with
    | int i =>
      simp only [intsOf, Option.map_eq_some_iff] at h
      obtain ⟨ms, e1, e2⟩ := h
      subst e2
      rw [ih e1]
      rfl
    | _ => simp [intsOf] at h
theorem max_fold : ∀ (ns : List Int) (n m : Int), m ∈ n :: ns → (∀ a ∈ n :: ns, a ≤ m) → ns.foldl max n = m := by
  intro ns
  induction ns with
  | nil =>
    intro n m h _
    simpa using (List.mem_singleton.mp h).symm
  | cons k ns ih =>
    intro n m h h2
    rw [List.foldl_cons]
    have h1 := h2 n (by simp)
    have h3 := h2 k (by simp)
    refine ih (max n k) m ?_ ?_
    · rcases List.mem_cons.mp h with e | h
      · subst e
        rw [show max m k = m by omega]; simp
      · rcases List.mem_cons.mp h with e | h
        · subst e
          rw [show max n m = m by omega]; simp
        · exact List.mem_cons_of_mem _ h
    · intro a ha
      rcases List.mem_cons.mp ha with e | ha
      · subst e; omega
      · exact h2 a (by simp [ha])
theorem call_maxLD (hc : X.calm = true) : CallR X (.builtin "max") (rD X.K (one dMaxL)) := call1_of (cr_max hc) fun F H x d Q s r1 g => by
  unfold dMaxL at g
  split at g
  · split at g
    · rename_i n ns hn
      obtain ⟨a, vs, e1, h1, p1⟩ := r1.lstv
      subst e1
      have hv := rpInts p1 hn
      subst hv
      exact ⟨a, n :: ns, rfl, s.l h1, by simp, fun m hm h2 => by
        rw [← max_fold ns n m hm h2]
        exact g _ _ _ (.refl s) (.int _)⟩
    · cases g
  · cases g
end
/-! ## dict displays with constant keys -/
def putAll (kvs : List (Key × D)) : List (Key × D) → List (Key × D)
  | [] => kvs
  | (k, v) :: r => putAll (putD kvs k v) r
def eDct (ks : List Key) (ms : AM) : EM := fun Γ => (ms Γ).bind fun p => if p.1.length = ks.length then .ok (.own (.dct (putAll [] (ks.zip p.1))), p.2) else .no
/-- the frame that keeps a new object as it is -/
def Bd.keep (B : Bd) (p : Addr) (o : HO) : Bd := { B with U := upd B.U p o }
section
variable {X : Cx} {E : XK} {B : Bd} {K : PySem.W.Frag} {F F' H H' : Hp} {σ : L2.St} {Γ Γ' : Gm}
theorem Rel.hold (r : Rel B K F H σ Γ) {p : Addr} {o : HO} (hp : H p = none) : Rel (B.keep p o) K F (upd H p o) σ Γ := by
  have g := r.grow (Grow.new (o := o) r.fh hp)
  refine ⟨g.lσ, g.lΓ, ?_, g.fh, g.f0, ?_, g.sl, g.inj, ?_⟩
  · intro a u e
    have e : upd B.U p o a = some u := e
    by_cases z : a = p
    · subst z; rw [upd_same] at e ⊢; exact e
    · rw [upd_ne z] at e ⊢; exact r.uh a u e
  · intro a u e
    rcases r.nw a u e with q | q
    · exact .inl q
    · right
      show upd B.U p o a = none
      rw [upd_ne (ne_of_none (r.fh a u e) hp)]
      exact q
  · intro i a h
    obtain ⟨f, u⟩ := r.ofr i a h
    refine ⟨f, ?_⟩
    obtain ⟨w, hw⟩ := h.some r
    show upd B.U p o a = none
    rw [upd_ne (ne_of_none hw hp)]
    exact u
theorem Rel.loose {p : Addr} {o : HO} (r : Rel (B.keep p o) K F H σ Γ) (hp : B.U p = none) : Rel B K F H σ Γ := by
  have sub : Sub B.U (upd B.U p o) := fun a u e => by rw [upd_ne (ne_of_none e hp)]; exact e
  refine ⟨r.lσ, r.lΓ, sub.trans r.uh, r.fh, r.f0, ?_, r.sl, r.inj, fun i a h => ⟨(r.ofr i a h).1, sub.ne (r.ofr i a h).2⟩⟩
  intro a u e
  rcases r.nw a u e with q | q
  · exact .inl q
  · exact .inr (sub.ne q)
theorem RpKv.putAll {kvs : List (Key × V)} {es : List (Key × D)} (h : RpKv K F kvs es) {ps : List (Key × V)} {qs : List (Key × D)} (h2 : RpKv K F ps qs) : RpKv K F (mergeK kvs ps) (Fw.putAll es qs) := by
  induction qs generalizing kvs es ps with
  | nil => cases h2; exact h
  | cons q qs ih => cases h2 with
    | cons hv t => exact ih (h.put _ hv) t
theorem rp_zip {ks : List Key} {vs : List V} {ds : List D} (h : RpAll K F vs ds) : RpKv K F (ks.zip vs) (ks.zip ds) := by
  induction ks generalizing vs ds with
  | nil => exact .nil
  | cons k ks ih => cases h with
    | nil => exact .nil
    | cons h t => exact .cons h (ih t)
/-- the pairs, constant keys -/
def DenPs (X : Cx) (E : XK) (ks : List Key) (trs : List (TE × TE)) (m : AM) : Prop := ∀ (B : Bd) (F H : Hp) (σ : L2.St) (Γ : Gm) (Q : List (V × V) → Hp → Prop), Rel B X.K F H σ Γ →
  (m Γ).good (fun p => ∀ vs F' H', Rel B X.K F' H' σ p.2 → Sub F F' → RpAll X.K F' vs p.1 → vs.length = ks.length → Q ((ks.zip vs).map fun kv => (kV kv.1, kv.2)) H') (XPx X B F E) → tPairs trs σ H Q
def DPs (X : Cx) (E : XK) (pos : Pos) (keys : List (Option Expr)) (values : List Expr) (ks : List Key) (m : AM) : Prop := ∃ trs, PPs X pos keys values trs ∧ DenPs X E ks trs m
theorem dps_nil {pos : Pos} : DPs X E pos [] [] [] aNil := by
  refine ⟨_, pps_nil, ?_⟩
  intro B F H σ Γ Q r g
  exact g [] F H r (Sub.refl _) .nil rfl
theorem dps_cons {pos : Pos} {k : Expr} {v : Expr} {keys : List (Option Expr)} {values : List Expr} {key : Key} {ks : List Key} {m : EM} {ms : AM} {tk : TE} (hk : PE X k tk) (hc : ∀ σ H Q, Q (kV key) H → tk σ H Q) (hv : DE X E v m) (hr : DPs X E pos keys values ks ms) : DPs X E pos (some k :: keys) (v :: values) (key :: ks) (aCons m ms) := by
  obtain ⟨tv, pv, dv⟩ := hv
  obtain ⟨trs, pr, dr⟩ := hr
  refine ⟨_, pps_cons hk pv pr, ?_⟩
  intro B F H σ Γ Q r g
  show tk σ H _
  refine hc σ H _ ?_
  refine dv.opd r g ?_
  intro w d Γ1 F1 H1 r1 s1 rp g1
  refine dr B F1 H1 σ Γ1 _ r1 ?_
  rw [Res.good_bind] at g1
  refine g1.mono ?_ fun _ _ z => z
  intro p hp vs F' H' r' s' ra hn
  exact hp (w :: vs) F' H' r' (s1.trans s') (.cons (rp.mono s') ra) (by rw [List.length_cons, hn, List.length_cons])
theorem dps_str {pos p0 : Pos} {x : Str} {j : Nat} {v : Expr} {keys : List (Option Expr)} {values : List Expr} {ks : List Key} {m : EM} {ms : AM} (hv : DE X E v m) (hr : DPs X E pos keys values ks ms) : DPs X E pos (some (.Constant (.str x) j p0) :: keys) (v :: values) (.inr x :: ks) (aCons m ms) :=
  dps_cons pe_str (fun σ H Q h => h) hv hr
theorem dps_int {pos p0 : Pos} {x : Int} {j : Nat} {v : Expr} {keys : List (Option Expr)} {values : List Expr} {ks : List Key} {m : EM} {ms : AM} (hv : DE X E v m) (hr : DPs X E pos keys values ks ms) : DPs X E pos (some (.Constant (.int x) j p0) :: keys) (v :: values) (.inl x :: ks) (aCons m ms) :=
  dps_cons pe_int (fun σ H Q h => h) hv hr
theorem de_dct {pos : Pos} {keys : List (Option Expr)} {values : List Expr} {ks : List Key} {m : AM} (h : DPs X E pos keys values ks m) (hall : keys.all (·.isSome) = true := by rfl) (hl : keys.length = values.length := by rfl) (h0 : keys ≠ [] := by simp)
    (h15 : keys.length ≤ 15 := by decide) (hk : ks.length ≤ 15 := by decide) : DE X E (.Dict keys values pos) (eDct ks m) := by
  obtain ⟨trs, p, d⟩ := h
  refine ⟨_, pe_disp p hall hl h0 h15, ?_⟩
  intro B F H σ Γ Q r g q hq
  have hU : B.U q = none := r.uh.ne hq
  refine d (B.keep q (.dK [])) F (upd H q (.dK [])) σ Γ _ (r.hold hq) ?_
  unfold eDct at g
  rw [Res.good_bind] at g
  refine g.mono ?_ ?_
  · intro p hp vs F' H' r' s' ra hn
    have e : H' q = some (.dK []) := r'.uh q _ (show upd B.U q (.dK []) q = _ from upd_same)
    have hFq : F' q = none := by
      cases z : F' q with
      | none => rfl
      | some u =>
        rcases r'.nw q u z with q1 | q1
        · have q1 : B.F0 q ≠ none := q1
          cases z2 : B.F0 q with
          | none => exact (q1 z2).elim
          | some w => rw [r.fh q w (r.f0 q w z2)] at hq; cases hq
        · have q1 : upd B.U q (.dK []) q = none := q1
          rw [upd_same] at q1; cases q1
    have now : ∀ i, ¬ Owns σ p.2 i q := fun i o => by
      have := (r'.ofr i q o).2
      have this : upd B.U q (.dK []) q = none := this
      rw [upd_same] at this; cases this
    refine ⟨e, ks.zip vs, rfl, by rw [List.length_zip]; omega, ?_⟩
    have hlen : p.1.length = ks.length := by rw [← ra.length]; exact hn
    simp only [if_pos hlen] at hp
    have r2 : Rel B X.K F' H' σ p.2 := r'.loose hU
    have kv : RpKv X.K F' (mergeK [] (ks.zip vs)) (Fw.putAll [] (ks.zip p.1)) := RpKv.putAll .nil (rp_zip ra)
    refine hp (.ref q) F' (upd H' q (.dK (mergeK [] (ks.zip vs)))) ?_ s' ⟨q, rfl, hFq, hU, now, _, upd_same, kv⟩
    refine ⟨r2.lσ, r2.lΓ, ?_, ?_, r2.f0, r2.nw, ?_, r2.inj, r2.ofr⟩
    · intro a u ea
      rw [upd_ne (fun z => by subst z; rw [hU] at ea; cases ea)]
      exact r2.uh a u ea
    · intro a u ea
      rw [upd_ne (ne_of_none ea hFq)]
      exact r2.fh a u ea
    · intro i sv ei
      refine (r2.sl i sv ei).mono (Sub.refl _) fun o a ea => upd_ne fun z => ?_
      subst z
      exact now i ⟨⟨sv, ei, o⟩, getD_some ea⟩
  · intro x g' hx σ2 Cv od F' H' r' s' hm ha
    exact hx σ2 Cv od F' H' (r'.loose hU) s' hm ha
theorem de_dct0 {pos : Pos} : DE X E (.Dict [] [] pos) (fun Γ => .ok (.own (.dct []), Γ)) := by
  refine ⟨_, pe_dnewK, ?_⟩
  intro B F H σ Γ Q r g q hq
  have gr := Grow.new (o := .dK []) r.fh hq
  exact g _ _ _ (r.grow gr) (Sub.refl _) (NR.rr r (q := .own (.dct [])) ⟨q, rfl, hq, r.fh.ne hq, [], upd_same, .nil⟩)
end
end Fw

namespace Fw
open PySem L2 PySem.Spec PyProof.Rows RT
section
variable {prog : Program} {w : World} {A : Around} {E : Value → Shared → Prop} {s : Shared}
theorem extend_rev {R : Result → Shared → Prop} {it l : Addr} {items : Array Value} (hh : A.handled = none) (hit : s.heap.IsRevIter it l ((items.size : Int) - 1)) (hl : s.heap.IsList l items) (hne : l ≠ it) (hn : items.size ≤ sizeLine)
    (S : Addr) (hSi : S ≠ it) (hSl : S ≠ l) (res : Value) (c₀ : Nat) (hS : s.heap.get? S = some { cls := .type "list", data := .seq #[] c₀ })
    (hR : ∀ h' tk acc' c', (∀ b o, b ≠ S → b ≠ it → s.heap.get? b = some o → h'.get? b = some o) → h'.get? S = some { cls := .type "list", dict := none, data := .seq acc' c', slots := #[] } →
      ItemsOf (fun i v => items[items.size - 1 - i]? = some v) acc' items.size → R (.ok (.ret res)) { s with heap := h', toks := tk }) :
    wpAny (model prog w) A.in1 (Builtin.List.listExtendWith (.ref S) (.ref it) res)
      (fun fin s' => match fin with | .done f => R (.ok f) s' | .again c' => c'.quiet = true ∧ codeAny (model prog w) A c' R s') (fun e s' => R (.error e) s') s := by
  have W := (Walks.listRev (prog := prog) (w := w) (A := A.in1) hh it l hne items).toS
  have hSf : S ∉ [it, l] := by simp only [List.mem_cons, List.not_mem_nil, or_false, not_or]; exact ⟨hSi, hSl⟩
  have hT : s.TypeIs (.ref it) "list_reverseiterator" := Heap.IsRevIter.typeIs (s := s) hit
  have h1 : Builtin.List.listSameRef (.ref S) (.ref it) = false := by simp [Builtin.List.listSameRef, hSi]
  unfold Builtin.List.listExtendWith
  refine wpAny_bind (wpAny_typeOf hT ?_)
  rw [if_neg (by rw [h1]; decide)]
  refine wpAny_bind (wpAny_pyIter_revIter (s := s) hit ?_)
  refine wpAny_bind (wpAny_holding ?_)
  unfold Builtin.List.listLengthHint
  refine wpAny_bind (wpAny_specialOf hT nolen_lri ?_)
  show wpAny _ A.in1 (specialOf (Value.ref it) (Str.ofString "__length_hint__") >>= _) _ _ _
  refine wpAny_bind (wpAny_specialOf hT hint_lri ?_)
  generalize hid : ("list_reverseiterator.__length_hint__" : String) = id0
  wp_delta
  rw [show splitId id0 = some ("list_reverseiterator", "__length_hint__") from by subst hid; decide +kernel]
  subst hid
  refine wpAny_bind (wpAny_isInstance (b := true) hT (by rw [isSubtype_type]; kernel_rfl) ?_)
  refine wpAny_pure ?_
  rw [if_neg (by decide)]
  have e0 : ((items.size : Nat) : Int) - 1 - ((0 : Nat) : Int) = (items.size : Int) - 1 := by omega
  refine wpAny_pure ⟨plainId_quiet F.plain_extend_loop _, codeAny_extend_loopS W hn _ hSf _ items.size 0 _ _ _ rfl (Nat.zero_le _) ⟨Nat.zero_le _, by rw [e0]; exact hit, hl⟩ hS (ItemsOf.nil _) fun s' acc' c' hm hS' hacc => ?_⟩
  rw [Moved.eq_with hm]
  refine hR s'.heap s'.toks acc' c' (fun b o hb hb2 e => hm.heap b o (fun hmem => ?_) e) hS' hacc
  rcases List.mem_cons.mp hmem with e' | hmem
  · exact hb e'
  · exact hb2 (List.mem_singleton.mp hmem)
theorem call_list_rev {it l : Addr} {items : Array Value} {Q : Value → Shared → Prop} (hh : A.handled = none) (hit : s.heap.IsRevIter it l ((items.size : Int) - 1)) (hl : s.heap.IsList l items) (hne : l ≠ it) (hn : items.size ≤ sizeLine)
    (hQ : ∀ h' tk acc' c', (∀ b o, b ≠ it → s.heap.get? b = some o → h'.get? b = some o) → h'.get? s.heap.objs.size = some { cls := .type "list", dict := none, data := .seq acc' c', slots := #[] } →
      ItemsOf (fun i v => items[items.size - 1 - i]? = some v) acc' items.size → Q (.ref s.heap.objs.size) { s with heap := h', toks := tk }) :
    wpAny (model prog w) A (call (.type "list") [.ref it]) Q E s := by
  refine callType_codes (Q₁ := fun obj s₁ => obj = .ref s.heap.objs.size ∧ s₁ = { s with heap := s.heap.push { cls := .type "list", data := .seq #[] } }) F.called_list (F.typeCall_list_1 _) F.entry_list_init
    (code_list_new _ ⟨rfl, rfl⟩) fun obj s₁ h₁ => ?_
  obtain ⟨rfl, rfl⟩ := h₁
  obtain ⟨oi, hoi, _⟩ := id hit
  obtain ⟨ol, hol, _⟩ := id hl
  have hSi : s.heap.objs.size ≠ it := Nat.ne_of_gt (Heap.lt_size hoi)
  have hSl : s.heap.objs.size ≠ l := Nat.ne_of_gt (Heap.lt_size hol)
  have hS : (s.heap.push { cls := .type "list", data := .seq #[] }).get? s.heap.objs.size = some { cls := .type "list", data := .seq #[] } := Heap.get?_push_size _ rfl
  refine ⟨⟨_, hS, rfl⟩, F.args_list_init_2 _ _, ?_⟩
  show wpAny _ _ (do let old ← Builtin.List.listItems (.ref s.heap.objs.size); Builtin.List.listUpdate (.ref s.heap.objs.size) (fun _ => #[]); letGo old.toList.reverse; Builtin.List.listExtendWith (.ref s.heap.objs.size) (.ref it) .none) _ _ _
  refine wpAny_bind ?_
  unfold Builtin.List.listItems
  refine wpAny_bind (wpAny_seqItems hS rfl (wpAny_pure ?_))
  show wpAny _ _ (updateSeq s.heap.objs.size (fun _ => #[]) >>= fun _ => letGo (#[] : Array Value).toList.reverse >>= fun _ => Builtin.List.listExtendWith (.ref s.heap.objs.size) (.ref it) .none) _ _ _
  refine wpAny_bind (wpAny_updateSeq hS rfl ?_)
  have hS₂ := Heap.get?_update_self (Obj.mapSeq (fun _ => (#[] : Array Value))) hS rfl
  have oth : ∀ b o, b ≠ s.heap.objs.size → (s.heap.push { cls := .type "list", data := .seq #[] }).get? b = some o → ((s.heap.push { cls := .type "list", data := .seq #[] }).update s.heap.objs.size (Obj.mapSeq (fun _ => (#[] : Array Value)))).get? b = some o :=
    fun b o hb e => (Heap.get?_update_other _ _ (Ne.symm hb)).trans e
  refine wpAny_bind (wpAny_letGo ?_)
  have hit2 : ((s.heap.push { cls := .type "list", data := .seq #[] }).update s.heap.objs.size (Obj.mapSeq (fun _ => (#[] : Array Value)))).IsRevIter it l ((items.size : Int) - 1) :=
    hit.at fun o e => oth _ _ (Ne.symm hSi) (Heap.get?_push_of_some _ e)
  have hl2 : ((s.heap.push { cls := .type "list", data := .seq #[] }).update s.heap.objs.size (Obj.mapSeq (fun _ => (#[] : Array Value)))).IsList l items :=
    hl.at fun o e => oth _ _ (Ne.symm hSl) (Heap.get?_push_of_some _ e)
  refine extend_rev (A := A.in1) (s := { s with heap := (s.heap.push { cls := .type "list", data := .seq #[] }).update s.heap.objs.size (Obj.mapSeq (fun _ => (#[] : Array Value))) }) hh hit2 hl2 hne hn _ hSi hSl .none _ hS₂ fun h' tk acc' c' hk hS' hacc => ?_
  refine ⟨rfl, hQ h' tk acc' c' (fun b o hb e => hk b o (Nat.ne_of_lt (Heap.lt_size e)) hb (oth b o (Nat.ne_of_lt (Heap.lt_size e)) (Heap.get?_push_of_some _ e))) hS' hacc⟩
end
/-- list(reversed(x)), x a list: a new list -/
def tListRev (K : PySem.W.Frag) (te : TE) : TE := fun σ H Q => te σ H fun v H1 => ∃ (a : Addr) (xs : List V), v = .ref a ∧ SqL K H1 a xs ∧ ∀ q, H1 q = none → Q (.ref q) (upd H1 q (.lst xs.reverse))
section
variable {X : Cx}
theorem pe_listRev {e : Expr} {te : TE} {p p2 pos pos2 : Pos} (hc : X.calm = true) (hm : X.mg "list" = none) (hm2 : X.mg "reversed" = none) (he : PE X e te) (hg : Gl X "list" := by rfl) (hg2 : Gl X "reversed" := by rfl)
    (hs : starEach [e] X.env = (false, eval e X.env) :: starEach [] X.env := by rfl)
    (hs2 : starEach [.Call (.Name "reversed" p2) [e] [] pos2] X.env = (false, eval (.Call (.Name "reversed" p2) [e] [] pos2) X.env) :: starEach [] X.env := by rfl) :
    PE X (.Call (.Name "list" p) [.Call (.Name "reversed" p2) [e] [] pos2] [] pos) (tListRev X.K te) := by
  refine ⟨fun pins s σ H Q I h => ?_⟩
  refine Call_ (ld_blt I hg hm boot_list (PyProof.Rows.callWith_type1 (args_cons (Call_ (ld_blt I hg2 hm2 PyProof.Rows.boot_reversed (PyProof.Rows.callWith_type1 (args_cons (thn (he.run pins s σ H _ I h) fun u s1 ⟨v, H1, I1, r1, q1⟩ => args_nil ?_) hs) hs rfl))) hs2) hs2 rfl))
  obtain ⟨a, xs, ev, hq, q⟩ := q1
  subst ev
  obtain rfl : u = Value.ref a := r1
  obtain ⟨its, rv, p', hz⟩ := I1.list hq
  refine call_reversed_list p'.isList (args_nil ?_)
  have k0 : ∀ b o, s1.heap.get? b = some o → (s1.heap.push (revObj a ((its.toArray.size : Int) - 1))).get? b = some o := fun b o e => Heap.get?_push_of_some _ e
  have hl := p'.isList
  obtain ⟨ol, hol, _⟩ := id hl
  have hne : a ≠ s1.heap.objs.size := Nat.ne_of_lt (Heap.lt_size hol)
  have hn : its.toArray.size ≤ sizeLine := by rw [List.size_toArray, ← rv.length]; exact hz
  refine call_list_rev (s := { s1 with heap := s1.heap.push (revObj a ((its.toArray.size : Int) - 1)) }) (I1.ok.hd hc) ⟨_, Heap.get?_push_size _ rfl, rfl, rfl⟩ (hl.push _) hne hn fun h' tk acc c' hk hS' hi => ?_
  have hle : s1.heap.objs.size ≤ (s1.heap.push (revObj a ((its.toArray.size : Int) - 1))).objs.size := by show s1.heap.objs.size ≤ (s1.heap.objs.push _).size; rw [Array.size_push]; exact Nat.le_succ _
  exact ⟨.ref (s1.heap.push (revObj a ((its.toArray.size : Int) - 1))).objs.size, _, I1.laid (t' := tk) (fun b o e => hk b o (Nat.ne_of_lt (Heap.lt_size e)) (k0 b o e)) hle (show ObjOk X.prog X.w _ h' _ (.lst xs.reverse) from ⟨by rw [List.length_reverse]; exact hz, acc.toList, c', vals_rev rv hi, by rw [Array.toArray_toList]; exact hS'⟩), rfl, q _ (I1.hok.fresh hle)⟩
end

section
variable {X : Cx} {E : XK}
def dRevL : D → Res R
  | .list xs => .ok (.own (.lst xs.reverse))
  | _ => .no
theorem de_revL {e : Expr} {m : EM} {p p2 pos pos2 : Pos} (he : DE X E e m) (hm : X.mg "list" = none) (hm2 : X.mg "reversed" = none) (hc : X.calm = true) (hg : Gl X "list" := by rfl) (hg2 : Gl X "reversed" := by rfl)
    (hs : starEach [e] X.env = (false, eval e X.env) :: starEach [] X.env := by rfl)
    (hs2 : starEach [.Call (.Name "reversed" p2) [e] [] pos2] X.env = (false, eval (.Call (.Name "reversed" p2) [e] [] pos2) X.env) :: starEach [] X.env := by rfl) :
    DE X E (.Call (.Name "list" p) [.Call (.Name "reversed" p2) [e] [] pos2] [] pos) (eUn dRevL m) := by
  obtain ⟨te, pe, h⟩ := he
  refine ⟨_, pe_listRev hc hm hm2 pe hg hg2 hs hs2, ?_⟩
  intro B F H σ Γ Q r g
  refine h.opd r g ?_
  intro v d Γ1 F1 H1 r1 s1 rp g1
  have g4 := lift_good (mg := X.mg) r1 s1 g1
  unfold dRevL at g4
  split at g4
  · obtain ⟨a, xs, e1, h1, p1⟩ := rp.lstv
    subst e1
    refine ⟨a, xs, rfl, r1.fh.l h1, fun q hq => ?_⟩
    exact g4 _ _ _ (Grow.new (o := .lst xs.reverse) r1.fh hq) ⟨q, rfl, hq, r1.fh.ne hq, xs.reverse, upd_same, p1.reverse⟩
  · cases g4
/-! ## a name that is lent where it can be -/
def laN (i : Nat) (ms : LM) : LM := fun Γ => match ownC Γ i with
  | some _ => laL i ms Γ
  | none => laV (eVar i) ms Γ
theorem dl_n (i : Nat) {x : Str} {pos : Pos} {es : List Expr} {ms : LM} (hs : DL X E es ms) (hN : X.N[i]? = some x := by rfl) (hv : Vis X.env.scope x := by first | exact Or.inl rfl | exact Or.inr (Or.inl rfl) | exact Or.inr (Or.inr rfl)) (hd : (x == ("__debug__" : Str)) = false := by decide)
    (hcd : (x == ("__classdict__" : Str)) = false := by decide) (hst : starEach (.Name x pos :: es) X.env = (false, eval (.Name x pos) X.env) :: starEach es X.env := by rfl) : DL X E (.Name x pos :: es) (laN i ms) := by
  obtain ⟨ts, ps, hs⟩ := hs
  refine ⟨_, pa_cons (pe_var hN hv hd hcd) ps hst, ?_⟩
  intro B F H σ Γ Q r g
  unfold laN at g
  split at g
  · rename_i c0 hc0
    unfold laL at g
    split at g
    · cases g
    · rename_i c hc
      obtain ⟨a, e1, _⟩ := r.cell hc
      refine ⟨.ref a, e1, ?_⟩
      refine hs B F H σ Γ _ r ?_
      rw [Res.good_bind] at g
      refine g.mono ?_ fun _ _ z => z
      intro p hp vs F' H' r' s' rl hn
      exact hp _ F' H' r' s' (.l e1 rl) (by rw [List.length_cons, hn, List.length_cons])
  · unfold laV at g
    refine (Den.var (X := X) (E := E) (i := i)).opd r g ?_
    intro v d Γ1 F1 H1 r1 s1 rp g1
    refine hs B F1 H1 σ Γ1 _ r1 ?_
    rw [Res.good_bind] at g1
    refine g1.mono ?_ fun _ _ z => z
    intro p hp vs F' H' r' s' rl hn
    exact hp _ F' H' r' (s1.trans s') (.v (rp.mono s') rl) (by rw [List.length_cons, hn, List.length_cons])
/-! ## constants of the module, of any kind -/
structure GD (K : PySem.W.Frag) (mg : Str → Option Value) (x : Str) (d : D) : Prop where
  ex : ∃ u v, mg x = some u ∧ RelV v u ∧ ∀ F, Rp K F v d
theorem de_gD {x : Str} {d : D} {pos : Pos} (hm : GD X.K X.mg x d) (hg : Gl X x := by rfl) (hd : (x == ("__debug__" : Str)) = false := by decide) : DE X E (.Name x pos) (eC d) := by
  obtain ⟨u, v, h, q, r⟩ := hm.ex
  exact ⟨_, pe_glob (v := v) hg h q hd, fun B F H σ Γ Q rr g => g _ F H rr (Sub.refl _) (r F)⟩
/-- what stands in the module's frozen part -/
inductive KV (K : PySem.W.Frag) : Value → D → Prop
  | i (n : Int) (t : Tok) : KV K (.int n t) (.int n)
  | s (x : Str) (t : Tok) : KV K (.str x t) (.str x)
  | b (x : Bool) : KV K (.bool x) (.bool x)
  | n : KV K .none .none
  | t {a : Addr} {ds : List D} : (∃ v, ∀ F, v = V.ref a ∧ Rp K F v (.tuple ds)) → KV K (.ref a) (.tuple ds)
theorem KV.rp {K : PySem.W.Frag} {u : Value} {d : D} (h : KV K u d) : ∃ v, RelV v u ∧ ∀ F, Rp K F v d := by
  cases h with
  | i n t => exact ⟨.int n, ⟨t, rfl⟩, fun F => .int n⟩
  | s x t => exact ⟨.str x, ⟨t, rfl⟩, fun F => .str x⟩
  | b x => exact ⟨.bl x, rfl, fun F => .bl x⟩
  | n => exact ⟨.non, rfl, fun F => .non⟩
  | @t a ds h =>
    obtain ⟨v, h⟩ := h
    have e := (h fun _ => none).1
    subst e
    exact ⟨.ref a, show RelV (.ref a) (.ref a) from rfl, fun F => (h F).2⟩
inductive KVs (K : PySem.W.Frag) : List Value → List D → Prop
  | nil : KVs K [] []
  | cons {u : Value} {d : D} {us : List Value} {ds : List D} : KV K u d → KVs K us ds → KVs K (u :: us) (d :: ds)
theorem KVs.rp {K : PySem.W.Frag} {us : List Value} {ds : List D} (h : KVs K us ds) : ∃ vs, Vals vs us ∧ ∀ F, RpAll K F vs ds := by
  induction h with
  | nil => exact ⟨[], .nil, fun _ => .nil⟩
  | cons h _ ih =>
    obtain ⟨v, r, p⟩ := h.rp
    obtain ⟨vs, rs, ps⟩ := ih
    exact ⟨v :: vs, .cons r rs, fun F => .cons (p F) (ps F)⟩
theorem KVs.tup {K : PySem.W.Frag} {a : Addr} {us : List Value} {ds : List D} {od : Option Addr} {n : Nat} {sl : Array (Option Value)} (l : K.lookup a = some ⟨.type "tuple", od, .seq us.toArray n, sl⟩) (h : KVs K us ds) (hz : us.length ≤ 1000) : KV K (.ref a) (.tuple ds) := by
  obtain ⟨vs, rs, ps⟩ := h.rp
  exact .t ⟨.ref a, fun F => ⟨rfl, .tup (.inr ⟨_, us.toArray, n, l, rfl, rfl, by rw [List.size_toArray]; exact Nat.le_trans hz (by decide), show Vals _ _ from rs⟩) (ps F)⟩⟩
theorem gd_mk {h : Heap} {K : PySem.W.Frag} {mg : Str → Option Value} {x : Str} {u : Value} {d : D} (G : h.Ns mainGlobals mg) (X : K.In h) (e : PySem.W.nsIn K mainGlobals x = some (some u)) (k : KV K u d) : GD K mg x d := by
  obtain ⟨v, r, p⟩ := k.rp
  exact ⟨u, v, PySem.W.mg_of X G e, r, p⟩
end
/-! ## evaluation -/
def laNK (i : Nat) (ms : LM) (Γ : Gm) : Option SV → Res (List LA × Gm)
  | some (.ow _) => (ms Γ).bind fun p => .ok (.l i :: p.1, p.2)
  | some (.io _) => (ms Γ).bind fun p => .ok (.l i :: p.1, p.2)
  | some (.d d) => (ms Γ).bind fun p => .ok (.v d :: p.1, p.2)
  | _ => .no
end Fw

namespace Fw
open PySem L2 PySem.Spec PyProof.Rows

/-! ## own lists and dicts that are looked at by a call, and then the def's own again -/
mutual
/-- no list, no dict lies within -/
def pureD : D → Bool
  | .list _ => false
  | .dict _ => false
  | .tuple xs => pureDs xs
  | _ => true
def pureDs : List D → Bool
  | [] => true
  | x :: xs => pureD x && pureDs xs
end
def pureR : R → Bool
  | .fro d => pureD d
  | .own (.lst xs) => pureDs xs
  | .own (.dct kvs) => pureDs (kvs.map (·.2))
def loanS (b : Bool) : SV → SV
  | .ow c => if b = true then .d c.toD else .no
  | .io c => if b = true then .d c.toD else .no
  | s => s
def loanG (is : List Nat) : Nat → Gm → Gm
  | _, [] => []
  | k, s :: Γ => loanS (decide (k ∈ is)) s :: loanG is (k + 1) Γ
def loanK (Γ : Gm) : Res (R × Gm) → Res (R × Gm)
  | .ok p => if pureR p.1 = true then .ok (p.1, Γ) else .no
  | _ => .no
def eLoan (is : List Nat) (m : EM) : EM := fun Γ => loanK Γ (m (loanG is 0 Γ))
theorem loanG_at (is : List Nat) : ∀ (k : Nat) (Γ : Gm) (i : Nat), (loanG is k Γ)[i]? = Γ[i]?.map (loanS (decide (k + i ∈ is)))
  | k, [], i => by simp [loanG]
  | k, s :: Γ, 0 => by simp [loanG]
  | k, s :: Γ, i + 1 => by
    rw [loanG, List.getElem?_cons_succ, List.getElem?_cons_succ, loanG_at is (k + 1) Γ i, show k + 1 + i = k + (i + 1) by omega]
theorem loanG_len (is : List Nat) : ∀ (k : Nat) (Γ : Gm), (loanG is k Γ).length = Γ.length
  | k, [] => rfl
  | k, s :: Γ => by rw [loanG, List.length_cons, loanG_len is (k + 1) Γ]; rfl
theorem loanS_own (b : Bool) (s : SV) : (loanS b s).owned = false := by
  cases s <;> cases b <;> rfl
section
variable {K : PySem.W.Frag} {F F3 : Hp}
theorem Rp.pure (hs : ∀ a u, Rd F a u → (∃ xs, u = .tup xs) → Rd F3 a u) {v : V} {d : D} (h : Rp K F v d) : pureD d = true → Rp K F3 v d :=
  Rp.rec (motive_1 := fun v d _ => pureD d = true → Rp K F3 v d) (motive_2 := fun vs ds _ => pureDs ds = true → RpAll K F3 vs ds) (motive_3 := fun kvs es _ => pureDs (es.map (·.2)) = true → RpKv K F3 kvs es)
    (fun _ => .non) (fun b _ => .bl b) (fun i _ => .int i) (fun x _ => .str x)
    (fun _ _ _ z => by simp [pureD] at z)
    (fun {a xs ds} h _ ih z => by
      refine .tup ?_ (ih (by simpa [pureD] using z))
      rcases h with h | h
      · exact .inl (hs a _ h ⟨_, rfl⟩)
      · exact .inr h)
    (fun _ _ _ _ z => by simp [pureD] at z)
    (fun _ => .nil)
    (fun _ _ i1 i2 z => by
      simp only [pureDs, Bool.and_eq_true] at z
      exact .cons (i1 z.1) (i2 z.2))
    (fun _ => .nil)
    (fun _ _ i1 i2 z => by
      simp only [List.map_cons, pureDs, Bool.and_eq_true] at z
      exact .cons (i1 z.1) (i2 z.2)) h
theorem RpAll.pure (hs : ∀ a u, Rd F a u → (∃ xs, u = .tup xs) → Rd F3 a u) {vs : List V} {ds : List D} (h : RpAll K F vs ds) (z : pureDs ds = true) : RpAll K F3 vs ds := by
  induction ds generalizing vs with
  | nil => cases h; exact .nil
  | cons d ds ih =>
    cases h with
    | cons h t =>
      simp only [pureDs, Bool.and_eq_true] at z
      exact .cons (h.pure hs z.1) (ih t z.2)
theorem RpKv.pure (hs : ∀ a u, Rd F a u → (∃ xs, u = .tup xs) → Rd F3 a u) {vs : List (Key × V)} {ds : List (Key × D)} (h : RpKv K F vs ds) (z : pureDs (ds.map (·.2)) = true) : RpKv K F3 vs ds := by
  induction ds generalizing vs with
  | nil => cases h; exact .nil
  | cons d ds ih =>
    cases h with
    | cons h t =>
      simp only [List.map_cons, pureDs, Bool.and_eq_true] at z
      exact .cons (h.pure hs z.1) (ih t z.2)
end
theorem cell_kind {K : PySem.W.Frag} {F H : Hp} {a : Addr} {c : Cell} (h : CellAt K F H a c) : ∃ o, H a = Option.some o ∧ ((∃ vs, o = HO.lst vs) ∨ ∃ es, o = HO.dK es) := by
  cases c with
  | lst xs => obtain ⟨vs, h, _⟩ := h; exact ⟨_, h, .inl ⟨_, rfl⟩⟩
  | dct kvs => obtain ⟨vs, h, _⟩ := h; exact ⟨_, h, .inr ⟨_, rfl⟩⟩
section
variable {X : Cx} {E : XK}
open Classical in
theorem Den.loan {t : TE} {m : EM} (is : List Nat) (h : Den X E t m) : Den X E t (eLoan is m) := by
  intro B F H σ Γ Q r g
  let L : Addr → Prop := fun b => ∃ i, i ∈ is ∧ Owns σ Γ i b
  let F' : Hp := fun b => if L b then H b else F b
  have hL : ∀ b, L b → F b = none ∧ B.U b = none ∧ ∃ o, H b = some o ∧ ((∃ vs, o = .lst vs) ∨ ∃ es, o = .dK es) := by
    rintro b ⟨i, _, ho⟩
    obtain ⟨c, _, q⟩ := ho.cell r
    exact ⟨(r.ofr i b ho).1, (r.ofr i b ho).2, cell_kind q⟩
  have e1 : ∀ {b}, L b → F' b = H b := fun z => if_pos z
  have e2 : ∀ {b}, ¬ L b → F' b = F b := fun z => if_neg z
  have sFF : Sub F F' := fun b o e => by
    by_cases q : L b
    · rw [(hL b q).1] at e; cases e
    · rw [e2 q]; exact e
  have sFH : Sub F' H := fun b o e => by
    by_cases q : L b
    · rw [e1 q] at e; exact e
    · rw [e2 q] at e; exact r.fh b o e
  have r0 : Rel ⟨H, F', B.π, B.n⟩ X.K F' H σ (loanG is 0 Γ) := by
    refine ⟨r.lσ, by rw [loanG_len]; exact r.lΓ, Sub.refl _, sFH, Sub.refl _, fun a o e => .inl (by show F' a ≠ none; rw [e]; simp), ?_, ?_, ?_⟩
    · intro i sv e
      rw [loanG_at] at e
      cases hg : Γ[i]? with
      | none => rw [hg] at e; cases e
      | some s0 =>
        rw [hg] at e
        simp only [Option.map_some, Option.some.injEq, Nat.zero_add] at e
        have q := r.sl i s0 hg
        subst e
        have own : ∀ (c : Cell) (a : Addr), s0.owned = true → σ.getD i none = some (.ref a) → CellAt X.K F H a c → SlotOk X.K F' H (B.π.getD i none) (σ.getD i none) (if decide (i ∈ is) = true then .d c.toD else .no) := by
          intro c a hs ha k
          by_cases hi : i ∈ is
          · rw [if_pos (decide_eq_true hi)]
            have la : L a := ⟨i, hi, ⟨s0, hg, hs⟩, getD_some ha⟩
            refine ⟨.ref a, ha, ?_⟩
            cases c with
            | lst xs => obtain ⟨vs, hv, p⟩ := k; exact .lst (SqL.of (by rw [e1 la]; exact hv)) (p.mono sFF)
            | dct kvs => obtain ⟨vs, hv, p⟩ := k; exact .dct (by rw [e1 la]; exact hv) (p.mono sFF) rfl
          · rw [if_neg (by simpa using hi)]; trivial
        cases s0 with
        | no => trivial
        | d d => obtain ⟨x, ex, p⟩ := q; exact ⟨x, ex, p.mono sFF⟩
        | ow c => obtain ⟨a, ex, p⟩ := q; exact own c a rfl ex p
        | io c => obtain ⟨a, _, ex, p⟩ := q; exact own c a rfl ex p
    · rintro i j a ⟨⟨sv, e, o⟩, _⟩
      rw [loanG_at] at e
      cases hg : Γ[i]? with
      | none => rw [hg] at e; cases e
      | some s0 =>
        rw [hg] at e
        simp only [Option.map_some, Option.some.injEq] at e
        rw [← e, loanS_own] at o; cases o
    · rintro i a ⟨⟨sv, e, o⟩, _⟩
      rw [loanG_at] at e
      cases hg : Γ[i]? with
      | none => rw [hg] at e; cases e
      | some s0 =>
        rw [hg] at e
        simp only [Option.map_some, Option.some.injEq] at e
        rw [← e, loanS_own] at o; cases o
  refine h _ F' H σ (loanG is 0 Γ) Q r0 ?_
  unfold eLoan at g
  cases hm : m (loanG is 0 Γ) with
  | no => rw [hm] at g; exact g.elim
  | er x g' => rw [hm] at g; exact g.elim
  | ok p =>
    rw [hm] at g
    show ∀ v F' H', _
    intro v F2 H2 r2 s2 rr
    have g : ((if pureR p.1 = true then Res.ok (p.1, Γ) else .no) : Res (R × Gm)).good (fun p => ∀ v F' H', Rel B X.K F' H' σ p.2 → Sub F F' → RR B X.K F' H' σ p.2 v p.1 → Q v H') (XPx X B F E) := g
    by_cases hp : pureR p.1 = true
    · rw [if_pos hp] at g
      let F3 : Hp := fun b => if L b then none else F2 b
      have f1 : ∀ {b}, L b → F3 b = none := fun z => if_pos z
      have f2 : ∀ {b}, ¬ L b → F3 b = F2 b := fun z => if_neg z
      have sF3 : Sub F F3 := fun b o e => by
        by_cases q : L b
        · rw [(hL b q).1] at e; cases e
        · rw [f2 q]; exact s2 b o (sFF b o e)
      have s32 : Sub F3 F2 := fun b o e => by
        by_cases q : L b
        · rw [f1 q] at e; cases e
        · rw [f2 q] at e; exact e
      have hH : Sub H H2 := r2.uh
      have hs : ∀ a u, Rd F2 a u → (∃ xs, u = .tup xs) → Rd F3 a u := by
        rintro a u hr ⟨xs, rfl⟩
        have nl : ¬ L a := by
          intro z
          obtain ⟨_, _, o, ho, hk⟩ := hL a z
          have z2 := s2 a o (by rw [e1 z]; exact ho)
          rcases hr with hr | ⟨ob, hr⟩ <;> rw [z2] at hr <;> cases hr <;> rcases hk with ⟨_, hk⟩ | ⟨_, hk⟩ <;> cases hk
        rcases hr with hr | ⟨ob, hr⟩
        · exact .inl (by rw [f2 nl]; exact hr)
        · exact .inr ⟨ob, by rw [f2 nl]; exact hr⟩
      have r3 : Rel B X.K F3 H2 σ Γ := by
        refine ⟨r.lσ, r.lΓ, r.uh.trans hH, s32.trans r2.fh, r.f0.trans sF3, ?_, ?_, r.inj, ?_⟩
        · intro a o e
          have nl : ¬ L a := fun z => by rw [f1 z] at e; cases e
          rcases r2.nw a o (s32 a o e) with q | q
          · have q : F' a ≠ none := q
            rw [e2 nl] at q
            cases hf : F a with
            | none => exact absurd hf q
            | some u => exact r.nw a u hf
          · exact .inr (r.uh.ne q)
        · intro i sv e
          refine (r.sl i sv e).mono sF3 fun hs' a ea => ?_
          obtain ⟨o, ho⟩ := (show Owns σ Γ i a from ⟨⟨sv, e, hs'⟩, getD_some ea⟩).some r
          rw [ho, hH a o ho]
        · intro i a ho
          refine ⟨?_, (r.ofr i a ho).2⟩
          by_cases q : L a
          · exact f1 q
          · rw [f2 q]
            cases hf : F2 a with
            | none => rfl
            | some u =>
              obtain ⟨o, hho⟩ := ho.some r
              rcases r2.nw a u hf with z | z
              · have z : F' a ≠ none := z
                rw [e2 q, (r.ofr i a ho).1] at z; exact absurd rfl z
              · have z : H a = none := z
                rw [hho] at z; cases z
      refine g v F3 H2 r3 sF3 ?_
      cases hq : p.1 with
      | fro d =>
        rw [hq] at rr hp
        exact Rp.pure hs rr hp
      | own c =>
        rw [hq] at rr hp
        obtain ⟨a, ea, fa, ua, na, k⟩ := rr
        have ua : H a = none := ua
        have nl : ¬ L a := fun z => by
          obtain ⟨_, _, o, ho, _⟩ := hL a z
          rw [ho] at ua; cases ua
        refine ⟨a, ea, by rw [f2 nl]; exact fa, r.uh.ne ua, fun i ho => ?_, ?_⟩
        · obtain ⟨o, hho⟩ := ho.some r
          rw [hho] at ua; cases ua
        · cases c with
          | lst xs => obtain ⟨vs, hv, q⟩ := k; exact ⟨vs, hv, q.pure hs hp⟩
          | dct kvs => obtain ⟨vs, hv, q⟩ := k; exact ⟨vs, hv, q.pure hs hp⟩
    · rw [if_neg hp] at g; exact g.elim
theorem de_loan (is : List Nat) {e : Expr} {m : EM} (h : DE X E e m) : DE X E e (eLoan is m) := by
  obtain ⟨t, p, q⟩ := h
  exact ⟨t, p, Den.loan is q⟩
end
/-! ## evaluation -/
@[simp] theorem eLoan_eq (is : List Nat) (m : EM) (Γ : Gm) : eLoan is m Γ = loanK Γ (m (loanG is 0 Γ)) := rfl
@[simp] theorem loanG_nil (is : List Nat) (k : Nat) : loanG is k [] = [] := rfl
@[simp] theorem loanG_cons (is : List Nat) (k : Nat) (s : SV) (Γ : Gm) : loanG is k (s :: Γ) = loanS (decide (k ∈ is)) s :: loanG is (k + 1) Γ := rfl
@[simp] theorem loanS_d (b : Bool) (d : D) : loanS b (.d d) = .d d := rfl
@[simp] theorem loanS_no (b : Bool) : loanS b .no = .no := rfl
@[simp] theorem loanS_ow1 (c : Cell) : loanS true (.ow c) = .d c.toD := rfl
@[simp] theorem loanS_ow0 (c : Cell) : loanS false (.ow c) = .no := rfl
@[simp] theorem loanS_io1 (c : Cell) : loanS true (.io c) = .d c.toD := rfl
@[simp] theorem loanS_io0 (c : Cell) : loanS false (.io c) = .no := rfl
theorem loanK_ok (Γ : Gm) (p : R × Gm) (h : pureR p.1 = true) : loanK Γ (.ok p) = .ok (p.1, Γ) := if_pos h
def loanC (Γ : Gm) (r : R) : Bool → Res (R × Gm)
  | true => .ok (r, Γ)
  | false => .no
@[simp] theorem loanC_t (Γ : Gm) (r : R) : loanC Γ r true = .ok (r, Γ) := rfl
@[simp] theorem loanK_eq (Γ : Gm) (p : R × Gm) : loanK Γ (.ok p) = loanC Γ p.1 (pureR p.1) := by
  show (if pureR p.1 = true then Res.ok (p.1, Γ) else .no) = _
  cases pureR p.1 <;> rfl
@[simp] theorem pureR_f (d : D) : pureR (.fro d) = pureD d := rfl
@[simp] theorem pureR_l (d : List D) : pureR (.own (.lst d)) = pureDs d := rfl
@[simp] theorem pureD_none : pureD .none = true := rfl
@[simp] theorem pureD_bool (b : Bool) : pureD (.bool b) = true := rfl
@[simp] theorem pureD_int (b : Int) : pureD (.int b) = true := rfl
@[simp] theorem pureD_str (b : Str) : pureD (.str b) = true := rfl
@[simp] theorem pureD_tuple (b : List D) : pureD (.tuple b) = pureDs b := rfl
@[simp] theorem pureDs_nil : pureDs [] = true := rfl
@[simp] theorem pureDs_cons (d : D) (b : List D) : pureDs (d :: b) = (pureD d && pureDs b) := rfl
theorem pureDs_iff {xs : List D} : pureDs xs = true ↔ ∀ x ∈ xs, pureD x = true := by
  induction xs with
  | nil => simp
  | cons x xs ih => rw [pureDs_cons, Bool.and_eq_true, ih]; simp
end Fw

namespace Fw
open PySem L2 PySem.Spec PyProof.Rows
/-! ## list(x), tuple(x), x a name that stays as it is -/
def lstN (i : Nat) (Γ : Gm) : Option D → Res (R × Gm)
  | some (.list xs) => .ok (.own (.lst xs), Γ)
  | some (.tuple xs) => .ok (.own (.lst xs), Γ)
  | _ => .no
def eLstN (i : Nat) : EM := fun Γ => lstN i Γ (pkS Γ[i]?)
def tupN (i : Nat) (Γ : Gm) : Option D → Res (R × Gm)
  | some (.list xs) => .ok (.fro (.tuple xs), Γ)
  | some (.tuple xs) => .ok (.fro (.tuple xs), Γ)
  | _ => .no
def eTupN (i : Nat) : EM := fun Γ => tupN i Γ (pkS Γ[i]?)
section
variable {X : Cx} {E : XK}
/-- a name of a list or a tuple: what it holds -/
theorem Rel.seqAt {B : Bd} {K : PySem.W.Frag} {F H : Hp} {σ : L2.St} {Γ : Gm} (r : Rel B K F H σ Γ) {i : Nat} {d : D} (h : pkS Γ[i]? = some d) :
    ∃ v, σ[i]? = some (some v) ∧ (∀ xs, d = .list xs → ∃ a vs, v = .ref a ∧ SqL K H a vs ∧ RpAll K F vs xs) ∧ (∀ xs, d = .tuple xs → ∃ a vs, v = .ref a ∧ SqT K H a vs ∧ RpAll K F vs xs ∧ Rp K F v (.tuple xs)) := by
  obtain ⟨v, e1, h2⟩ := r.pkSlot h
  refine ⟨v, e1, ?_⟩
  rcases h2 with ⟨_, rp⟩ | ⟨a, c, rfl, _, hc, k, _⟩
  · constructor
    · rintro xs rfl
      obtain ⟨a, vs, e, q, p⟩ := rp.lstv
      exact ⟨a, vs, e, r.fh.l q, p⟩
    · rintro xs rfl
      obtain ⟨a, vs, e, q, p⟩ := rp.tupv
      exact ⟨a, vs, e, r.fh.t q, p, rp⟩
  · constructor
    · rintro xs rfl
      cases c with
      | lst ys =>
        obtain ⟨vs, hv, p⟩ := k
        have e : ys = xs := by simpa [Cell.toD] using hc
        subst e
        exact ⟨a, vs, rfl, SqL.of hv, p⟩
      | dct ys => simp [Cell.toD] at hc
    · rintro xs rfl
      cases c with
      | lst ys => simp [Cell.toD] at hc
      | dct ys => simp [Cell.toD] at hc
theorem de_lstN (i : Nat) {x : Str} {p pos pos2 : Pos} (hm : X.mg "list" = none) (hN : X.N[i]? = some x := by rfl) (hv : Vis X.env.scope x := by first | exact Or.inl rfl | exact Or.inr (Or.inl rfl) | exact Or.inr (Or.inr rfl)) (hd : (x == ("__debug__" : Str)) = false := by decide)
    (hcd : (x == ("__classdict__" : Str)) = false := by decide) (hg : Gl X "list" := by rfl) (he : starEach [.Name x pos2] X.env = [(false, eval (.Name x pos2) X.env)] := by rfl)
    (hpl : (backTo pos (starEach [] X.env)).any (·.1) = false := by rfl) : DE X E (.Call (.Name "list" p) [.Name x pos2] [] pos) (eLstN i) := by
  refine ⟨_, pe_callTy call_list_of hg hm bt_list (pa_cons (pe_var hN hv hd hcd) pa_nil he) (by decide) (by decide) he hpl, ?_⟩
  intro B F H σ Γ Q r g
  unfold eLstN at g
  cases hp : pkS Γ[i]? with
  | none => rw [hp] at g; exact g.elim
  | some d =>
    rw [hp] at g
    obtain ⟨v, e1, h1, h2⟩ := r.seqAt hp
    have fin : ∀ (a : Addr) (vs : List V) (xs : List D), RpAll X.K F vs xs → (∀ v F' H', Rel B X.K F' H' σ Γ → Sub F F' → RR B X.K F' H' σ Γ v (.own (.lst xs)) → Q v H') → ∀ l, H l = none → Q (.ref l) (upd H l (.lst vs)) := by
      intro a vs xs p g l hl
      have gr := Grow.new (o := .lst vs) r.fh hl
      exact g _ F _ (r.grow gr) (Sub.refl _) (NR.rr r (q := .own (.lst xs)) ⟨l, rfl, hl, r.fh.ne hl, vs, upd_same, p⟩)
    cases d with
    | list xs =>
      obtain ⟨a, vs, rfl, q, p⟩ := h1 xs rfl
      exact ⟨_, e1, a, vs, rfl, .inl q, fin a vs xs p g⟩
    | tuple xs =>
      obtain ⟨a, vs, rfl, q, p, _⟩ := h2 xs rfl
      exact ⟨_, e1, a, vs, rfl, .inr q, fin a vs xs p g⟩
    | _ => exact g.elim
theorem de_tupN (i : Nat) {x : Str} {p pos pos2 : Pos} (hm : X.mg "tuple" = none) (hN : X.N[i]? = some x := by rfl) (hv : Vis X.env.scope x := by first | exact Or.inl rfl | exact Or.inr (Or.inl rfl) | exact Or.inr (Or.inr rfl)) (hd : (x == ("__debug__" : Str)) = false := by decide)
    (hcd : (x == ("__classdict__" : Str)) = false := by decide) (hg : Gl X "tuple" := by rfl) (he : starEach [.Name x pos2] X.env = [(false, eval (.Name x pos2) X.env)] := by rfl)
    (hpl : (backTo pos (starEach [] X.env)).any (·.1) = false := by rfl) : DE X E (.Call (.Name "tuple" p) [.Name x pos2] [] pos) (eTupN i) := by
  refine ⟨_, pe_callTy call_tuple_of hg hm bt_tuple (pa_cons (pe_var hN hv hd hcd) pa_nil he) (by decide) (by decide) he hpl, ?_⟩
  intro B F H σ Γ Q r g
  unfold eTupN at g
  cases hp : pkS Γ[i]? with
  | none => rw [hp] at g; exact g.elim
  | some d =>
    rw [hp] at g
    obtain ⟨v, e1, h1, h2⟩ := r.seqAt hp
    cases d with
    | list xs =>
      obtain ⟨a, vs, rfl, q, p⟩ := h1 xs rfl
      refine ⟨_, e1, a, vs, rfl, .inl ⟨q, fun l hl => ?_⟩⟩
      have gr := Grow.laid (o := .tup vs) r.fh hl
      exact g _ _ _ (r.grow gr) gr.ff (.tup (SqT.of upd_same) (p.mono gr.ff))
    | tuple xs =>
      obtain ⟨a, vs, rfl, q, p, rp⟩ := h2 xs rfl
      exact ⟨_, e1, a, vs, rfl, .inr ⟨q, g _ F H r (Sub.refl _) rp⟩⟩
    | _ => exact g.elim
end
end Fw

namespace Fw
open PySem L2 PySem.Spec PyProof.Rows

/-! ## evaluation: from the left, nothing under a binder ahead of its value -/
def cnd {α : Type} (b : Bool) (x y : Unit → α) : α := if b = true then x () else y ()
@[simp] theorem cnd_true {α : Type} (x y : Unit → α) : cnd true x y = x () := rfl
@[simp] theorem cnd_false {α : Type} (x y : Unit → α) : cnd false x y = y () := rfl
def gAt : Gm → Nat → Option SV
  | [], _ => none
  | x :: _, 0 => some x
  | _ :: xs, n + 1 => gAt xs n
@[simp] theorem gAt_zero (x : SV) (xs : Gm) : gAt (x :: xs) 0 = some x := rfl
@[simp] theorem gAt_succ (x : SV) (xs : Gm) (n : Nat) : gAt (x :: xs) (n + 1) = gAt xs n := rfl
theorem gAt_eq : ∀ (Γ : Gm) (i : Nat), Γ[i]? = gAt Γ i
  | [], i => by simp [gAt]
  | x :: xs, 0 => rfl
  | x :: xs, i + 1 => by rw [List.getElem?_cons_succ]; exact gAt_eq xs i
def seqK (b : SM) : Out → Res Out
  | .nx g => b g
  | o => .ok o
@[simp] theorem seqK_nx (b : SM) (g : Gm) : seqK b (.nx g) = b g := rfl
@[simp] theorem seqK_rt (b : SM) (r : R) (g : Gm) : seqK b (.rt r g) = .ok (.rt r g) := rfl
@[simp] theorem seqK_bk (b : SM) (g : Gm) : seqK b (.bk g) = .ok (.bk g) := rfl
@[simp] theorem seqK_ct (b : SM) (g : Gm) : seqK b (.ct g) = .ok (.ct g) := rfl
def endK (n : Nat) : Out → Res (R × List SV)
  | .rt r g => .ok (r, outG n g)
  | .nx g => .ok (.fro .none, outG n g)
  | _ => .no
@[simp] theorem endK_rt (n : Nat) (r : R) (g : Gm) : endK n (.rt r g) = .ok (r, outG n g) := rfl
@[simp] theorem endK_nx (n : Nat) (g : Gm) : endK n (.nx g) = .ok (.fro .none, outG n g) := rfl
def slotV (Γ : Gm) (i : Nat) : Option SV → Res (R × Gm)
  | some (.d d) => .ok (.fro d, Γ)
  | some (.ow c) => .ok (.fro c.toD, Γ.set i (.d c.toD))
  | _ => .no
@[simp] theorem slotV_d (Γ : Gm) (i : Nat) (d : D) : slotV Γ i (some (.d d)) = .ok (.fro d, Γ) := rfl
@[simp] theorem slotV_ow (Γ : Gm) (i : Nat) (c : Cell) : slotV Γ i (some (.ow c)) = .ok (.fro c.toD, Γ.set i (.d c.toD)) := rfl
def slotM (Γ : Gm) (i : Nat) : Option SV → Res (R × Gm)
  | some (.d d) => .ok (.fro d, Γ)
  | some (.ow c) => .ok (.own c, Γ.set i .no)
  | _ => .no
@[simp] theorem slotM_d (Γ : Gm) (i : Nat) (d : D) : slotM Γ i (some (.d d)) = .ok (.fro d, Γ) := rfl
@[simp] theorem slotM_ow (Γ : Gm) (i : Nat) (c : Cell) : slotM Γ i (some (.ow c)) = .ok (.own c, Γ.set i .no) := rfl
def itemsK (g : Gm) : Option (List D) → Res (List D × Gm)
  | some ds => .ok (ds, g)
  | none => .no
@[simp] theorem itemsK_some (g : Gm) (ds : List D) : itemsK g (some ds) = .ok (ds, g) := rfl
section
variable {Γ : Gm} {d : D} {i : Nat}
@[simp] theorem dat_fro (d : D) : (R.fro d).dat = d := rfl
@[simp] theorem dat_lst (xs : List D) : (R.own (.lst xs)).dat = .list xs := rfl
@[simp] theorem sv_fro (d : D) : (R.fro d).sv = .d d := rfl
@[simp] theorem sv_own (c : Cell) : (R.own c).sv = .ow c := rfl
@[simp] theorem toD_lst (xs : List D) : (Cell.lst xs).toD = .list xs := rfl
@[simp] theorem eC_eq (d : D) (Γ : Gm) : eC d Γ = .ok (.fro d, Γ) := rfl
@[simp] theorem eVar_eq (i : Nat) (Γ : Gm) : eVar i Γ = slotV Γ i (gAt Γ i) := by
  rw [← gAt_eq]; rfl
@[simp] theorem eMove_eq (i : Nat) (Γ : Gm) : eMove i Γ = slotM Γ i (gAt Γ i) := by
  rw [← gAt_eq]; rfl
@[simp] theorem opd_eq {β : Type} (m : EM) (k : D → Gm → Res β) (Γ : Gm) : opd m k Γ = (m Γ).bind fun p => k p.1.dat p.2 := rfl
@[simp] theorem aNil_eq (Γ : Gm) : aNil Γ = .ok ([], Γ) := rfl
@[simp] theorem aCons_eq (m : EM) (ms : AM) (Γ : Gm) : aCons m ms Γ = (m Γ).bind fun p => (ms p.2).bind fun q => .ok (p.1.dat :: q.1, q.2) := rfl
@[simp] theorem eTup_eq (ms : AM) (Γ : Gm) : eTup ms Γ = (ms Γ).bind fun p => .ok (.fro (.tuple p.1), p.2) := rfl
@[simp] theorem eLst_eq (ms : AM) (Γ : Gm) : eLst ms Γ = (ms Γ).bind fun p => .ok (.own (.lst p.1), p.2) := rfl
@[simp] theorem eBin_eq (f : D → D → Res R) (ma mb : EM) (Γ : Gm) : eBin f ma mb Γ = (ma Γ).bind fun p => (mb p.2).bind fun q => lift (f p.1.dat q.1.dat) q.2 := rfl
@[simp] theorem eUn_eq (f : D → Res R) (ma : EM) (Γ : Gm) : eUn f ma Γ = (ma Γ).bind fun p => lift (f p.1.dat) p.2 := rfl
@[simp] theorem eCall_eq (f : List D → Res R) (ms : AM) (Γ : Gm) : eCall f ms Γ = (ms Γ).bind fun p => lift (f p.1) p.2 := rfl
@[simp] theorem one_eq (f : D → Res R) (a : D) : one f [a] = f a := rfl
@[simp] theorem two_eq (f : D → D → Res R) (a b : D) : two f [a, b] = f a b := rfl
@[simp] theorem eFn_eq (m : Fn) (ms : AM) (Γ : Gm) : eFn m ms Γ = (ms Γ).bind fun p => callRes (m (p.1.map .d)) p.2 := rfl
def strK (ms : AM) (f : List D → Res R) (Γ : Gm) : D → Res (R × Gm)
  | .str z => (ms Γ).bind fun p => lift (f (.str z :: p.1)) p.2
  | _ => .no
@[simp] theorem strK_str (ms : AM) (f : List D → Res R) (Γ : Gm) (z : Str) : strK ms f Γ (.str z) = (ms Γ).bind fun p => lift (f (.str z :: p.1)) p.2 := rfl
@[simp] theorem eMethS_eq (f : List D → Res R) (m : EM) (ms : AM) (Γ : Gm) : eMethS f m ms Γ = (m Γ).bind fun p => strK ms f p.2 p.1.dat := by
  rfl
@[simp] theorem tVal_eq (m : EM) (Γ : Gm) : tVal m Γ = (m Γ).bind fun p => truOf p.1.dat p.2 := rfl
@[simp] theorem tAndM_eq (ta tb : TM) (Γ : Gm) : tAndM ta tb Γ = (ta Γ).bind fun p => cnd p.1 (fun _ => tb p.2) (fun _ => .ok (false, p.2)) := rfl
@[simp] theorem tOrM_eq (ta tb : TM) (Γ : Gm) : tOrM ta tb Γ = (ta Γ).bind fun p => cnd p.1 (fun _ => .ok (true, p.2)) (fun _ => tb p.2) := rfl
@[simp] theorem tNotM_eq (ta : TM) (Γ : Gm) : tNotM ta Γ = (ta Γ).bind fun p => .ok (!p.1, p.2) := rfl
@[simp] theorem tYesM_eq (Γ : Gm) : tYesM Γ = .ok (true, Γ) := rfl
@[simp] theorem truOf_bool (b : Bool) (Γ : Gm) : truOf (.bool b) Γ = .ok (b, Γ) := rfl
@[simp] theorem truOf_int (b : Int) (Γ : Gm) : truOf (.int b) Γ = .ok (b != 0, Γ) := rfl
@[simp] theorem truOf_none (Γ : Gm) : truOf .none Γ = .ok (false, Γ) := rfl
@[simp] theorem truOf_list (xs : List D) (Γ : Gm) : truOf (.list xs) Γ = .ok (!xs.isEmpty, Γ) := rfl
@[simp] theorem truOf_tuple (xs : List D) (Γ : Gm) : truOf (.tuple xs) Γ = .ok (!xs.isEmpty, Γ) := rfl
@[simp] theorem eIf_eq (t : TM) (ma mb : EM) (Γ : Gm) : eIf t ma mb Γ = (t Γ).bind fun p => cnd p.1 (fun _ => ma p.2) (fun _ => mb p.2) := rfl
@[simp] theorem eAnd_eq (ma mb : EM) (Γ : Gm) : eAnd ma mb Γ = (ma Γ).bind fun q => (truOf q.1.dat q.2).bind fun p => cnd p.1 (fun _ => mb p.2) (fun _ => .ok (.fro q.1.dat, p.2)) := rfl
@[simp] theorem eOr_eq (ma mb : EM) (Γ : Gm) : eOr ma mb Γ = (ma Γ).bind fun q => (truOf q.1.dat q.2).bind fun p => cnd p.1 (fun _ => .ok (.fro q.1.dat, p.2)) (fun _ => mb p.2) := rfl
@[simp] theorem eNot_eq (ma : EM) (Γ : Gm) : eNot ma Γ = (ma Γ).bind fun q => (truOf q.1.dat q.2).bind fun p => .ok (.fro (.bool !p.1), p.2) := rfl
@[simp] theorem sRet_eq (m : EM) (Γ : Gm) : sRet m Γ = (m Γ).bind fun p => .ok (.rt p.1 p.2) := rfl
@[simp] theorem sRetN_eq (Γ : Gm) : sRetN Γ = .ok (.rt (.fro .none) Γ) := rfl
@[simp] theorem sSet_eq (i : Nat) (m : EM) (Γ : Gm) : sSet i m Γ = (m Γ).bind fun p => .ok (.nx (p.2.set i p.1.sv)) := rfl
@[simp] theorem sDrop_eq (m : EM) (Γ : Gm) : sDrop m Γ = (m Γ).bind fun p => .ok (.nx p.2) := rfl
@[simp] theorem sIf_eq (t : TM) (a b : SM) (Γ : Gm) : sIf t a b Γ = (t Γ).bind fun p => cnd p.1 (fun _ => a p.2) (fun _ => b p.2) := rfl
@[simp] theorem sNx_eq (Γ : Gm) : sNx Γ = .ok (.nx Γ) := rfl
@[simp] theorem sSeq_eq (a b : SM) (Γ : Gm) : sSeq a b Γ = (a Γ).bind (seqK b) := by
  rfl
@[simp] theorem runFn_eq (n : Nat) (b : SM) (Γ : Gm) : runFn n b Γ = (b (Γ ++ List.replicate n .no)).bind (endK Γ.length) := by
  rfl
@[simp] theorem pNone_eq (Γ : Gm) : pNone Γ = .ok (none, Γ) := rfl
@[simp] theorem wipeG_nil (Γ : Gm) : wipeG Γ [] = Γ := rfl
@[simp] theorem wipeG_cons (Γ : Gm) (v : Nat) (vs : List Nat) : wipeG Γ (v :: vs) = (wipeG Γ vs).set v .no := rfl
def backS (v : Nat) (g : Gm) : Option SV → Gm
  | some (.d d) => g.set v (.d d)
  | _ => g
@[simp] theorem backS_d (v : Nat) (g : Gm) (d : D) : backS v g (some (.d d)) = g.set v (.d d) := rfl
@[simp] theorem backS_no (v : Nat) (g : Gm) : backS v g (some .no) = g := rfl
@[simp] theorem backS_ow (v : Nat) (g : Gm) (c : Cell) : backS v g (some (.ow c)) = g := rfl
@[simp] theorem backS_io (v : Nat) (g : Gm) (c : Cell) : backS v g (some (.io c)) = g := rfl
@[simp] theorem backG_nil (Γ0 Γ : Gm) : backG Γ0 Γ [] = Γ := rfl
@[simp] theorem backG_cons (Γ0 Γ : Gm) (v : Nat) (vs : List Nat) : backG Γ0 Γ (v :: vs) = backS v (backG Γ0 Γ vs) (gAt Γ0 v) := by
  rw [← gAt_eq]
  show (match Γ0[v]? with | some (.d d) => (backG Γ0 Γ vs).set v (.d d) | _ => backG Γ0 Γ vs) = _
  unfold backS
  split <;> rfl
def partK (g : Gm) : D → Res (Option Int × Gm)
  | .int i => .ok (some i, g)
  | _ => .no
@[simp] theorem partK_int (g : Gm) (i : Int) : partK g (.int i) = .ok (some i, g) := rfl
@[simp] theorem pSome_eq (m : EM) (Γ : Gm) : pSome m Γ = (m Γ).bind fun p => partK p.2 p.1.dat := by
  rfl
@[simp] theorem eSl_eq (m : EM) (pl ph : PM) (Γ : Gm) : eSl m pl ph Γ = (m Γ).bind fun p => (pl p.2).bind fun l => (ph l.2).bind fun h => lift (dSl p.1.dat l.1 h.1) h.2 := rfl
@[simp] theorem sUnp_eq (js : List Nat) (m : EM) (Γ : Gm) : sUnp js m Γ = (m Γ).bind fun p => (bTup js p.1.dat p.2).noEr.bind fun g => .ok (.nx g) := rfl
@[simp] theorem bTup_eq (js : List Nat) (ds : List D) (Γ : Gm) : bTup js (.tuple ds) Γ = bNames js ds Γ := rfl
@[simp] theorem bNames_nil (Γ : Gm) : bNames [] [] Γ = .ok Γ := rfl
@[simp] theorem bNames_cons (j : Nat) (js : List Nat) (d : D) (ds : List D) (Γ : Gm) : bNames (j :: js) (d :: ds) Γ = bNames js ds (Γ.set j (.d d)) := rfl
@[simp] theorem bName_eq (j : Nat) (d : D) (Γ : Gm) : bName j d Γ = .ok (Γ.set j (.d d)) := rfl
@[simp] theorem iAny_eq (m : EM) (Γ : Gm) : iAny m Γ = (m Γ).bind fun p => itemsK p.2 (itemsD p.1.dat) := by
  rfl
@[simp] theorem items_list (xs : List D) : itemsD (.list xs) = some xs := rfl
@[simp] theorem items_tuple (xs : List D) : itemsD (.tuple xs) = some xs := rfl
@[simp] theorem items_str (z : Str) : itemsD (.str z) = some (strD z) := rfl
def mutK (f : List D → List D → Option (D × List D)) (i : Nat) (ms : AM) (Γ : Gm) : Option (List D) → Res (R × Gm)
  | none => .no
  | some _ => (ms Γ).bind fun p => match lstAt p.2 i with
    | none => .no
    | some xs => match f xs p.1 with
      | some q => .ok (.fro q.1, setLst p.2 i q.2)
      | none => .no
def mutK2 (f : List D → List D → Option (D × List D)) (i : Nat) (p : List D × Gm) : Option (List D) → Res (R × Gm)
  | none => .no
  | some xs => match f xs p.1 with
    | some q => .ok (.fro q.1, setLst p.2 i q.2)
    | none => .no
def mutK3 (i : Nat) (g : Gm) : Option (D × List D) → Res (R × Gm)
  | some q => .ok (.fro q.1, setLst g i q.2)
  | none => .no
@[simp] theorem eMut_eq (f : List D → List D → Option (D × List D)) (i : Nat) (ms : AM) (Γ : Gm) : eMut f i ms Γ = mutK f i ms Γ (lstAt Γ i) := by
  rfl
@[simp] theorem mutK_some (f : List D → List D → Option (D × List D)) (i : Nat) (ms : AM) (Γ : Gm) (xs : List D) : mutK f i ms Γ (some xs) = (ms Γ).bind fun p => mutK2 f i p (lstAt p.2 i) := by
  unfold mutK mutK2
  rfl
@[simp] theorem mutK2_some (f : List D → List D → Option (D × List D)) (i : Nat) (p : List D × Gm) (xs : List D) : mutK2 f i p (some xs) = mutK3 i p.2 (f xs p.1) := by
  unfold mutK2 mutK3
  rfl
@[simp] theorem mutK3_some (i : Nat) (g : Gm) (q : D × List D) : mutK3 i g (some q) = .ok (.fro q.1, setLst g i q.2) := rfl
def lstS : Option SV → Option (List D)
  | some (.ow (.lst xs)) => some xs
  | some (.io (.lst xs)) => some xs
  | _ => none
@[simp] theorem lstS_ow (xs : List D) : lstS (some (.ow (.lst xs))) = some xs := rfl
@[simp] theorem lstS_io (xs : List D) : lstS (some (.io (.lst xs))) = some xs := rfl
@[simp] theorem lstAt_eq (Γ : Gm) (i : Nat) : lstAt Γ i = lstS (gAt Γ i) := by rw [← gAt_eq]; rfl
def setS (Γ : Gm) (i : Nat) (xs : List D) : Option SV → Gm
  | some (.io _) => Γ.set i (.io (.lst xs))
  | _ => Γ.set i (.ow (.lst xs))
@[simp] theorem setS_ow (Γ : Gm) (i : Nat) (xs : List D) (c : Cell) : setS Γ i xs (some (.ow c)) = Γ.set i (.ow (.lst xs)) := rfl
@[simp] theorem setS_io (Γ : Gm) (i : Nat) (xs : List D) (c : Cell) : setS Γ i xs (some (.io c)) = Γ.set i (.io (.lst xs)) := rfl
@[simp] theorem setLst_eq (Γ : Gm) (i : Nat) (xs : List D) : setLst Γ i xs = setS Γ i xs (gAt Γ i) := by rw [← gAt_eq]; rfl
@[simp] theorem len_app (x y : Str) : (x ++ y).length = x.length + y.length := by
  show (x.cps ++ y.cps).size = _
  rw [Array.size_append]
  rfl
/-! operations -/
@[simp] theorem ll_1 : (Str.ofString "(").length = 1 := by decide
@[simp] theorem ll_2 : (Str.ofString ")").length = 1 := by decide
@[simp] theorem ll_3 : (Str.ofString ",").length = 1 := by decide
@[simp] theorem ll_4 : (Str.ofString "'").length = 1 := by decide
@[simp] theorem ll_5 : (Str.ofString " ").length = 1 := by decide
@[simp] theorem ll_6 : (Str.ofString "").length = 0 := by decide
@[simp] theorem add_ii (i j : Int) : dAdd (.int i) (.int j) = .ok (.fro (.int (i + j))) := rfl
@[simp] theorem add_ss {x y : Str} (h : x.length + y.length ≤ 16000000) : dAdd (.str x) (.str y) = .ok (.fro (.str (x ++ y))) := by simp [dAdd, h]
@[simp] theorem add_tt {x y : List D} (h : x.length + y.length ≤ 16000000) : dAdd (.tuple x) (.tuple y) = .ok (.fro (.tuple (x ++ y))) := by simp [dAdd, h]
@[simp] theorem add_ll {x y : List D} (h : x.length + y.length ≤ 16000000) : dAdd (.list x) (.list y) = .ok (.own (.lst (x ++ y))) := by simp [dAdd, h]
@[simp] theorem sub_ii (i j : Int) : dSub (.int i) (.int j) = .ok (.fro (.int (i - j))) := rfl
@[simp] theorem neg_i (i : Int) : dNeg (.int i) = .ok (.fro (.int (-i))) := rfl
theorem mul_ii {i j : Int} (h : (-(2 ^ 64) < i ∧ i < 2 ^ 64) ∨ (-(2 ^ 64) < j ∧ j < 2 ^ 64)) : dMul (.int i) (.int j) = .ok (.fro (.int (i * j))) := by simp only [dMul, if_pos h]; rfl
@[simp] theorem mul_ii1 {i j : Int} (h : -18446744073709551616 < i ∧ i < 18446744073709551616) : dMul (.int i) (.int j) = .ok (.fro (.int (i * j))) := mul_ii (.inl (by constructor <;> omega))
@[simp] theorem mul_ii2 {i j : Int} (h : -18446744073709551616 < j ∧ j < 18446744073709551616) : dMul (.int i) (.int j) = .ok (.fro (.int (i * j))) := mul_ii (.inr (by constructor <;> omega))
theorem log2_small {j : Int} (h : 0 < j) (h2 : j < 18446744073709551616) : j.natAbs.log2 < 9000 := by
  have : j.natAbs.log2 < 64 := (Nat.log2_lt (by omega)).mpr (by omega)
  omega
@[simp] theorem div_ii {i j : Int} (h : 0 < j ∧ j < 18446744073709551616) : dDiv (.int i) (.int j) = .ok (.fro (.int (i / j))) := by simp only [dDiv, if_pos (And.intro h.1 (log2_small h.1 h.2))]; rfl
@[simp] theorem mod_ii {i j : Int} (h : 0 < j) : dMod (.int i) (.int j) = .ok (.fro (.int (i % j))) := by simp only [dMod, if_pos h]; rfl
@[simp] theorem pow_ii {i j : Int} (h : 0 ≤ j ∧ j ≤ 1000000 ∧ i.natAbs < 18446744073709551616) : dPow (.int i) (.int j) = .ok (.fro (.int (i ^ j.toNat))) := by simp only [dPow, if_pos h]; rfl
@[simp] theorem shr_ii {i j : Int} (h : 0 ≤ j) : dShr (.int i) (.int j) = .ok (.fro (.int (i / 2 ^ j.toNat))) := by simp only [dShr, if_pos h]; rfl
@[simp] theorem lt_ii (i j : Int) : dLt (.int i) (.int j) = .ok (.fro (.bool (decide (i < j)))) := rfl
@[simp] theorem le_ii (i j : Int) : dLe (.int i) (.int j) = .ok (.fro (.bool (decide (i ≤ j)))) := rfl
@[simp] theorem gt_ii (i j : Int) : dGt (.int i) (.int j) = .ok (.fro (.bool (decide (j < i)))) := rfl
@[simp] theorem ge_ii (i j : Int) : dGe (.int i) (.int j) = .ok (.fro (.bool (decide (j ≤ i)))) := rfl
@[simp] theorem eq_ii (i j : Int) : dEq (.int i) (.int j) = .ok (.fro (.bool (decide (i = j)))) := rfl
@[simp] theorem eq_ss (i j : Str) : dEq (.str i) (.str j) = .ok (.fro (.bool (decide (i = j)))) := rfl
@[simp] theorem ne_ii (i j : Int) : dNe (.int i) (.int j) = .ok (.fro (.bool (!decide (i = j)))) := rfl
@[simp] theorem ne_ss (i j : Str) : dNe (.str i) (.str j) = .ok (.fro (.bool (!decide (i = j)))) := rfl
@[simp] theorem is_n (d : D) : dIs d .none = .ok (.fro (.bool (isNone d))) := rfl
@[simp] theorem isnot_n (d : D) : dIsNot d .none = .ok (.fro (.bool !(isNone d))) := rfl
@[simp] theorem isNone_none : isNone .none = true := rfl
@[simp] theorem isNone_str (x : Str) : isNone (.str x) = false := rfl
@[simp] theorem isNone_int (x : Int) : isNone (.int x) = false := rfl
@[simp] theorem isNone_tuple (x : List D) : isNone (.tuple x) = false := rfl
@[simp] theorem isNone_list (x : List D) : isNone (.list x) = false := rfl
theorem ixL {xs : List D} {i : Int} {d : D} (h : atI xs i = some d) : dIx (.list xs) (.int i) = .ok (.fro d) := by simp [dIx, h]
theorem ixT {xs : List D} {i : Int} {d : D} (h : atI xs i = some d) : dIx (.tuple xs) (.int i) = .ok (.fro d) := by simp [dIx, h]
theorem atI_in {α : Type} {xs : List α} {i : Int} (d : α) (h0 : 0 ≤ i) (h1 : i < xs.length) : atI xs i = some (xs.getD i.toNat d) := by
  have hn : i.toNat < xs.length := by omega
  have e : ((i.toNat : Nat) : Int) = i := Int.toNat_of_nonneg h0
  have q := atI_nat (j := i.toNat) (List.getElem?_eq_getElem hn)
  rw [e] at q
  rw [q, List.getD_eq_getElem?_getD, List.getElem?_eq_getElem hn]
  rfl
@[simp] theorem ix_l {xs : List D} {i : Int} (h : 0 ≤ i ∧ i < xs.length) : dIx (.list xs) (.int i) = .ok (.fro (xs.getD i.toNat .none)) := ixL (atI_in _ h.1 h.2)
@[simp] theorem ix_t {xs : List D} {i : Int} (h : 0 ≤ i ∧ i < xs.length) : dIx (.tuple xs) (.int i) = .ok (.fro (xs.getD i.toNat .none)) := ixT (atI_in _ h.1 h.2)
theorem getD_map {α β : Type} (f : α → β) (xs : List α) (n : Nat) (d : β) (e : α) (h : n < xs.length) : (xs.map f).getD n d = f (xs.getD n e) := by
  simp [List.getD_eq_getElem?_getD, List.getElem?_eq_getElem h]
@[simp 1100] theorem ix_li {xs : List Int} {i : Int} (h : 0 ≤ i ∧ i < xs.length) : dIx (.list (xs.map .int)) (.int i) = .ok (.fro (.int (xs.getD i.toNat 0))) := by
  rw [ix_l (by rw [List.length_map]; exact h), getD_map _ _ _ _ 0 (by omega)]
@[simp 1100] theorem ix_ls {xs : List Str} {i : Int} (h : 0 ≤ i ∧ i < xs.length) : dIx (.list (xs.map .str)) (.int i) = .ok (.fro (.str (xs.getD i.toNat ""))) := by
  rw [ix_l (by rw [List.length_map]; exact h)]
  exact congrArg (fun z => Res.ok (R.fro z)) (getD_map (PyData.str) xs _ .none "" (by omega))
@[simp] theorem len_l (xs : List D) : dLen (.list xs) = .ok (.fro (.int xs.length)) := rfl
@[simp] theorem len_t (xs : List D) : dLen (.tuple xs) = .ok (.fro (.int xs.length)) := rfl
@[simp] theorem len_s {z : Str} (h : z.length ≤ 16000000) : dLen (.str z) = .ok (.fro (.int z.length)) := by simp [dLen, h]
@[simp] theorem min_ii (i j : Int) : dMin (.int i) (.int j) = .ok (.fro (.int (min i j))) := by
  show Res.ok (R.fro (.int (if j < i then j else i))) = _
  rw [show (if j < i then j else i) = min i j by rw [Int.min_def]; split <;> split <;> omega]
@[simp] theorem max_ii (i j : Int) : dMax (.int i) (.int j) = .ok (.fro (.int (max i j))) := by
  show Res.ok (R.fro (.int (if j > i then j else i))) = _
  rw [show (if j > i then j else i) = max i j by rw [Int.max_def]; split <;> split <;> omega]
@[simp] theorem str_s (z : Str) : dStr (.str z) = .ok (.fro (.str z)) := rfl
@[simp] theorem str_i {i : Int} (h : i.natAbs.log2 < 1920) : dStr (.int i) = .ok (.fro (.str (toString i))) := by simp [dStr, h]
@[simp] theorem tup_l (xs : List D) : dTuple (.list xs) = .ok (.fro (.tuple xs)) := rfl
@[simp] theorem tup_t (xs : List D) : dTuple (.tuple xs) = .ok (.fro (.tuple xs)) := rfl
@[simp] theorem lst_l (xs : List D) : dList (.list xs) = .ok (.own (.lst xs)) := rfl
@[simp] theorem lst_t (xs : List D) : dList (.tuple xs) = .ok (.own (.lst xs)) := rfl
@[simp] theorem strsOf_map (ys : List Str) : strsOf (ys.map .str) = some ys := by
  induction ys with
  | nil => rfl
  | cons y ys ih => simp [strsOf, ih]
theorem join_l {z : Str} {xs : List D} {ys : List Str} (e : xs = ys.map .str) (h : (ys.map (·.length)).sum + ys.length * z.length ≤ 16000000) : dJoin (.str z) (.list xs) = .ok (.fro (.str (Txt.join z ys))) := by
  subst e
  simp only [dJoin, dJoinL, strsOf_map, if_pos h]
  rfl
theorem join_t {z : Str} {xs : List D} {ys : List Str} (e : xs = ys.map .str) (h : (ys.map (·.length)).sum + ys.length * z.length ≤ 16000000) : dJoin (.str z) (.tuple xs) = .ok (.fro (.str (Txt.join z ys))) := by
  subst e
  simp only [dJoin, dJoinL, strsOf_map, if_pos h]
  rfl
def jlen (z : Str) (ys : List Str) : Nat := (ys.map (·.length)).sum + ys.length * z.length
@[simp] theorem join_lf {α : Type} {z : Str} {vs : List α} {f : α → Str} (h : jlen z (vs.map f) ≤ 16000000) : dJoin (.str z) (.list (vs.map fun v => .str (f v))) = .ok (.fro (.str (Txt.join z (vs.map f)))) :=
  join_l (by rw [List.map_map]; rfl) h
@[simp] theorem join_tf {α : Type} {z : Str} {vs : List α} {f : α → Str} (h : jlen z (vs.map f) ≤ 16000000) : dJoin (.str z) (.tuple (vs.map fun v => .str (f v))) = .ok (.fro (.str (Txt.join z (vs.map f)))) :=
  join_t (by rw [List.map_map]; rfl) h
@[simp] theorem join_ls {z : Str} {ys : List Str} (h : jlen z ys ≤ 16000000) : dJoin (.str z) (.list (ys.map .str)) = .ok (.fro (.str (Txt.join z ys))) := join_l rfl h
@[simp] theorem join_ts {z : Str} {ys : List Str} (h : jlen z ys ≤ 16000000) : dJoin (.str z) (.tuple (ys.map .str)) = .ok (.fro (.str (Txt.join z ys))) := join_t rfl h
theorem repr_s {z : Str} (h : (reprText z).length ≤ 16000000) : dRepr (.str z) = .ok (.fro (.str (reprText z))) := by
  simp [dRepr, PyData.showable, PyData.hasDict, PyData.depth, PyData.shown, h]
@[simp] theorem isi_int_none  : dIsi "int" .none = .ok (.fro (.bool false)) := rfl
@[simp] theorem isi_int_bool (b : Bool) : dIsi "int" (.bool b) = .ok (.fro (.bool true)) := rfl
@[simp] theorem isi_int_int (b : Int) : dIsi "int" (.int b) = .ok (.fro (.bool true)) := rfl
@[simp] theorem isi_int_str (b : Str) : dIsi "int" (.str b) = .ok (.fro (.bool false)) := rfl
@[simp] theorem isi_int_list (b : List D) : dIsi "int" (.list b) = .ok (.fro (.bool false)) := rfl
@[simp] theorem isi_int_tuple (b : List D) : dIsi "int" (.tuple b) = .ok (.fro (.bool false)) := rfl
@[simp] theorem isi_int_dict (b : List (D × D)) : dIsi "int" (.dict b) = .ok (.fro (.bool false)) := rfl
@[simp] theorem isi_bool_none  : dIsi "bool" .none = .ok (.fro (.bool false)) := rfl
@[simp] theorem isi_bool_bool (b : Bool) : dIsi "bool" (.bool b) = .ok (.fro (.bool true)) := rfl
@[simp] theorem isi_bool_int (b : Int) : dIsi "bool" (.int b) = .ok (.fro (.bool false)) := rfl
@[simp] theorem isi_bool_str (b : Str) : dIsi "bool" (.str b) = .ok (.fro (.bool false)) := rfl
@[simp] theorem isi_bool_list (b : List D) : dIsi "bool" (.list b) = .ok (.fro (.bool false)) := rfl
@[simp] theorem isi_bool_tuple (b : List D) : dIsi "bool" (.tuple b) = .ok (.fro (.bool false)) := rfl
@[simp] theorem isi_bool_dict (b : List (D × D)) : dIsi "bool" (.dict b) = .ok (.fro (.bool false)) := rfl
@[simp] theorem isi_str_none  : dIsi "str" .none = .ok (.fro (.bool false)) := rfl
@[simp] theorem isi_str_bool (b : Bool) : dIsi "str" (.bool b) = .ok (.fro (.bool false)) := rfl
@[simp] theorem isi_str_int (b : Int) : dIsi "str" (.int b) = .ok (.fro (.bool false)) := rfl
@[simp] theorem isi_str_str (b : Str) : dIsi "str" (.str b) = .ok (.fro (.bool true)) := rfl
@[simp] theorem isi_str_list (b : List D) : dIsi "str" (.list b) = .ok (.fro (.bool false)) := rfl
@[simp] theorem isi_str_tuple (b : List D) : dIsi "str" (.tuple b) = .ok (.fro (.bool false)) := rfl
@[simp] theorem isi_str_dict (b : List (D × D)) : dIsi "str" (.dict b) = .ok (.fro (.bool false)) := rfl
@[simp] theorem isi_tuple_none  : dIsi "tuple" .none = .ok (.fro (.bool false)) := rfl
@[simp] theorem isi_tuple_bool (b : Bool) : dIsi "tuple" (.bool b) = .ok (.fro (.bool false)) := rfl
@[simp] theorem isi_tuple_int (b : Int) : dIsi "tuple" (.int b) = .ok (.fro (.bool false)) := rfl
@[simp] theorem isi_tuple_str (b : Str) : dIsi "tuple" (.str b) = .ok (.fro (.bool false)) := rfl
@[simp] theorem isi_tuple_list (b : List D) : dIsi "tuple" (.list b) = .ok (.fro (.bool false)) := rfl
@[simp] theorem isi_tuple_tuple (b : List D) : dIsi "tuple" (.tuple b) = .ok (.fro (.bool true)) := rfl
@[simp] theorem isi_tuple_dict (b : List (D × D)) : dIsi "tuple" (.dict b) = .ok (.fro (.bool false)) := rfl
@[simp] theorem isi_list_none  : dIsi "list" .none = .ok (.fro (.bool false)) := rfl
@[simp] theorem isi_list_bool (b : Bool) : dIsi "list" (.bool b) = .ok (.fro (.bool false)) := rfl
@[simp] theorem isi_list_int (b : Int) : dIsi "list" (.int b) = .ok (.fro (.bool false)) := rfl
@[simp] theorem isi_list_str (b : Str) : dIsi "list" (.str b) = .ok (.fro (.bool false)) := rfl
@[simp] theorem isi_list_list (b : List D) : dIsi "list" (.list b) = .ok (.fro (.bool true)) := rfl
@[simp] theorem isi_list_tuple (b : List D) : dIsi "list" (.tuple b) = .ok (.fro (.bool false)) := rfl
@[simp] theorem isi_list_dict (b : List (D × D)) : dIsi "list" (.dict b) = .ok (.fro (.bool false)) := rfl
@[simp] theorem isi_dict_none  : dIsi "dict" .none = .ok (.fro (.bool false)) := rfl
@[simp] theorem isi_dict_bool (b : Bool) : dIsi "dict" (.bool b) = .ok (.fro (.bool false)) := rfl
@[simp] theorem isi_dict_int (b : Int) : dIsi "dict" (.int b) = .ok (.fro (.bool false)) := rfl
@[simp] theorem isi_dict_str (b : Str) : dIsi "dict" (.str b) = .ok (.fro (.bool false)) := rfl
@[simp] theorem isi_dict_list (b : List D) : dIsi "dict" (.list b) = .ok (.fro (.bool false)) := rfl
@[simp] theorem isi_dict_tuple (b : List D) : dIsi "dict" (.tuple b) = .ok (.fro (.bool false)) := rfl
@[simp] theorem isi_dict_dict (b : List (D × D)) : dIsi "dict" (.dict b) = .ok (.fro (.bool true)) := rfl
end
/-- a comprehension whose element tells f of the item -/
theorem lcGo_map {α : Type} {g f : α → D} {b : BM} {tt : TM} {me : EM} {vs : List Nat} {Γ : Gm} : ∀ (xs : List α) (acc : List D),
    (∀ x ∈ xs, ∃ Γ1 Γ2 r, b (g x) Γ = .ok Γ1 ∧ tt Γ1 = .ok (true, Γ1) ∧ me Γ1 = .ok (r, Γ2) ∧ r.dat = f x ∧ wipeG Γ2 vs = Γ) → lcGo b tt me vs (xs.map g) Γ acc = .ok (acc ++ xs.map f, Γ)
  | [], acc, _ => by simp [lcGo]
  | x :: xs, acc, h => by
    obtain ⟨Γ1, Γ2, r, h1, h2, h3, h4, h5⟩ := h x (by simp)
    rw [List.map_cons]
    unfold lcGo
    simp only [h1, h2, h3, h4, h5, Res.noEr_ok, Res.bind_ok, if_true]
    rw [lcGo_map xs _ fun e he => h e (List.mem_cons_of_mem _ he)]
    simp
theorem eLc_map {α : Type} (xs : List α) (g f : α → D) {mi : IM} {b : BM} {tt : TM} {me : EM} {vs : List Nat} {Γ Γ1 : Gm} (hi : mi Γ = .ok (xs.map g, Γ1)) (hl : xs.length ≤ 16000000)
    (h : ∀ x ∈ xs, ∃ Γ2 Γ3 r, b (g x) (wipeG Γ1 vs) = .ok Γ2 ∧ tt Γ2 = .ok (true, Γ2) ∧ me Γ2 = .ok (r, Γ3) ∧ r.dat = f x ∧ wipeG Γ3 vs = wipeG Γ1 vs) :
    eLc mi b tt me vs Γ = .ok (.own (.lst (xs.map f)), backG Γ1 (wipeG Γ1 vs) vs) := by
  unfold eLc
  rw [hi]
  simp only [Res.bind_ok, List.length_map, if_pos (show xs.length ≤ lim from hl)]
  rw [lcGo_map xs [] h]
  simp
theorem iR1_eq {ms : AM} {Γ Γ1 : Gm} {n : Int} (h : ms Γ = .ok ([.int n], Γ1)) (h1 : n < 4611686018427387904 ∧ -4611686018427387904 ≤ n) : iR1 ms Γ = .ok ((List.range n.toNat).map (fun i => .int ((i : Nat) : Int)), Γ1) := by
  unfold iR1
  rw [h]
  simp only [Res.bind_ok]
  rw [if_pos ⟨by omega, by omega⟩]
  unfold rangeD
  simp
/-! loops -/
theorem forGo_inv {α : Type} {g : α → D} {b : BM} {body : SM} {tmp : List Nat} (I : Nat → Gm → Prop) {xs : List α} (h : ∀ i x Γ, xs[i]? = some x → I i Γ → ∃ Γ1 Γ2, b (g x) Γ = .ok Γ1 ∧ (body Γ1 = .ok (.nx Γ2) ∨ body Γ1 = .ok (.ct Γ2)) ∧ I (i + 1) (wipeG Γ2 tmp)) :
    ∀ (i : Nat) (Γ : Gm), i ≤ xs.length → I i Γ → ∃ Γ', sFor.forGo b body tmp ((xs.drop i).map g) Γ = .ok (.nx Γ') ∧ I xs.length Γ' := by
  intro i Γ hi hI
  induction hk : xs.length - i generalizing i Γ with
  | zero =>
    have e : i = xs.length := by omega
    subst e
    rw [List.drop_length]
    exact ⟨Γ, rfl, hI⟩
  | succ k ih =>
    have hlt : i < xs.length := by omega
    obtain ⟨Γ1, Γ2, h1, h2, h3⟩ := h i _ Γ (List.getElem?_eq_getElem hlt) hI
    obtain ⟨Γ', e, hJ⟩ := ih (i + 1) (wipeG Γ2 tmp) hlt h3 (by omega)
    refine ⟨Γ', ?_, hJ⟩
    rw [List.drop_eq_getElem_cons hlt, List.map_cons]
    unfold sFor.forGo
    rw [h1]
    simp only [Res.noEr_ok, Res.bind_ok]
    rcases h2 with h2 | h2 <;> rw [h2] <;> exact e
/-- a loop by its invariant -/
theorem sFor_inv {α : Type} (xs : List α) (g : α → D) (I : Nat → Gm → Prop) {mi : IM} {b : BM} {body : SM} {tmp : List Nat} {Γ Γ1 : Gm} (hi : mi Γ = .ok (xs.map g, Γ1)) (h0 : I 0 Γ1)
    (h : ∀ i x Γ, xs[i]? = some x → I i Γ → ∃ Γ1 Γ2, b (g x) Γ = .ok Γ1 ∧ (body Γ1 = .ok (.nx Γ2) ∨ body Γ1 = .ok (.ct Γ2)) ∧ I (i + 1) (wipeG Γ2 tmp)) : ∃ Γ', sFor mi b body tmp Γ = .ok (.nx Γ') ∧ I xs.length Γ' := by
  unfold sFor
  rw [hi]
  exact forGo_inv I h 0 Γ1 (Nat.zero_le _) h0

def Tells (x : Res (R × List SV)) (P : R → Prop) : Prop := ∃ r g, x = .ok (r, g) ∧ P r
@[simp] theorem tells_ok (r : R) (g : List SV) (P : R → Prop) : Tells (.ok (r, g)) P = P r := by
  refine propext ⟨?_, fun h => ⟨r, g, rfl, h⟩⟩
  rintro ⟨r', g', e, h⟩
  cases e
  exact h
theorem Tells.call {x : Res (R × List SV)} {P : R → Prop} (h : Tells x P) : ∃ r, (∀ Γ, callRes x Γ = .ok (r, Γ)) ∧ P r := by
  obtain ⟨r, g, e, h⟩ := h
  exact ⟨r, fun Γ => by rw [e]; rfl, h⟩
end Fw

namespace Fw
open PySem L2 PySem.Spec PyProof.Rows

/-! ## values of the program: whole numbers, texts, rows -/
inductive Val where
  | i (n : Int)
  | s (x : Str)
  | r (vs : List Val)
namespace Val
mutual
def toD : Val → D
  | .i n => .int n
  | .s x => .str x
  | .r vs => .tuple (toDs vs)
def toDs : List Val → List D
  | [] => []
  | v :: vs => toD v :: toDs vs
end
mutual
def stamp : Val → Str
  | .i n => toString n
  | .s x => "'" ++ x
  | .r vs => "(" ++ Txt.join "," (stamps vs) ++ ")"
def stamps : List Val → List Str
  | [] => []
  | v :: vs => stamp v :: stamps vs
end
mutual
def dep : Val → Nat
  | .i _ => 0
  | .s _ => 0
  | .r vs => 1 + deps vs
def deps : List Val → Nat
  | [] => 0
  | v :: vs => max (dep v) (deps vs)
end
mutual
/-- a bound of the stamp's signs -/
def wt : Val → Nat
  | .i n => (Str.ofString (toString n)).length
  | .s x => x.length + 1
  | .r vs => 2 + wts vs
def wts : List Val → Nat
  | [] => 0
  | v :: vs => wt v + 1 + wts vs
end
mutual
def Ok : Val → Prop
  | .i n => n.natAbs.log2 < 1920
  | .s _ => True
  | .r vs => Oks vs
def Oks : List Val → Prop
  | [] => True
  | v :: vs => Ok v ∧ Oks vs
end
@[simp] theorem toD_i (n : Int) : (Val.i n).toD = .int n := rfl
@[simp] theorem toD_s (n : Str) : (Val.s n).toD = .str n := rfl
@[simp] theorem stamp_i (n : Int) : (Val.i n).stamp = Str.ofString (toString n) := rfl
@[simp] theorem stamp_s (n : Str) : (Val.s n).stamp = "'" ++ n := rfl
@[simp] theorem toDs_eq : ∀ vs : List Val, toDs vs = vs.map toD
  | [] => rfl
  | v :: vs => by rw [toDs, toDs_eq vs]; rfl
@[simp] theorem stamps_eq : ∀ vs : List Val, stamps vs = vs.map stamp
  | [] => rfl
  | v :: vs => by rw [stamps, stamps_eq vs]; rfl
@[simp] theorem toD_r (vs : List Val) : (Val.r vs).toD = .tuple (vs.map toD) := by rw [toD, toDs_eq]
@[simp] theorem stamp_r (vs : List Val) : (Val.r vs).stamp = "(" ++ Txt.join "," (vs.map stamp) ++ ")" := by rw [stamp, stamps_eq]
theorem deps_le {vs : List Val} {v : Val} (h : v ∈ vs) : dep v ≤ deps vs := by
  induction vs with
  | nil => cases h
  | cons w vs ih =>
    unfold deps
    rcases List.mem_cons.mp h with e | h
    · subst e; omega
    · have := ih h; omega
theorem oks_mem {vs : List Val} {v : Val} (o : Oks vs) (h : v ∈ vs) : Ok v := by
  induction vs with
  | nil => cases h
  | cons w vs ih =>
    unfold Oks at o
    rcases List.mem_cons.mp h with e | h
    · subst e; exact o.1
    · exact ih o.2 h
theorem wts_mem {vs : List Val} {v : Val} (h : v ∈ vs) : wt v ≤ wts vs := by
  induction vs with
  | nil => cases h
  | cons w vs ih =>
    unfold wts
    rcases List.mem_cons.mp h with e | h
    · subst e; omega
    · have := ih h; omega
end Val
end Fw
namespace Fw
open PySem L2 PySem.Spec PyProof.Rows
theorem join_len (y : Str) : ∀ xs : List Str, (Str.join y xs).length ≤ (xs.map (·.length)).sum + xs.length * y.length
  | [] => Nat.zero_le _
  | [x] => by show x.length ≤ _; simp
  | x :: z :: r => by
    show (x ++ y ++ Str.join y (z :: r)).length ≤ _
    have ih := join_len y (z :: r)
    rw [len_app, len_app]
    simp only [List.map_cons, List.sum_cons, List.length_cons] at ih ⊢
    rw [Nat.succ_mul]
    omega
theorem txt_join (y : Str) (xs : List Str) : Txt.join y xs = Str.join y xs := TL.join_eq y xs
namespace Val
theorem sum_le {α : Type} (f g : α → Nat) (xs : List α) (h : ∀ x ∈ xs, f x ≤ g x) : (xs.map f).sum ≤ (xs.map g).sum := by
  induction xs with
  | nil => exact Nat.le_refl _
  | cons x xs ih =>
    have h1 := h x (by simp)
    have h2 := ih fun y hy => h y (List.mem_cons_of_mem _ hy)
    simp only [List.map_cons, List.sum_cons]
    omega
theorem wts_eq (vs : List Val) : wts vs = (vs.map wt).sum + vs.length := by
  induction vs with
  | nil => rfl
  | cons v vs ih => rw [wts, ih]; simp; omega
theorem jlen_cons (z x : Str) (xs : List Str) : jlen z (x :: xs) = x.length + z.length + jlen z xs := by
  unfold jlen
  simp only [List.map_cons, List.sum_cons, List.length_cons, Nat.succ_mul]
  omega
theorem jlen_nil (z : Str) : jlen z [] = 0 := by simp [jlen]
theorem join_le (z : Str) (xs : List Str) : (Txt.join z xs).length ≤ jlen z xs := by rw [txt_join]; exact join_len z xs
theorem jlen_wts (vs : List Val) (h : ∀ v ∈ vs, v.stamp.length ≤ v.wt) : jlen "," (vs.map stamp) ≤ wts vs := by
  induction vs with
  | nil => exact Nat.le_of_eq (jlen_nil _)
  | cons v vs ih =>
    have h1 := h v (by simp)
    have h2 := ih fun w hw => h w (List.mem_cons_of_mem _ hw)
    rw [List.map_cons, jlen_cons]
    unfold wts
    have c : ((",") : Str).length = 1 := rfl
    rw [c]
    omega
theorem stamp_len (n : Nat) : ∀ v : Val, v.dep < n → v.stamp.length ≤ v.wt := by
  induction n with
  | zero => intro v h; cases h
  | succ n ih =>
    intro v h
    cases v with
    | i k => exact Nat.le_refl _
    | s x =>
      show (("'" : Str) ++ x).length ≤ x.length + 1
      rw [len_app]
      show 1 + x.length ≤ x.length + 1
      omega
    | r vs =>
      have hd : ∀ v ∈ vs, v.stamp.length ≤ v.wt := fun v hv => ih v (by have := deps_le hv; have h' : 1 + deps vs < n + 1 := h; omega)
      show (("(" : Str) ++ Txt.join "," (stamps vs) ++ ")").length ≤ 2 + wts vs
      rw [len_app, len_app, stamps_eq, txt_join]
      have j := join_le "," (vs.map stamp)
      have k := jlen_wts vs hd
      have c2 : (("(") : Str).length = 1 := rfl
      have c3 : ((")") : Str).length = 1 := rfl
      rw [← txt_join, c2, c3]
      omega
end Val
end Fw

namespace Fw
open PySem L2 PySem.Spec PyProof.Rows
/-- the same, where the first turn freezes what it reads -/
theorem lcGo_map1 {α : Type} {g f : α → D} {b : BM} {tt : TM} {me : EM} {vs : List Nat} {A B : Gm} : ∀ (xs : List α) (acc : List D) (Γ : Gm), (Γ = A ∨ Γ = B) → xs ≠ [] →
    (∀ x ∈ xs, ∀ Γ, (Γ = A ∨ Γ = B) → ∃ Γ1 Γ2 r, b (g x) Γ = .ok Γ1 ∧ tt Γ1 = .ok (true, Γ1) ∧ me Γ1 = .ok (r, Γ2) ∧ r.dat = f x ∧ wipeG Γ2 vs = B) → lcGo b tt me vs (xs.map g) Γ acc = .ok (acc ++ xs.map f, B)
  | [], acc, _, _, h, _ => absurd rfl h
  | [x], acc, Γ, e, _, h => by
    obtain ⟨Γ1, Γ2, r, h1, h2, h3, h4, h5⟩ := h x (by simp) Γ e
    rw [List.map_cons]
    unfold lcGo
    simp only [h1, h2, h3, h4, h5, Res.noEr_ok, Res.bind_ok, if_true]
    simp [lcGo]
  | x :: y :: xs, acc, Γ, e, _, h => by
    obtain ⟨Γ1, Γ2, r, h1, h2, h3, h4, h5⟩ := h x (by simp) Γ e
    rw [List.map_cons]
    unfold lcGo
    simp only [h1, h2, h3, h4, h5, Res.noEr_ok, Res.bind_ok, if_true]
    rw [lcGo_map1 (y :: xs) _ B (.inr rfl) (by simp) fun e he => h e (List.mem_cons_of_mem _ he)]
    simp
theorem eLc_map1 {α : Type} (xs : List α) (g f : α → D) (B : Gm) {mi : IM} {b : BM} {tt : TM} {me : EM} {vs : List Nat} {Γ Γ1 : Gm} (hi : mi Γ = .ok (xs.map g, Γ1)) (hl : xs.length ≤ 16000000) (hne : xs ≠ [])
    (h : ∀ x ∈ xs, ∀ Γ0, (Γ0 = wipeG Γ1 vs ∨ Γ0 = B) → ∃ Γ2 Γ3 r, b (g x) Γ0 = .ok Γ2 ∧ tt Γ2 = .ok (true, Γ2) ∧ me Γ2 = .ok (r, Γ3) ∧ r.dat = f x ∧ wipeG Γ3 vs = B) :
    eLc mi b tt me vs Γ = .ok (.own (.lst (xs.map f)), backG Γ1 B vs) := by
  unfold eLc
  rw [hi]
  simp only [Res.bind_ok, List.length_map, if_pos (show xs.length ≤ lim from hl)]
  rw [lcGo_map1 xs [] _ (.inl rfl) hne h]
  simp
theorem rng_ne {n : Nat} (h : 0 < n) : List.range n ≠ [] := by
  intro e
  have := congrArg List.length e
  simp at this
  omega
end Fw
namespace Fw
open PySem L2 PySem.Spec PyProof.Rows
theorem eLc_some {α β : Type} (Q : β → Prop) (h : β → D) (xs : List α) (g : α → D) {mi : IM} {b : BM} {tt : TM} {me : EM} {vs : List Nat} {Γ Γ1 : Gm} (hi : mi Γ = .ok (xs.map g, Γ1)) (hl : xs.length ≤ 16000000)
    (hx : ∀ x ∈ xs, ∃ Γ2 Γ3 r y, b (g x) (wipeG Γ1 vs) = .ok Γ2 ∧ tt Γ2 = .ok (true, Γ2) ∧ me Γ2 = .ok (r, Γ3) ∧ r.dat = h y ∧ Q y ∧ wipeG Γ3 vs = wipeG Γ1 vs) :
    ∃ ys : List β, ys.length = xs.length ∧ (∀ y ∈ ys, Q y) ∧ eLc mi b tt me vs Γ = .ok (.own (.lst (ys.map h)), backG Γ1 (wipeG Γ1 vs) vs) := by
  have go : ∀ (xs : List α) (acc : List D), (∀ x ∈ xs, ∃ Γ2 Γ3 r y, b (g x) (wipeG Γ1 vs) = .ok Γ2 ∧ tt Γ2 = .ok (true, Γ2) ∧ me Γ2 = .ok (r, Γ3) ∧ r.dat = h y ∧ Q y ∧ wipeG Γ3 vs = wipeG Γ1 vs) →
      ∃ ys : List β, ys.length = xs.length ∧ (∀ y ∈ ys, Q y) ∧ lcGo b tt me vs (xs.map g) (wipeG Γ1 vs) acc = .ok (acc ++ ys.map h, wipeG Γ1 vs) := by
    intro xs
    induction xs with
    | nil => intro acc _; exact ⟨[], rfl, by simp, by simp [lcGo]⟩
    | cons x xs ih =>
      intro acc hx
      obtain ⟨Γ2, Γ3, r, y, h1, h2, h3, h4, h5, h6⟩ := hx x (by simp)
      obtain ⟨ys, l, q, e⟩ := ih (acc ++ [h y]) fun z hz => hx z (List.mem_cons_of_mem _ hz)
      refine ⟨y :: ys, by simp [l], ?_, ?_⟩
      · intro z hz
        rcases List.mem_cons.mp hz with rfl | hz
        · exact h5
        · exact q z hz
      · rw [List.map_cons]
        unfold lcGo
        simp only [h1, h2, h3, h4, h6, Res.noEr_ok, Res.bind_ok, if_true]
        rw [e]
        simp
  obtain ⟨ys, l, q, e⟩ := go xs [] hx
  refine ⟨ys, l, q, ?_⟩
  unfold eLc
  rw [hi]
  simp only [Res.bind_ok, List.length_map, if_pos (show xs.length ≤ lim from hl)]
  rw [e]
  simp
@[simp] theorem mApp_eq (xs : List D) (d : D) (h : xs.length < 16000000) : mAppend xs [d] = some (.none, xs ++ [d]) := by simp [mAppend, h]
@[simp] theorem mExt_l (xs ds : List D) (h : xs.length + ds.length ≤ 16000000) : mExtend xs [.list ds] = some (.none, xs ++ ds) := by simp [mExtend, h]
@[simp] theorem mExt_t (xs ds : List D) (h : xs.length + ds.length ≤ 16000000) : mExtend xs [.tuple ds] = some (.none, xs ++ ds) := by simp [mExtend, h]
@[simp] theorem join_1 (y x : Str) : Str.join y [x] = x := rfl
theorem join_2 (y x z : Str) (r : List Str) : Str.join y (x :: z :: r) = x ++ (y ++ Str.join y (z :: r)) := Str.append_assoc _ _ _
theorem joinL {z : Str} {ds : List D} (ys : List Str) (e : ds = ys.map .str) (h : jlen z ys ≤ 16000000) : dJoin (.str z) (.list ds) = .ok (.fro (.str (Str.join z ys))) := by
  subst e
  rw [← txt_join]
  exact join_ls h
theorem joinT {z : Str} {ds : List D} (ys : List Str) (e : ds = ys.map .str) (h : jlen z ys ≤ 16000000) : dJoin (.str z) (.tuple ds) = .ok (.fro (.str (Str.join z ys))) := by
  subst e
  rw [← txt_join]
  exact join_ts h
@[simp] theorem sl_l (xs : List D) (lo hi : Option Int) : dSl (.list xs) lo hi = .ok (.own (.lst (Fw.cutD xs lo hi))) := rfl
@[simp] theorem sl_t (xs : List D) (lo hi : Option Int) : dSl (.tuple xs) lo hi = .ok (.fro (.tuple (Fw.cutD xs lo hi))) := rfl
@[simp] theorem cut_map {α β : Type} (f : α → β) (xs : List α) (lo hi : Option Int) : Fw.cutD (xs.map f) lo hi = (Fw.cutD xs lo hi).map f := by
  simp [Fw.cutD, List.map_take, List.map_drop]
theorem cut_hi {α : Type} (xs : List α) (n : Nat) (h : n ≤ xs.length) : Fw.cutD xs none (some (n : Int)) = xs.take n := by
  unfold Fw.cutD
  rw [HT.sIx_nat, HT.sIx_none, Nat.min_eq_left h]
  rfl
theorem cut_lo {α : Type} (xs : List α) (n : Nat) (h : n ≤ xs.length) : Fw.cutD xs (some (n : Int)) none = xs.drop n := by
  unfold Fw.cutD
  rw [HT.sIx_nat, HT.sIx_none, Nat.min_eq_left h]
  exact List.take_of_length_le (by rw [List.length_drop]; exact Nat.le_refl _)
end Fw

namespace Fw
open PySem L2 PySem.Spec PyProof.Rows

/-! ## evaluation, more -/
section
variable {Γ : Gm} {d : D} {i : Nat}
def bndP (f : Pk × Gm → Res (R × Gm)) : Res (Pk × Gm) → Res (R × Gm) := fun r => r.bind f
/-- a slot that is looked at -/
def pkK (Γ : Gm) (i : Nat) : Option D → Res (Pk × Gm)
  | some _ => .ok (.s i, Γ)
  | none => .no
@[simp] theorem pkK_some (Γ : Gm) (i : Nat) (d : D) : pkK Γ i (some d) = .ok (.s i, Γ) := rfl
@[simp] theorem pkS_d (d : D) : pkS (some (.d d)) = some d := rfl
@[simp] theorem pkS_ow (c : Cell) : pkS (some (.ow c)) = some c.toD := rfl
@[simp] theorem pkS_io (c : Cell) : pkS (some (.io c)) = some c.toD := rfl
@[simp] theorem oV_eq (m : EM) (Γ : Gm) : oV m Γ = (m Γ).bind fun p => .ok (.v p.1.dat, p.2) := rfl
@[simp] theorem oN_eq (i : Nat) (Γ : Gm) : oN i Γ = pkK Γ i (pkS (gAt Γ i)) := by rw [← gAt_eq]; rfl
@[simp] theorem pkD_v (Γ : Gm) (d : D) : pkD Γ (.v d) = some d := rfl
@[simp] theorem pkD_s (Γ : Gm) (i : Nat) : pkD Γ (.s i) = pkS (gAt Γ i) := by rw [← gAt_eq]; rfl
@[simp] theorem ownC_eq (Γ : Gm) (i : Nat) : ownC Γ i = cellS (gAt Γ i) := by rw [← gAt_eq]; rfl
@[simp] theorem cellS_ow (c : Cell) : cellS (some (.ow c)) = some c := rfl
@[simp] theorem cellS_io (c : Cell) : cellS (some (.io c)) = some c := rfl
@[simp] theorem cellS_d (d : D) : cellS (some (.d d)) = none := rfl
@[simp] theorem cellS_no : cellS (some .no) = none := rfl
@[simp] theorem pkO_v (Γ : Gm) (d : D) : pkO Γ (.v d) = false := rfl
theorem pkO_s (Γ : Gm) (i : Nat) : pkO Γ (.s i) = (ownC Γ i).isSome := rfl
@[simp] theorem pkO_s' (Γ : Gm) (i : Nat) : pkO Γ (.s i) = (cellS (gAt Γ i)).isSome := by rw [pkO_s, ownC_eq]
theorem liftP_s {own : Bool} {d : D} (h : sclr d = true) : liftP own Γ (.ok (.fro d)) = .ok (.fro d, Γ) := by
  show (if own = true ∧ sclr d = false then Res.no else Res.ok (R.fro d, Γ)) = _
  rw [if_neg (fun z => by rw [h] at z; cases z.2)]
@[simp] theorem liftP_i (own : Bool) (b : Int) : liftP own Γ (.ok (.fro (.int b))) = .ok (.fro (.int b), Γ) := liftP_s rfl
@[simp] theorem liftP_b (own : Bool) (b : Bool) : liftP own Γ (.ok (.fro (.bool b))) = .ok (.fro (.bool b), Γ) := liftP_s rfl
@[simp] theorem liftP_z (own : Bool) (b : Str) : liftP own Γ (.ok (.fro (.str b))) = .ok (.fro (.str b), Γ) := liftP_s rfl
@[simp] theorem liftP_n (own : Bool) : liftP own Γ (.ok (.fro .none)) = .ok (.fro .none, Γ) := liftP_s rfl
@[simp] theorem liftP_f (q : R) : liftP false Γ (.ok q) = .ok (q, Γ) := by
  cases q <;> rfl
@[simp] theorem sclr_b (b : Bool) : sclr (.bool b) = true := rfl
@[simp] theorem sclr_i (b : Int) : sclr (.int b) = true := rfl
@[simp] theorem sclr_z (b : Str) : sclr (.str b) = true := rfl
@[simp] theorem sclr_n : sclr .none = true := rfl
def binK (f : D → D → Res R) (Γ : Gm) (own : Bool) : Option D → Option D → Res (R × Gm)
  | some x, some y => liftP own Γ (f x y)
  | _, _ => .no
@[simp] theorem binK_some (f : D → D → Res R) (Γ : Gm) (own : Bool) (x y : D) : binK f Γ own (some x) (some y) = liftP own Γ (f x y) := rfl
@[simp] theorem binP_eq (f : D → D → Res R) (p q : Pk) (Γ : Gm) : binP f p q Γ = binK f Γ (pkO Γ p || pkO Γ q) (pkD Γ p) (pkD Γ q) := by
  unfold binP binK
  cases pkD Γ p <;> cases pkD Γ q <;> rfl
def unK (f : D → Res R) (Γ : Gm) (own : Bool) : Option D → Res (R × Gm)
  | some x => liftP own Γ (f x)
  | _ => .no
@[simp] theorem unK_some (f : D → Res R) (Γ : Gm) (own : Bool) (x : D) : unK f Γ own (some x) = liftP own Γ (f x) := rfl
@[simp] theorem unP_eq (f : D → Res R) (p : Pk) (Γ : Gm) : unP f p Γ = unK f Γ (pkO Γ p) (pkD Γ p) := by
  unfold unP unK
  cases pkD Γ p <;> rfl
@[simp] theorem eBinO_eq (f : D → D → Res R) (oa ob : OM) (Γ : Gm) : eBinO f oa ob Γ = (oa Γ).bind fun p => (ob p.2).bind fun q => binP f p.1 q.1 q.2 := rfl
@[simp] theorem eUnO_eq (f : D → Res R) (oa : OM) (Γ : Gm) : eUnO f oa Γ = (oa Γ).bind fun p => unP f p.1 p.2 := rfl
def tNmK (Γ : Gm) : Option D → Res (Bool × Gm)
  | some d => truOf d Γ
  | none => .no
@[simp] theorem tNmK_some (Γ : Gm) (d : D) : tNmK Γ (some d) = truOf d Γ := rfl
@[simp] theorem tNm_eq (i : Nat) (Γ : Gm) : tNm i Γ = tNmK Γ (pkS (gAt Γ i)) := by
  rw [← gAt_eq]
  unfold tNm tNmK
  cases pkS Γ[i]? <;> rfl
def ixK2 (k : D) (Γ : Gm) : Option D → Res (R × Gm)
  | some d => lift (dIx2 d k) Γ
  | none => .no
@[simp] theorem ixK2_some (k : D) (Γ : Gm) (d : D) : ixK2 k Γ (some d) = lift (dIx2 d k) Γ := rfl
@[simp] theorem ixK_eq (i : Nat) (k : D) (Γ : Gm) : ixK i k Γ = ixK2 k Γ (pkS (gAt Γ i)) := by
  rw [← gAt_eq]
  unfold ixK ixK2
  cases pkS Γ[i]? <;> rfl
def ixK0 (r : Unit → Res (R × Gm)) : Option D → Res (R × Gm)
  | some _ => r ()
  | none => .no
@[simp] theorem ixK0_some (r : Unit → Res (R × Gm)) (d : D) : ixK0 r (some d) = r () := rfl
@[simp] theorem eIxN_eq (i : Nat) (mb : EM) (Γ : Gm) : eIxN i mb Γ = ixK0 (fun _ => (mb Γ).bind fun p => ixK i p.1.dat p.2) (pkS (gAt Γ i)) := by
  rw [← gAt_eq]
  unfold eIxN ixK0
  cases pkS Γ[i]? <;> rfl
@[simp] theorem eSlN_eq (i : Nat) (pl ph : PM) (Γ : Gm) : eSlN i pl ph Γ = ixK0 (fun _ => (pl Γ).bind fun l => (ph l.2).bind fun h => slK i l.1 h.1 h.2) (pkS (gAt Γ i)) := by
  rw [← gAt_eq]
  unfold eSlN ixK0
  cases pkS Γ[i]? <;> rfl
def slK2 (lo hi : Option Int) (Γ : Gm) : Option D → Res (R × Gm)
  | some d => lift (dSl d lo hi) Γ
  | none => .no
@[simp] theorem slK2_some (lo hi : Option Int) (Γ : Gm) (d : D) : slK2 lo hi Γ (some d) = lift (dSl d lo hi) Γ := rfl
@[simp] theorem slK_eq (i : Nat) (lo hi : Option Int) (Γ : Gm) : slK i lo hi Γ = slK2 lo hi Γ (pkS (gAt Γ i)) := by
  rw [← gAt_eq]
  unfold slK slK2
  cases pkS Γ[i]? <;> rfl
@[simp] theorem ix2_l (xs : List D) (k : D) : dIx2 (.list xs) k = dIx (.list xs) k := rfl
@[simp] theorem ix2_t (xs : List D) (k : D) : dIx2 (.tuple xs) k = dIx (.tuple xs) k := rfl
@[simp] theorem ix2_s (xs : Str) (k : D) : dIx2 (.str xs) k = dIx (.str xs) k := rfl
/-! lending -/
@[simp] theorem laNil_eq (Γ : Gm) : laNil Γ = .ok ([], Γ) := rfl
@[simp] theorem laV_eq (m : EM) (ms : LM) (Γ : Gm) : laV m ms Γ = (m Γ).bind fun p => (ms p.2).bind fun q => .ok (.v p.1.dat :: q.1, q.2) := rfl
def laK (r : Unit → Res (List LA × Gm)) : Option Cell → Res (List LA × Gm)
  | some _ => r ()
  | none => .no
@[simp] theorem laK_some (r : Unit → Res (List LA × Gm)) (c : Cell) : laK r (some c) = r () := rfl
@[simp] theorem laL_eq (i : Nat) (ms : LM) (Γ : Gm) : laL i ms Γ = laK (fun _ => (ms Γ).bind fun p => .ok (.l i :: p.1, p.2)) (cellS (gAt Γ i)) := by
  rw [← ownC_eq]
  unfold laL laK
  cases ownC Γ i <;> rfl
@[simp] theorem eFnL_eq (m : Fn) (ms : LM) (Γ : Gm) : eFnL m ms Γ = (ms Γ).bind fun p => callL m p.1 p.2 := rfl
@[simp] theorem lends_nil : lends [] = [] := rfl
@[simp] theorem lends_v (d : D) (ds : List LA) : lends (.v d :: ds) = lends ds := rfl
@[simp] theorem lends_l (i : Nat) (ds : List LA) : lends (.l i :: ds) = i :: lends ds := rfl
def svK : Option Cell → SV
  | some c => .io c
  | none => .no
@[simp] theorem svK_some (c : Cell) : svK (some c) = .io c := rfl
@[simp] theorem svOf_v (Γ : Gm) (d : D) : svOf Γ (.v d) = .d d := rfl
@[simp] theorem svOf_l (Γ : Gm) (i : Nat) : svOf Γ (.l i) = svK (cellS (gAt Γ i)) := by
  rw [← ownC_eq]
  show (match ownC Γ i with | some c => SV.io c | none => SV.no) = svK (ownC Γ i)
  cases ownC Γ i <;> rfl
@[simp] theorem callL_eq {m : Fn} {las : List LA} (h : (lends las).Nodup ∧ (lends las).all (fun i => (ownC Γ i).isSome) = true) : callL m las Γ = lentR las Γ (m (las.map (svOf Γ))) := if_pos h
def backK : Res (R × Gm) → Res (R × Gm) := id
def lentK (q : R) : Option Gm → Res (R × Gm)
  | some g => .ok (q, g)
  | none => .no
@[simp] theorem lentK_some (q : R) (g : Gm) : lentK q (some g) = .ok (q, g) := rfl
@[simp] theorem lentR_ok (las : List LA) (Γ : Gm) (p : R × List SV) : lentR las Γ (.ok p) = lentK p.1 (backL las p.2 Γ) := by
  show (match backL las p.2 Γ with | some g => Res.ok (p.1, g) | none => Res.no) = _
  unfold lentK
  cases backL las p.2 Γ <;> rfl
@[simp] theorem backL_nil (g : List SV) (Γ : Gm) : backL [] g Γ = some Γ := by unfold backL; rfl
@[simp] theorem backL_v (d : D) (ds : List LA) (x : SV) (g : List SV) (Γ : Gm) : backL (.v d :: ds) (x :: g) Γ = backL ds g Γ := by
  rw [backL]; rfl
@[simp] theorem backL_l (i : Nat) (ds : List LA) (x : SV) (g : List SV) (Γ : Gm) : backL (.l i :: ds) (x :: g) Γ = (back1 Γ i (some x)).bind fun Γ1 => backL ds g Γ1 := by
  rw [backL]; rfl
def back1K (Γ : Gm) (i : Nat) (c : Cell) : Option Cell → Option Gm
  | some _ => some (setC Γ i c)
  | none => none
@[simp] theorem back1K_some (Γ : Gm) (i : Nat) (c c' : Cell) : back1K Γ i c (some c') = some (setC Γ i c) := rfl
@[simp] theorem back1_eq (Γ : Gm) (i : Nat) (c : Cell) : back1 Γ i (some (.io c)) = back1K Γ i c (cellS (gAt Γ i)) := by
  rw [← ownC_eq]
  unfold back1 back1K
  cases ownC Γ i <;> rfl
def putK2 (c : Cell) : Option SV → SV
  | some (.io _) => .io c
  | _ => .ow c
@[simp] theorem putK2_io (c c' : Cell) : putK2 c (some (.io c')) = .io c := rfl
@[simp] theorem putK2_ow (c c' : Cell) : putK2 c (some (.ow c')) = .ow c := rfl
@[simp] theorem setC_eq (Γ : Gm) (i : Nat) (c : Cell) : setC Γ i c = Γ.set i (putK2 c (gAt Γ i)) := by
  unfold setC
  rw [List.getD_eq_getElem?_getD, gAt_eq]
  congr 1
  cases gAt Γ i with
  | none => rfl
  | some sv => cases sv <;> rfl
/-! stores -/
def setK1 (i : Nat) (v : D) (k : D) (Γ1 : Gm) : Option Cell → Res Out
  | some c => (match putC c k v with
    | some c' => .ok (.nx (setC Γ1 i c'))
    | none => .no)
  | none => .no
def setK2 (i : Nat) (Γ1 : Gm) : Option Cell → Res Out
  | some c' => .ok (.nx (setC Γ1 i c'))
  | none => .no
@[simp] theorem setK2_some (i : Nat) (Γ1 : Gm) (c : Cell) : setK2 i Γ1 (some c) = .ok (.nx (setC Γ1 i c)) := rfl
@[simp] theorem setK1_some (i : Nat) (v k : D) (Γ1 : Gm) (c : Cell) : setK1 i v k Γ1 (some c) = setK2 i Γ1 (putC c k v) := by
  show (match putC c k v with | some c' => Res.ok (Out.nx (setC Γ1 i c')) | none => Res.no) = _
  unfold setK2
  cases putC c k v <;> rfl
def setK0 (r : Unit → Res Out) : Option Cell → Res Out
  | some _ => r ()
  | none => .no
@[simp] theorem setK0_some (r : Unit → Res Out) (c : Cell) : setK0 r (some c) = r () := rfl
@[simp] theorem sSetIx_eq (i : Nat) (mk mv : EM) (Γ : Gm) : sSetIx i mk mv Γ = (mv Γ).bind fun p => setK0 (fun _ => (mk p.2).bind fun q => setK1 i p.1.dat q.1.dat q.2 (cellS (gAt q.2 i))) (cellS (gAt p.2 i)) := by
  have e1 : ∀ (v k : D) (Γ1 : Gm), (match ownC Γ1 i with | some c => (match putC c k v with | some c' => Res.ok (Out.nx (setC Γ1 i c')) | none => .no) | none => .no) = setK1 i v k Γ1 (cellS (gAt Γ1 i)) := by
    intro v k Γ1
    rw [← ownC_eq]
    unfold setK1
    cases ownC Γ1 i <;> rfl
  have e2 : ∀ (v : D) (Γ1 : Gm), (match ownC Γ1 i with | none => Res.no | some _ => opd mk (fun k Γ1 => match ownC Γ1 i with | some c => (match putC c k v with | some c' => Res.ok (Out.nx (setC Γ1 i c')) | none => .no) | none => .no) Γ1) = setK0 (fun _ => (mk Γ1).bind fun q => setK1 i v q.1.dat q.2 (cellS (gAt q.2 i))) (cellS (gAt Γ1 i)) := by
    intro v Γ1
    rw [← ownC_eq Γ1]
    cases ownC Γ1 i with
    | none => rfl
    | some c =>
      show (mk Γ1).bind _ = (mk Γ1).bind _
      congr 1
      funext q
      exact e1 v q.1.dat q.2
  unfold sSetIx
  show (mv Γ).bind _ = (mv Γ).bind _
  congr 1
  funext p
  exact e2 p.1.dat p.2
@[simp] theorem putC_l {xs : List D} {i : Int} {v : D} (h : 0 ≤ i ∧ i < xs.length) : putC (.lst xs) (.int i) v = some (.lst (xs.set i.toNat v)) := by
  have hn : ixN xs.length i = some i.toNat := by
    unfold ixN
    split <;> simp <;> omega
  show (ixN xs.length i).map _ = _
  rw [hn]
  rfl
/-! chains, in, built-ins -/
def chK (g : D → D → Res R) (mc : EM) (y : D) (Γ : Gm) : Option Bool → Res (R × Gm)
  | some true => (mc Γ).bind fun p => lift (g y p.1.dat) p.2
  | some false => .ok (.fro (.bool false), Γ)
  | none => .no
@[simp] theorem chK_eq (g : D → D → Res R) (mc : EM) (y : D) (Γ : Gm) (b : Bool) : chK g mc y Γ (some b) = cnd b (fun _ => (mc Γ).bind fun p => lift (g y p.1.dat) p.2) (fun _ => .ok (.fro (.bool false), Γ)) := by
  cases b <;> rfl
@[simp] theorem bok_b (b : Bool) : bok (.fro (.bool b)) = some b := rfl
@[simp] theorem eChain_eq (f g : D → D → Res R) (ma mb mc : EM) (Γ : Gm) : eChain f g ma mb mc Γ = (ma Γ).bind fun x => (mb x.2).bind fun y => (lift (f x.1.dat y.1.dat) y.2).bind fun p => chK g mc y.1.dat p.2 (bok p.1) := by
  have e1 : ∀ (y : D) (Γ : Gm) (o : Option Bool), (match o with | some true => (opd mc fun z Γ1 => lift (g y z) Γ1) Γ | some false => Res.ok (R.fro (.bool false), Γ) | none => .no) = chK g mc y Γ o := by
    intro y Γ o
    cases o with
    | none => rfl
    | some b => cases b <;> rfl
  show (ma Γ).bind (fun x => (mb x.2).bind fun y => (lift (f x.1.dat y.1.dat) y.2).bind fun p => match bok p.1 with | some true => (opd mc fun z Γ1 => lift (g y.1.dat z) Γ1) p.2 | some false => .ok (.fro (.bool false), p.2) | none => .no) = _
  simp only [e1]
@[simp] theorem in_ss (w z : Str) : dIn (.str w) (.str z) = .ok (.fro (.bool (strIn w z))) := rfl
@[simp] theorem notin_ss (w z : Str) : dNotIn (.str w) (.str z) = .ok (.fro (.bool !(strIn w z))) := rfl
theorem flat_strs (ys : List Str) : (ys.map PyData.str).all flatD = true := by
  induction ys with
  | nil => rfl
  | cons y ys ih => rw [List.map_cons, List.all_cons, ih]; rfl
theorem mem_strs (x : Str) (ys : List Str) : memD (.str x) (ys.map PyData.str) = decide (x ∈ ys) := by
  unfold memD
  induction ys with
  | nil => rfl
  | cons y ys ih =>
    rw [List.map_cons, List.any_cons, ih]
    have e : PyData.eqv (.str y) (.str x) = decide (x = y) := by simp [PyData.eqv, Bool.beq_eq_decide_eq, eq_comm]
    rw [e]
    by_cases h : x = y <;> simp [h]
@[simp] theorem in_sl (x : Str) (ys : List Str) : dIn (.str x) (.list (ys.map .str)) = .ok (.fro (.bool (decide (x ∈ ys)))) := by
  simp [dIn, inB, inSeq, flatD, flat_strs, mem_strs]
@[simp] theorem in_st (x : Str) (ys : List Str) : dIn (.str x) (.tuple (ys.map .str)) = .ok (.fro (.bool (decide (x ∈ ys)))) := by
  simp [dIn, inB, inSeq, flatD, flat_strs, mem_strs]
@[simp] theorem notin_sl (x : Str) (ys : List Str) : dNotIn (.str x) (.list (ys.map .str)) = .ok (.fro (.bool !(decide (x ∈ ys)))) := by
  simp [dNotIn, inB, inSeq, flatD, flat_strs, mem_strs]
@[simp] theorem notin_st (x : Str) (ys : List Str) : dNotIn (.str x) (.tuple (ys.map .str)) = .ok (.fro (.bool !(decide (x ∈ ys)))) := by
  simp [dNotIn, inB, inSeq, flatD, flat_strs, mem_strs]
@[simp] theorem abs_i (i : Int) : dAbs (.int i) = .ok (.fro (.int (i.natAbs : Int))) := by
  show Res.ok (R.fro (.int (if i < 0 then -i else i))) = _
  have : (if i < 0 then -i else i) = (i.natAbs : Int) := by split <;> omega
  rw [this]
@[simp] theorem eq_bb (a b : Bool) : dEq (.bool a) (.bool b) = .ok (.fro (.bool (a == b))) := by
  cases a <;> cases b <;> rfl
@[simp] theorem ne_bb (a b : Bool) : dNe (.bool a) (.bool b) = .ok (.fro (.bool (a != b))) := by
  cases a <;> cases b <;> rfl
@[simp] theorem rev_t (xs : List D) : dRev (.tuple xs) = .ok (.fro (.tuple xs.reverse)) := rfl
end
end Fw

namespace Fw
open PySem L2 PySem.Spec PyProof.Rows

/-! ## loops by invariants -/
def Ends' (I : Gm → Prop) (Post : Out → Prop) : Out → Prop
  | .nx g => I g
  | .ct g => I g
  | .bk g => Post (.nx g)
  | .rt r g => Post (.rt r g)
theorem whGo_inv {t : TM} {body : SM} {tmp : List Nat} (I : Nat → Gm → Prop) (Post : Out → Prop)
    (h : ∀ k Γ, I k Γ → ∃ b Γ1, t Γ = .ok (b, Γ1) ∧ (b = false → Post (.nx Γ1)) ∧ (b = true → ∃ o, body Γ1 = .ok o ∧ Ends' (fun g => ∃ k', k' < k ∧ I k' (wipeG g tmp)) Post o)) :
    ∀ n k Γ, k < n → I k Γ → ∃ o, sWhile.whGo t body tmp n Γ = .ok o ∧ Post o := by
  intro n
  induction n with
  | zero => intro k Γ hk; exact (Nat.not_lt_zero k hk).elim
  | succ n ih =>
    intro k Γ hk hI
    obtain ⟨b, Γ1, e1, h1, h2⟩ := h k Γ hI
    unfold sWhile.whGo
    rw [e1]
    simp only [Res.bind_ok]
    cases b with
    | false => exact ⟨_, rfl, h1 rfl⟩
    | true =>
      obtain ⟨o, e2, h3⟩ := h2 rfl
      rw [if_pos rfl, e2]
      simp only [Res.bind_ok]
      cases o with
      | nx g => obtain ⟨k', hk', hI'⟩ := h3; exact ih k' _ (by omega) hI'
      | ct g => obtain ⟨k', hk', hI'⟩ := h3; exact ih k' _ (by omega) hI'
      | bk g => exact ⟨_, rfl, h3⟩
      | rt r g => exact ⟨_, rfl, h3⟩
theorem sWhile_inv {n : Nat} {t : TM} {body : SM} {tmp : List Nat} (I : Nat → Gm → Prop) (Post : Out → Prop)
    (h : ∀ k Γ, I k Γ → ∃ b Γ1, t Γ = .ok (b, Γ1) ∧ (b = false → Post (.nx Γ1)) ∧ (b = true → ∃ o, body Γ1 = .ok o ∧ Ends' (fun g => ∃ k', k' < k ∧ I k' (wipeG g tmp)) Post o)) {k : Nat} {Γ : Gm} (hk : k < n) (h0 : I k Γ) :
    ∃ o, sWhile n t body tmp Γ = .ok o ∧ Post o := whGo_inv I Post h n k Γ hk h0
/-- a for loop that may be left -/
theorem forGo_any {α : Type} {g : α → D} {b : BM} {body : SM} {tmp : List Nat} (I : Nat → Gm → Prop) (Post : Out → Prop) {xs : List α}
    (h : ∀ i x Γ, xs[i]? = some x → I i Γ → ∃ Γ1 o, b (g x) Γ = .ok Γ1 ∧ body Γ1 = .ok o ∧ Ends' (fun g => I (i + 1) (wipeG g tmp)) Post o) (he : ∀ Γ, I xs.length Γ → Post (.nx Γ)) :
    ∀ (i : Nat) (Γ : Gm), i ≤ xs.length → I i Γ → ∃ o, sFor.forGo b body tmp ((xs.drop i).map g) Γ = .ok o ∧ Post o := by
  intro i Γ hi hI
  induction hk : xs.length - i generalizing i Γ with
  | zero =>
    have e : i = xs.length := by omega
    subst e
    rw [List.drop_length]
    exact ⟨_, rfl, he _ hI⟩
  | succ k ih =>
    have hlt : i < xs.length := by omega
    obtain ⟨Γ1, o, h1, h2, h3⟩ := h i _ Γ (List.getElem?_eq_getElem hlt) hI
    rw [List.drop_eq_getElem_cons hlt, List.map_cons]
    unfold sFor.forGo
    rw [h1]
    simp only [Res.noEr_ok, Res.bind_ok]
    rw [h2]
    simp only [Res.bind_ok]
    cases o with
    | nx g => exact ih (i + 1) _ hlt h3 (by omega)
    | ct g => exact ih (i + 1) _ hlt h3 (by omega)
    | bk g => exact ⟨_, rfl, h3⟩
    | rt r g => exact ⟨_, rfl, h3⟩
theorem sFor_any {α : Type} (xs : List α) (g : α → D) (I : Nat → Gm → Prop) (Post : Out → Prop) {mi : IM} {b : BM} {body : SM} {tmp : List Nat} {Γ Γ1 : Gm} (hi : mi Γ = .ok (xs.map g, Γ1)) (h0 : I 0 Γ1)
    (h : ∀ i x Γ, xs[i]? = some x → I i Γ → ∃ Γ1 o, b (g x) Γ = .ok Γ1 ∧ body Γ1 = .ok o ∧ Ends' (fun g => I (i + 1) (wipeG g tmp)) Post o) (he : ∀ Γ, I xs.length Γ → Post (.nx Γ)) : ∃ o, sFor mi b body tmp Γ = .ok o ∧ Post o := by
  unfold sFor
  rw [hi]
  exact forGo_any I Post h he 0 Γ1 (Nat.zero_le _) h0
/-- a comprehension by an invariant of its slots -/
theorem eLc_inv {α β : Type} (I : Gm → Prop) (Q : β → Prop) (h : β → D) (xs : List α) (g : α → D) {mi : IM} {b : BM} {tt : TM} {me : EM} {vs : List Nat} {Γ Γ1 : Gm} (hi : mi Γ = .ok (xs.map g, Γ1)) (hl : xs.length ≤ 16000000) (h0 : I (wipeG Γ1 vs))
    (hx : ∀ x ∈ xs, ∀ Γ, I Γ → ∃ Γ2 Γ3 r y, b (g x) Γ = .ok Γ2 ∧ tt Γ2 = .ok (true, Γ2) ∧ me Γ2 = .ok (r, Γ3) ∧ r.dat = h y ∧ Q y ∧ I (wipeG Γ3 vs)) :
    ∃ (ys : List β) (Γ' : Gm), ys.length = xs.length ∧ (∀ y ∈ ys, Q y) ∧ I Γ' ∧ eLc mi b tt me vs Γ = .ok (.own (.lst (ys.map h)), backG Γ1 Γ' vs) := by
  have go : ∀ (xs : List α) (acc : List D) (Γ0 : Gm), I Γ0 → (∀ x ∈ xs, ∀ Γ, I Γ → ∃ Γ2 Γ3 r y, b (g x) Γ = .ok Γ2 ∧ tt Γ2 = .ok (true, Γ2) ∧ me Γ2 = .ok (r, Γ3) ∧ r.dat = h y ∧ Q y ∧ I (wipeG Γ3 vs)) →
      ∃ (ys : List β) (Γ' : Gm), ys.length = xs.length ∧ (∀ y ∈ ys, Q y) ∧ I Γ' ∧ lcGo b tt me vs (xs.map g) Γ0 acc = .ok (acc ++ ys.map h, Γ') := by
    intro xs
    induction xs with
    | nil => intro acc Γ0 hI _; exact ⟨[], Γ0, rfl, by simp, hI, by simp [lcGo]⟩
    | cons x xs ih =>
      intro acc Γ0 hI hx
      obtain ⟨Γ2, Γ3, r, y, h1, h2, h3, h4, h5, h6⟩ := hx x (by simp) Γ0 hI
      obtain ⟨ys, Γ', l, q, hI', e⟩ := ih (acc ++ [h y]) _ h6 fun z hz => hx z (List.mem_cons_of_mem _ hz)
      refine ⟨y :: ys, Γ', by simp [l], ?_, hI', ?_⟩
      · intro z hz
        rcases List.mem_cons.mp hz with rfl | hz
        · exact h5
        · exact q z hz
      · rw [List.map_cons]
        unfold lcGo
        simp only [h1, h2, h3, h4, Res.noEr_ok, Res.bind_ok, if_true]
        rw [e]
        simp
  obtain ⟨ys, Γ', l, q, hI', e⟩ := go xs [] _ h0 hx
  refine ⟨ys, Γ', l, q, hI', ?_⟩
  unfold eLc
  rw [hi]
  simp only [Res.bind_ok, List.length_map, if_pos (show xs.length ≤ lim from hl)]
  rw [e]
  simp
/-- a comprehension that keeps what a test tells True of -/
theorem lcGo_filter {α : Type} {g f : α → D} {p : α → Bool} {b : BM} {tt : TM} {me : EM} {vs : List Nat} {Γ : Gm} : ∀ (xs : List α) (acc : List D),
    (∀ x ∈ xs, ∃ Γ1 Γ2, b (g x) Γ = .ok Γ1 ∧ tt Γ1 = .ok (p x, Γ2) ∧ (p x = false → wipeG Γ2 vs = Γ) ∧ (p x = true → ∃ r Γ3, me Γ2 = .ok (r, Γ3) ∧ r.dat = f x ∧ wipeG Γ3 vs = Γ)) → lcGo b tt me vs (xs.map g) Γ acc = .ok (acc ++ (xs.filter p).map f, Γ)
  | [], acc, _ => by simp [lcGo]
  | x :: xs, acc, h => by
    obtain ⟨Γ1, Γ2, h1, h2, h3, h4⟩ := h x (by simp)
    have ih := lcGo_filter (g := g) (f := f) (p := p) (b := b) (tt := tt) (me := me) (vs := vs) (Γ := Γ) xs
    rw [List.map_cons]
    unfold lcGo
    simp only [h1, h2, Res.noEr_ok, Res.bind_ok]
    cases hp : p x with
    | false =>
      simp only [h3 hp, Bool.false_eq_true, if_false]
      rw [ih acc fun e he => h e (List.mem_cons_of_mem _ he), List.filter_cons_of_neg (by simp [hp])]
    | true =>
      obtain ⟨r, Γ3, e1, e2, e3⟩ := h4 hp
      simp only [e1, e2, e3, if_true, Res.bind_ok, Res.noEr_ok]
      rw [ih _ fun e he => h e (List.mem_cons_of_mem _ he), List.filter_cons_of_pos hp]
      simp
theorem eLc_filter {α : Type} (xs : List α) (g f : α → D) (p : α → Bool) {mi : IM} {b : BM} {tt : TM} {me : EM} {vs : List Nat} {Γ Γ1 : Gm} (hi : mi Γ = .ok (xs.map g, Γ1)) (hl : xs.length ≤ 16000000)
    (h : ∀ x ∈ xs, ∃ Γ2 Γ3, b (g x) (wipeG Γ1 vs) = .ok Γ2 ∧ tt Γ2 = .ok (p x, Γ3) ∧ (p x = false → wipeG Γ3 vs = wipeG Γ1 vs) ∧ (p x = true → ∃ r Γ4, me Γ3 = .ok (r, Γ4) ∧ r.dat = f x ∧ wipeG Γ4 vs = wipeG Γ1 vs)) :
    eLc mi b tt me vs Γ = .ok (.own (.lst ((xs.filter p).map f)), backG Γ1 (wipeG Γ1 vs) vs) := by
  unfold eLc
  rw [hi]
  simp only [Res.bind_ok, List.length_map, if_pos (show xs.length ≤ lim from hl)]
  rw [lcGo_filter xs [] h]
  simp

/-! ## texts as rows of signs -/
def T (l : List Nat) : Str := ⟨l.toArray⟩
def sg (c : Nat) : Str := ⟨#[c]⟩
theorem T_of (x : Str) : T x.cps.toList = x := by unfold T; rw [Array.toArray_toList]
theorem T_cps (l : List Nat) : (T l).cps.toList = l := rfl
@[simp] theorem T_len (l : List Nat) : (T l).length = l.length := rfl
@[simp] theorem T_inj {l m : List Nat} : (T l = T m) ↔ l = m := by
  constructor
  · intro h
    have := congrArg (fun x : Str => x.cps.toList) h
    exact this
  · intro h; rw [h]
theorem T_app (l m : List Nat) : T l ++ T m = T (l ++ m) := by
  show Str.mk (l.toArray ++ m.toArray) = _
  rw [List.append_toArray]
  rfl
theorem sg_T (c : Nat) : sg c = T [c] := rfl
theorem strD_T (l : List Nat) : strD (T l) = l.map fun c => .str (sg c) := rfl
@[simp] theorem items_T (l : List Nat) : itemsD (.str (T l)) = some (l.map fun c => .str (sg c)) := rfl
@[simp] theorem strIn_sg (c : Nat) (z : List Nat) : strIn (sg c) (T z) = decide (c ∈ z) := StrLaws.found_one (T z) c
theorem strIn_one (c : Nat) (z : Str) : strIn (sg c) z = decide (c ∈ z.cps.toList) := StrLaws.found_one z c
@[simp] theorem cutS_T (l : List Nat) (lo hi : Option Int) : cutS (T l) lo hi = T (Fw.cutD l lo hi) := rfl
@[simp] theorem sl_s {z : Str} {lo hi : Option Int} (h : z.length ≤ 16000000) : dSl (.str z) lo hi = .ok (.fro (.str (cutS z lo hi))) := by
  show (if z.length ≤ lim then fr (.str (cutS z lo hi)) else .no) = _
  rw [if_pos h]
  rfl
@[simp] theorem ix_s {z : Str} {i : Int} (h : 0 ≤ i ∧ i < z.length) (h2 : z.length ≤ 16000000) : dIx (.str z) (.int i) = .ok (.fro (.str (sg (z.cps.toList.getD i.toNat 0)))) := by
  have hl : z.cps.toList.length = z.length := by rw [Array.length_toList]; rfl
  have e := atI_in (xs := z.cps.toList) (i := i) 0 h.1 (by rw [hl]; exact h.2)
  show (if z.length ≤ lim then (match atI z.cps.toList i with | some c => fr (.str ⟨#[c]⟩) | none => .no) else .no) = _
  rw [if_pos h2, e]
  rfl
theorem cut_any {α : Type} (l : List α) (a b : Nat) : Fw.cutD l (some (a : Int)) (some (b : Int)) = (l.drop a).take (b - a) := by
  unfold Fw.cutD
  rw [HT.sIx_nat, HT.sIx_nat]
  by_cases ha : a ≤ l.length
  · rw [Nat.min_eq_left ha]
    by_cases hb : b ≤ l.length
    · rw [Nat.min_eq_left hb]
    · rw [Nat.min_eq_right (by omega), List.take_of_length_le (by rw [List.length_drop]; omega), List.take_of_length_le (by rw [List.length_drop]; omega)]
  · rw [Nat.min_eq_right (by omega : l.length ≤ a), List.drop_length, List.drop_eq_nil_of_le (by omega)]
    simp
theorem join_T (z : List Nat) : ∀ xs : List (List Nat), Str.join (T z) (xs.map T) = T (List.intercalate z xs)
  | [] => rfl
  | [x] => by simp [List.intercalate, Str.join]
  | x :: y :: r => by
    show T x ++ T z ++ Str.join (T z) ((y :: r).map T) = _
    rw [join_T z (y :: r), T_app, T_app]
    congr 1
    simp [List.intercalate, List.intersperse]
theorem join_sg (cs : List Nat) : Str.join (Str.ofString "") (cs.map sg) = T cs := by
  have e : (Str.ofString "") = T [] := by decide
  have e2 : cs.map sg = (cs.map fun c => [c]).map T := by rw [List.map_map]; rfl
  rw [e, e2, join_T]
  congr 1
  clear e e2
  induction cs with
  | nil => rfl
  | cons c cs ih =>
    cases cs with
    | nil => rfl
    | cons d cs =>
      simp [List.intercalate, List.intersperse] at ih ⊢
      exact ih
theorem jlen_sg (cs : List Nat) : jlen (Str.ofString "") (cs.map sg) = cs.length := by
  have e : (Str.ofString "").length = 0 := by decide
  unfold jlen
  rw [e]
  induction cs with
  | nil => rfl
  | cons c cs ih =>
    rw [List.map_cons, List.map_cons, List.sum_cons, List.length_cons, List.length_cons]
    have : (sg c).length = 1 := rfl
    omega
end Fw
namespace Fw
open PySem L2 PySem.Spec PyProof.Rows
theorem cut_hi' {α : Type} (xs : List α) (n : Nat) : Fw.cutD xs none (some (n : Int)) = xs.take n := by
  have := cut_any xs 0 n
  have e : Fw.cutD xs none (some (n : Int)) = Fw.cutD xs (some ((0 : Nat) : Int)) (some (n : Int)) := by
    unfold Fw.cutD
    rw [HT.sIx_nat, HT.sIx_none, HT.sIx_nat, Nat.zero_min]
  rw [e, this]
  rfl
theorem cut_lo' {α : Type} (xs : List α) (n : Nat) : Fw.cutD xs (some (n : Int)) none = xs.drop n := by
  by_cases h : n ≤ xs.length
  · exact cut_lo xs n h
  · unfold Fw.cutD
    rw [HT.sIx_nat, HT.sIx_none, Nat.min_eq_right (by omega), List.drop_length, List.drop_eq_nil_of_le (by omega)]
    simp
@[simp] theorem cut_h1 {α : Type} (xs : List α) : Fw.cutD xs none (some 1) = xs.take 1 := cut_hi' xs 1
@[simp] theorem cut_l1 {α : Type} (xs : List α) : Fw.cutD xs (some 1) none = xs.drop 1 := cut_lo' xs 1
theorem txtN (m : Nat) : Str.ofString (toString ((m : Nat) : Int)) = T (TL.numL m) := by
  rw [← T_of (Str.ofString (toString ((m : Nat) : Int)))]
  congr 1
  exact TL.tl_num m
theorem txtNeg {m : Nat} (h : 0 < m) : Str.ofString (toString (-((m : Nat) : Int))) = T (45 :: TL.numL m) := by
  obtain ⟨k, rfl⟩ : ∃ k, m = k + 1 := ⟨m - 1, by omega⟩
  have e : toString (-(((k + 1 : Nat)) : Int)) = "-" ++ toString (((k + 1 : Nat)) : Int) := rfl
  have e2 : Str.ofString ("-" ++ toString (((k + 1 : Nat)) : Int)) = Str.ofString "-" ++ Str.ofString (toString (((k + 1 : Nat)) : Int)) := by
    rw [Str.ofString_eq_toList, Str.ofString_eq_toList, Str.ofString_eq_toList, String.toList_append, List.map_append]
    show _ = Str.mk (_ ++ _)
    simp
  rw [e, e2, txtN]
  have e3 : Str.ofString "-" = T [45] := by decide
  rw [e3, T_app]
  rfl
theorem numL_head (n : Nat) : 0 < n → (TL.numL n).head? ≠ some 48 := by
  induction n using Nat.strongRecOn with
  | _ n ih =>
    intro h
    by_cases h1 : n < 10
    · rw [TL.numL_lt h1]
      simp
      omega
    · rw [TL.numL_step (by omega)]
      have q := ih (n / 10) (by omega) (by omega)
      have ne := TL.numL_ne (n / 10)
      cases hh : TL.numL (n / 10) with
      | nil => exact (ne hh).elim
      | cons a l => rw [hh] at q; simpa using q
end Fw

namespace Fw
open PySem L2 PySem.Spec PyProof.Rows
/-! ## evaluation of the seventh part -/
section
variable {Γ : Gm}
@[simp] theorem mul2_ii (i j : Int) : dMul2 (.int i) (.int j) = dMul (.int i) (.int j) := rfl
@[simp] theorem mul2_s {z : Str} {k : Int} (h : 2 ≤ k ∧ k ≤ 1000 ∧ 1 ≤ z.length ∧ z.length ≤ 1000) : dMul2 (.str z) (.int k) = .ok (.fro (.str (sRep z k.toNat))) := by
  show (if 2 ≤ k ∧ k ≤ 1000 ∧ 1 ≤ z.length ∧ z.length ≤ 1000 then fr (.str (sRep z k.toNat)) else .no) = _
  rw [if_pos h]
  rfl
@[simp] theorem mul2_t {xs : List D} {k : Int} (h : 2 ≤ k ∧ k ≤ 1000 ∧ xs ≠ [] ∧ xs.length ≤ 1000) : dMul2 (.tuple xs) (.int k) = .ok (.fro (.tuple (List.replicate k.toNat xs).flatten)) := by
  show (if 2 ≤ k ∧ k ≤ 1000 ∧ xs ≠ [] ∧ xs.length ≤ 1000 then fr (.tuple (List.replicate k.toNat xs).flatten) else .no) = _
  rw [if_pos h]
  rfl
@[simp] theorem isNone_dict (x : List (D × D)) : isNone (.dict x) = false := rfl
@[simp] theorem isNone_bool (x : Bool) : isNone (.bool x) = false := rfl
@[simp] theorem int_i (i : Int) : dInt (.int i) = .ok (.fro (.int i)) := rfl
@[simp] theorem int_b (b : Bool) : dInt (.bool b) = .ok (.fro (.int (if b = true then 1 else 0))) := rfl
@[simp] theorem isB_b (a b : Bool) : dIsB (.bool a) (.bool b) = .ok (.fro (.bool (decide (a = b)))) := rfl
@[simp] theorem isNotB_b (a b : Bool) : dIsNotB (.bool a) (.bool b) = .ok (.fro (.bool !(decide (a = b)))) := rfl
@[simp] theorem eDct_eq (ks : List Key) (ms : AM) (Γ : Gm) : eDct ks ms Γ = (ms Γ).bind fun p => if p.1.length = ks.length then .ok (.own (.dct (putAll [] (ks.zip p.1))), p.2) else .no := rfl
@[simp] theorem dat_dct (kvs : List (Key × D)) : (R.own (.dct kvs)).dat = .dict (kvs.map pD) := rfl
@[simp] theorem toD_dct (kvs : List (Key × D)) : (Cell.dct kvs).toD = .dict (kvs.map pD) := rfl
theorem maxL_map (ns : List Int) (n : Int) : dMaxL (.list (.int n :: ns.map .int)) = .ok (.fro (.int (ns.foldl max n))) := by
  have e : intsOf (.int n :: ns.map .int) = some (n :: ns) := by
    have := intsOf_map' ns
    simp only [intsOf, this, Option.map_some]
  unfold dMaxL
  simp only [e]
  rfl
where
  intsOf_map' : ∀ ns : List Int, intsOf (ns.map .int) = some ns
    | [] => rfl
    | n :: ns => by simp only [List.map_cons, intsOf, intsOf_map' ns, Option.map_some]
theorem sRep_T (l : List Nat) (n : Nat) : sRep (T l) n = T (List.replicate n l).flatten := by
  have e : ∀ (n : Nat) (acc : Array Nat), ((List.replicate n l.toArray).foldl (· ++ ·) acc) = acc ++ ((List.replicate n l).flatten).toArray := by
    intro n
    induction n with
    | zero => intro acc; simp
    | succ n ih => intro acc; rw [List.replicate_succ, List.foldl_cons, ih, List.replicate_succ, List.flatten_cons]; simp
  unfold sRep
  rw [show (T l).cps = l.toArray from rfl, e]
  unfold T
  simp
end
end Fw

namespace Fw
open PySem L2 PySem.Spec PyProof.Rows
section
variable {Γ : Gm}
@[simp] theorem laNK_ow (i : Nat) (ms : LM) (Γ : Gm) (c : Cell) : laNK i ms Γ (some (.ow c)) = (ms Γ).bind fun p => .ok (.l i :: p.1, p.2) := rfl
@[simp] theorem laNK_io (i : Nat) (ms : LM) (Γ : Gm) (c : Cell) : laNK i ms Γ (some (.io c)) = (ms Γ).bind fun p => .ok (.l i :: p.1, p.2) := rfl
@[simp] theorem laNK_d (i : Nat) (ms : LM) (Γ : Gm) (d : D) : laNK i ms Γ (some (.d d)) = (ms Γ).bind fun p => .ok (.v d :: p.1, p.2) := rfl
@[simp] theorem laN_eq (i : Nat) (ms : LM) (Γ : Gm) : laN i ms Γ = laNK i ms Γ (gAt Γ i) := by
  unfold laN laNK
  rw [ownC_eq]
  cases h : gAt Γ i with
  | none => simp [cellS, h]; rfl
  | some sv => cases sv <;> simp [cellS, h]
               rfl
@[simp] theorem revL_l (xs : List D) : dRevL (.list xs) = .ok (.own (.lst xs.reverse)) := rfl
end
end Fw


namespace Fw
open PySem L2 PySem.Spec PyProof.Rows
@[simp] theorem eLstN_eq (i : Nat) (Γ : Gm) : eLstN i Γ = lstN i Γ (pkS (gAt Γ i)) := by rw [← gAt_eq]; rfl
@[simp] theorem lstN_l (i : Nat) (Γ : Gm) (xs : List D) : lstN i Γ (some (.list xs)) = .ok (.own (.lst xs), Γ) := rfl
@[simp] theorem lstN_t (i : Nat) (Γ : Gm) (xs : List D) : lstN i Γ (some (.tuple xs)) = .ok (.own (.lst xs), Γ) := rfl
@[simp] theorem eTupN_eq (i : Nat) (Γ : Gm) : eTupN i Γ = tupN i Γ (pkS (gAt Γ i)) := by rw [← gAt_eq]; rfl
@[simp] theorem tupN_l (i : Nat) (Γ : Gm) (xs : List D) : tupN i Γ (some (.list xs)) = .ok (.fro (.tuple xs), Γ) := rfl
@[simp] theorem tupN_t (i : Nat) (Γ : Gm) (xs : List D) : tupN i Γ (some (.tuple xs)) = .ok (.fro (.tuple xs), Γ) := rfl
@[simp] theorem outG_zero (g : Gm) : outG 0 g = [] := rfl
@[simp] theorem outG_succ (n : Nat) (x : SV) (g : Gm) : outG (n + 1) (x :: g) = keepIo x :: outG n g := rfl
@[simp] theorem keepIo_io (c : Cell) : keepIo (.io c) = .io c := rfl
@[simp] theorem keepIo_d (c : D) : keepIo (.d c) = .no := rfl
@[simp] theorem keepIo_ow (c : Cell) : keepIo (.ow c) = .no := rfl
@[simp] theorem keepIo_no : keepIo .no = .no := rfl
end Fw

namespace Fw
open PySem L2 PySem.Spec PyProof.Rows
/-! ## dicts of the module, by text keys -/
def lookT : List (Str × D) → Str → Option D
  | [], _ => none
  | p :: ps, z => if p.1 = z then some p.2 else lookT ps z
inductive KEs (K : PySem.W.Frag) : List DictEntry → List (Str × D) → Prop
  | nil : KEs K [] []
  | cons {h : Int} {t : Tok} {x : Str} {u : Value} {d : D} {es : List DictEntry} {ps : List (Str × D)} : KV K u d → KEs K es ps → KEs K (⟨h, .str x t, u⟩ :: es) ((x, d) :: ps)
theorem KEs.noref {K : PySem.W.Frag} {es : List DictEntry} {ps : List (Str × D)} (h : KEs K es ps) : es.any (·.refKey) = false := by
  induction h with
  | nil => rfl
  | cons a b ih => rw [List.any_cons, ih]; rfl
theorem KEs.find {K : PySem.W.Frag} {es : List DictEntry} {ps : List (Str × D)} (h : KEs K es ps) (z : Str) :
    (es.find? (·.key.isStr z) = none ∧ lookT ps z = none) ∨ ∃ e d, es.find? (·.key.isStr z) = some e ∧ lookT ps z = some d ∧ KV K e.val d := by
  induction h with
  | nil => exact .inl ⟨rfl, rfl⟩
  | @cons h t x u d es ps a b ih =>
    by_cases q : x = z
    · subst q
      refine .inr ⟨⟨h, .str x t, u⟩, d, ?_, by rw [lookT, if_pos rfl], a⟩
      rw [List.find?_cons_of_pos]
      exact (PySem.W.isStr_of x (.str x t)).trans (decide_eq_true rfl)
    · have e1 : (⟨h, .str x t, u⟩ :: es : List DictEntry).find? (·.key.isStr z) = es.find? (·.key.isStr z) := by
        refine List.find?_cons_of_neg ?_
        intro hh
        have := (PySem.W.isStr_of z (.str x t)).symm.trans hh
        exact q (of_decide_eq_true this)
      have e2 : lookT ((x, d) :: ps) z = lookT ps z := by rw [lookT, if_neg q]
      rw [e1, e2]
      exact ih
structure GK (K : PySem.W.Frag) (w : World) (mg : Str → Option Value) (x : Str) (ps : List (Str × D)) : Prop where
  ex : ∃ (a : Addr) (es : Array DictEntry) (n : Nat), mg x = some (.ref a) ∧ KDict K w a es n ∧ KEs K es.toList ps
theorem gk_mk {h : Heap} {K : PySem.W.Frag} {w : World} {mg : Str → Option Value} {x : Str} {a : Addr} {es : Array DictEntry} {n : Nat} {ps : List (Str × D)} (G : h.Ns mainGlobals mg) (X : K.In h) (e : PySem.W.nsIn K mainGlobals x = some (some (.ref a)))
    (l : K.lookup a = some ⟨.type "dict", none, .dict es n, #[]⟩) (hk : PySem.W.KeysLit w.params es.toList) (lo : (a == sysModules) = false) (k : KEs K es.toList ps) : GK K w mg x ps :=
  ⟨a, es, n, PySem.W.mg_of X G e, ⟨l, hk, lo⟩, k⟩
def eKGet (ps : List (Str × D)) (m : EM) : EM := opd m fun x Γ => match x with
  | .str z => .ok (.fro ((lookT ps z).getD .none), Γ)
  | _ => .no
section
variable {X : Cx} {E : XK}
theorem de_kget {x : Str} {ps : List (Str × D)} {e : Expr} {m : EM} {pos apos cpos : Pos} (hm : GK X.K X.w X.mg x ps) (he : DE X E e m) (hg : Gl X x := by rfl) (hd : (x == ("__debug__" : Str)) = false := by decide)
    (hM : M1 X (.Name x pos) "get" apos e cpos := by exact ⟨rfl, rfl, rfl, rfl⟩) :
    DE X E (.Call (.Attribute (.Name x pos) "get" apos) [e] [] cpos) (eKGet ps m) := by
  obtain ⟨a, es, n, hx, D, k⟩ := hm.ex
  obtain ⟨t, p, h⟩ := he
  have po : PE X (.Name x pos) (tC (.ref a)) := pe_glob hg hx rfl hd
  refine ⟨fun σ H Q => t σ H fun y H1 => ∃ (z : Str) (r : Option Value) (v : V), y = .str z ∧ PySem.W.nsIn X.K a z = some r ∧ RelV v (r.getD .none) ∧ Q v H1, ⟨fun pins s σ H Q I q => ?_⟩, ?_⟩
  · refine wpAny_Call_method hM.base hM.few hM.line PySem.F.plainAttrs_dict PySem.F.slot_dict_get PySem.F.type_dict_get (thn (po.run pins s σ H (fun v H1 => v = .ref a ∧ H1 = H) I ⟨rfl, rfl⟩) fun u s1 ⟨x1, H1, I1, rx, ex, eh⟩ => ?_)
    subst ex
    subst eh
    obtain rfl : u = Value.ref a := rx
    refine ⟨kd_type D I1, ?_, ?_⟩
    · intro b q
      cases q
      exact ⟨_, I1.kIn _ _ D.at_, rfl⟩
    rw [hM.trees]
    refine Calls.callWith_builtin rfl (Calls.evalArgs_plain (Calls.spliced_cons (thn (p.run pins s1 σ H1 _ I1 q) fun iv s2 ⟨y, H2, I2, ry, z, r, v, ey, en, rv, q2⟩ => Calls.spliced_nil ?_)))
    subst ey
    obtain ⟨tk, rfl⟩ := ry
    refine call_meetsIn PySem.F.slot_dict_get (kd_type D I2) PySem.F.entry_dict_get (PySem.F.args_dict_get_2 _ _) (meets_dict_get (strKind X.prog X.w) a (strKind_is X.prog X.w z tk) D.low) ⟨_, PySem.W.mapOf_K (prog := X.prog) I2.kIn D.at_ D.lit, ?_⟩
    rw [PySem.W.find_K D.at_ en]
    exact ⟨v, H2, I2.tok _, rv, q2⟩
  · intro B F H σ Γ Q r g
    refine h.opd r g ?_
    intro v d Γ1 F1 H1 r1 s1 rp g1
    cases d with
    | str z =>
      cases rp
      have nr := k.noref
      rcases k.find z with ⟨f1, f2⟩ | ⟨e, d, f1, f2, f3⟩
      · refine ⟨z, none, .non, rfl, ?_, rfl, ?_⟩
        · unfold PySem.W.nsIn
          rw [D.at_]
          simp [f1, nr]
        · dsimp only at g1
          rw [f2] at g1
          exact g1 _ _ _ r1 s1 .non
      · obtain ⟨v, rv, pv⟩ := f3.rp
        refine ⟨z, some e.val, v, rfl, ?_, rv, ?_⟩
        · unfold PySem.W.nsIn
          rw [D.at_]
          simp [f1]
        · dsimp only at g1
          rw [f2] at g1
          exact g1 _ _ _ r1 s1 (pv _)
    | _ => cases g1
end
end Fw

namespace Fw
open PySem L2 PySem.Spec PyProof.Rows
/-! ## evaluation -/
def getK (ps : List (Str × D)) (Γ : Gm) : D → Res (R × Gm)
  | .str z => .ok (.fro ((lookT ps z).getD .none), Γ)
  | _ => .no
@[simp] theorem getK_str (ps : List (Str × D)) (Γ : Gm) (z : Str) : getK ps Γ (.str z) = .ok (.fro ((lookT ps z).getD .none), Γ) := rfl
@[simp] theorem eKGet_eq (ps : List (Str × D)) (m : EM) (Γ : Gm) : eKGet ps m Γ = (m Γ).bind fun p => getK ps p.2 p.1.dat := by
  unfold eKGet
  rw [opd_eq]
  congr
@[simp] theorem lookT_nil (z : Str) : lookT [] z = none := rfl
@[simp] theorem lookT_cons (p : Str × D) (ps : List (Str × D)) (z : Str) : lookT (p :: ps) z = if p.1 = z then some p.2 else lookT ps z := rfl
end Fw

namespace Fw
open PySem L2 PySem.Spec PyProof.Rows
/-! ## zip of two lists -/
def zipD (xs ys : List D) : List D := List.zipWith (fun x y => PyData.tuple [x, y]) xs ys
def iZip2 (ms : AM) : IM := fun Γ => (ms Γ).bind fun p => match p.1 with
  | [.list xs, .list ys] => .ok (zipD xs ys, p.2)
  | _ => .no
section
variable {X : Cx} {E : XK} {K : PySem.W.Frag} {F : Hp}
theorem ItOk.zip {a b : Addr} {xs ys : List V} {ds es : List D} (h : SqL K F a xs) (r : RpAll K F xs ds) (h' : SqL K F b ys) (r' : RpAll K F ys es) : ItOk K (Itz K a b) F (zipD ds es) := by
  intro F2 H2 s1 s2 i
  have hl := s2.l (s1.l h)
  have hl' := s2.l (s1.l h')
  constructor
  · intro d e
    unfold zipD at e
    rw [List.getElem?_zipWith] at e
    cases q1 : ds[i]? with
    | none => rw [q1] at e; cases e
    | some d1 =>
      cases q2 : es[i]? with
      | none => rw [q1, q2] at e; cases e
      | some d2 =>
        rw [q1, q2] at e
        cases e
        obtain ⟨v1, h1, h2⟩ := r.get q1
        obtain ⟨v2, h3, h4⟩ := r'.get q2
        refine ⟨⟨xs, ys, v1, v2, hl, hl', h1, h3⟩, ?_⟩
        rintro x H3 ⟨T, x1, y1, rfl, hT, rfl, e4, e5⟩
        have e4 := e4 xs hl
        have e5 := e5 ys hl'
        rw [h1] at e4
        rw [h3] at e5
        cases e4
        cases e5
        have g := Grow.laid (o := .tup [v1, v2]) s2 hT
        exact ⟨_, g, .tup (SqT.of upd_same) (.cons ((h2.mono s1).mono g.ff) (.cons ((h4.mono s1).mono g.ff) .nil))⟩
  · intro hi
    refine ⟨xs, ys, hl, hl', ?_⟩
    unfold zipD at hi
    rw [List.length_zipWith] at hi
    rw [r.length, r'.length]
    omega
theorem di_zip {elts : List Expr} {kk : Nat} {tpos : Pos} {a b : Expr} {ms : AM} {p pos : Pos} (ha : DA X E [a, b] ms) (hm : X.mg "zip" = none) (hg : Gl X "zip" := by rfl)
    (hs : starEach [a, b] X.env = (false, eval a X.env) :: starEach [b] X.env := by rfl) (hpl : (backTo pos (starEach [b] X.env)).any (·.1) = false := by rfl) :
    DI X E (.Tuple elts kk tpos) (.Call (.Name "zip" p) [a, b] [] pos) (iZip2 ms) := by
  obtain ⟨t, pa, h⟩ := ha
  refine ⟨_, pi_zip hg hm pa hs hpl, ?_⟩
  intro B F H σ Γ Rk r g
  refine h.raw r g ?_
  intro vs ds Γ1 F1 H1 r1 s1 rps hl g1
  split at g1
  · rename_i xs ys e
    subst e
    cases rps with
    | cons q t =>
      cases t with
      | cons q2 t =>
        cases t
        obtain ⟨a, us, e1, h1, p1⟩ := q.lstv
        obtain ⟨b, ws, e2, h2, p2⟩ := q2.lstv
        subst e1 e2
        exact ⟨a, b, us, ws, rfl, r1.fh.l h1, r1.fh.l h2, g1 _ F1 H1 r1 s1 (.zip h1 p1 h2 p2)⟩
  · cases g1
end
/-! ## evaluation -/
def zipK (Γ : Gm) : List D → Res (List D × Gm)
  | [.list xs, .list ys] => .ok (zipD xs ys, Γ)
  | _ => .no
@[simp] theorem zipK_ll (Γ : Gm) (xs ys : List D) : zipK Γ [.list xs, .list ys] = .ok (zipD xs ys, Γ) := rfl
@[simp] theorem iZip2_eq (ms : AM) (Γ : Gm) : iZip2 ms Γ = (ms Γ).bind fun p => zipK p.2 p.1 := rfl
end Fw

namespace Fw
open PySem L2 PySem.Spec PyProof.Rows
theorem bNames_len {js : List Nat} : ∀ {ds : List D} {Γ : Gm} {kk kx}, (bNames js ds Γ).good kk kx → ds.length = js.length := by
  induction js with
  | nil => intro ds Γ kk kx z; cases ds with
    | nil => rfl
    | cons _ _ => cases z
  | cons j js ih => intro ds Γ kk kx z; cases ds with
    | nil => cases z
    | cons d ds => rw [List.length_cons, List.length_cons, ih z]
theorem dg_tup {X : Cx} {elts : List Expr} {kk : Nat} {tpos : Pos} {js : List Nat} (hg : DGs X elts js) (hc : X.calm = true) (hn : (assignEach elts X.env).length = js.length := by rfl) (hst : (assignEach elts X.env).findIdx? (·.1) = none := by rfl) :
    DG X (.Tuple elts kk tpos) js (bTup js) := by
  obtain ⟨gs, pg, hg⟩ := hg
  refine ⟨_, pg_tup hc pg hn hst, ?_⟩
  intro B F H σ Γ v d Q r rp g
  unfold bTup at g
  split at g
  · rename_i ds
    obtain ⟨a, xs, e1, h1, p1⟩ := rp.tupv
    subst e1
    exact ⟨a, xs, rfl, r.fh.t h1, by rw [p1.length, bNames_len g], hg B F H σ Γ xs ds _ r p1 g⟩
  · cases g
end Fw

namespace W
open PySem L2 Fw PySem.Spec PyProof.Rows
def top (i : Nat) : Stmt := PySem.Challenge.pw_redo_k74_at_odds.main.body.getD i (.Pass ⟨0, 0, 0, 0⟩)
abbrev s_next_step : Stmt := top 1
abbrev sc_next_step.N : List Str := ["line", "many"]
abbrev sc_next_step.P : List Str := ["line", "many"]
theorem sc_next_step : FnScope sc_next_step.N sc_next_step.P (defScope s_next_step) := ⟨rfl, rfl, rfl, by decide +kernel, rfl, by decide +kernel, by decide +kernel⟩
def b_next_step : SM :=
    (sSeq (sIf (tVal (eBinO dLt (oN 1) (oV (eCall (one dLen) (aCons (eIxN 0 (eC (.int 1))) aNil)))))
    (sRet (eTup (aCons (eC (.str "wants")) (aCons (eBin dIx2 (eBin dIx2 (eIxN 0 (eC (.int 1))) (eVar 1)) (eC (.int 0))) aNil))))
    sNx)
    (sRet (eIxN 0 (eC (.int 2)))))
def m_next_step : Fn := runFn 0 b_next_step
abbrev s_at_odds : Stmt := top 2
abbrev sc_at_odds.N : List Str := ["one", "other", "many"]
abbrev sc_at_odds.P : List Str := ["one", "other"]
theorem sc_at_odds : FnScope sc_at_odds.N sc_at_odds.P (defScope s_at_odds) := ⟨rfl, rfl, rfl, by decide +kernel, rfl, by decide +kernel, by decide +kernel⟩
def l_at_odds_0 : SM :=
    (sSet 2 (eBin dAdd (eVar 2) (eC (.int 1))))
def b_at_odds : SM :=
    (sSeq (sSet 2 (eC (.int 0)))
    (sSeq (sWhile 8 (tAndM (tVal (eBinO dLt (oN 2) (oV (eCall (one dLen) (aCons (eIxN 0 (eC (.int 1))) aNil))))) (tAndM (tVal (eBinO dLt (oN 2) (oV (eCall (one dLen) (aCons (eIxN 1 (eC (.int 1))) aNil))))) (tVal (eBin dEq (eBin dIx2 (eIxN 0 (eC (.int 1))) (eVar 2)) (eBin dIx2 (eIxN 1 (eC (.int 1))) (eVar 2))))))
    l_at_odds_0 [])
    (sRet (eBin dNe (eFn m_next_step (aCons (eVar 0) (aCons (eVar 2) aNil))) (eFn m_next_step (aCons (eVar 1) (aCons (eVar 2) aNil)))))))
def m_at_odds : Fn := runFn 1 b_at_odds
abbrev s_law_draw : Stmt := top 4
abbrev sc_law_draw.N : List Str := ["_law_script", "_law_k", "_law_many", "_law_cell", "_law_left", "_law_mixed"]
abbrev sc_law_draw.P : List Str := ["_law_script", "_law_k", "_law_many"]
theorem sc_law_draw : FnScope sc_law_draw.N sc_law_draw.P (defScope s_law_draw) := ⟨rfl, rfl, rfl, by decide +kernel, rfl, by decide +kernel, by decide +kernel⟩
def b_law_draw : SM :=
    (sSeq (sSet 3 (eC (.int 0)))
    (sSeq (sIf (tVal (eBin dGt (eUnO dLen (oN 0)) (eC (.int 0))))
    (sSeq (sSet 3 (eIxN 0 (eBin dMod (eVar 1) (eUnO dLen (oN 0)))))
    (sSeq (sSet 4 (eBin dShr (eVar 3) (eBin dMul2 (eC (.int 7)) (eCall (two dMin) (aCons (eC (.int 90)) (aCons (eBin dDiv (eVar 1) (eUnO dLen (oN 0))) aNil))))))
    (sIf (tAndM (tVal (eBinO dGe (oN 3) (oV (eBin dPow (eC (.int 10)) (eC (.int 18)))))) (tVal (eBinO dGt (oN 4) (oV (eC (.int 127))))))
    (sRet (eBin dMod (eVar 4) (eVar 2)))
    sNx)))
    sNx)
    (sSeq (sSet 5 (eBin dMod (eBin dMul2 (eBin dAdd (eBin dAdd (eBin dAdd (eBin dMod (eVar 3) (eC (.int 999999937))) (eBin dMul2 (eBin dMul2 (eC (.int 31)) (eVar 1)) (eVar 1))) (eBin dMul2 (eC (.int 7)) (eVar 1))) (eC (.int 1))) (eC (.int 48271))) (eC (.int 2147483647))))
    (sRet (eBin dMod (eBin dDiv (eBin dMod (eBin dMul2 (eBin dDiv (eVar 5) (eC (.int 7))) (eC (.int 69621))) (eC (.int 2147483629))) (eC (.int 5))) (eVar 2))))))
def m_law_draw : Fn := runFn 3 b_law_draw
abbrev s_law_stamp : Stmt := top 5
abbrev sc_law_stamp.N : List Str := ["_law_value_here", "_law_part"]
abbrev sc_law_stamp.P : List Str := ["_law_value_here"]
theorem sc_law_stamp : FnScope sc_law_stamp.N sc_law_stamp.P (defScope s_law_stamp) := ⟨rfl, rfl, rfl, by decide +kernel, rfl, by decide +kernel, by decide +kernel⟩
def m_law_stamp : Nat → Fn
  | 0 => fun _ => .no
  | n + 1 => runFn 1
    (sSeq (sIf (tVal (eUnO (dIsi "int") (oN 0)))
    (sRet (eUnO dStr (oN 0)))
    sNx)
    (sSeq (sIf (tVal (eUnO (dIsi "str") (oN 0)))
    (sRet (eBin dAdd (eC (.str "'")) (eVar 0)))
    sNx)
    (sRet (eBin dAdd (eBin dAdd (eC (.str "(")) (eMethS (two dJoin) (eC (.str ",")) (aCons (eLc (iAny (eVar 0)) (bName 1) tYesM (eFn (m_law_stamp n) (aCons (eVar 1) aNil)) [1]) aNil))) (eC (.str ")"))))))
abbrev s_law_names : Stmt := top 6
abbrev sc_law_names.N : List Str := ["_law_script", "_law_k", "_law_menu", "_law_first", "_law_step", "_law_j"]
abbrev sc_law_names.P : List Str := ["_law_script", "_law_k"]
theorem sc_law_names : FnScope sc_law_names.N sc_law_names.P (defScope s_law_names) := ⟨rfl, rfl, rfl, by decide +kernel, rfl, by decide +kernel, by decide +kernel⟩
def b_law_names : SM :=
    (sSeq (sSet 2 (eLst (aCons (eC (.str "a")) (aCons (eC (.str "ab")) (aCons (eC (.str "abc")) (aCons (eC (.str "b")) (aCons (eC (.str "told")) (aCons (eC (.str "made")) (aCons (eC (.str "say")) (aCons (eC (.str "want")) (aCons (eC (.str "wants")) (aCons (eC (.str "ba")) (aCons (eC (.str "zz")) (aCons (eC (.str "x")) aNil))))))))))))))
    (sSeq (sSet 3 (eFn m_law_draw (aCons (eVar 0) (aCons (eVar 1) (aCons (eC (.int 12)) aNil)))))
    (sSeq (sSet 4 (eBin dIx2 (eLst (aCons (eC (.int 1)) (aCons (eC (.int 5)) (aCons (eC (.int 7)) (aCons (eC (.int 11)) aNil))))) (eFn m_law_draw (aCons (eVar 0) (aCons (eBin dAdd (eVar 1) (eC (.int 1))) (aCons (eC (.int 4)) aNil))))))
    (sRet (eLc (iR1 (aCons (eBin dAdd (eC (.int 4)) (eFn m_law_draw (aCons (eVar 0) (aCons (eBin dAdd (eVar 1) (eC (.int 2))) (aCons (eC (.int 4)) aNil))))) aNil)) (bName 5) tYesM (eIxN 2 (eBin dMod (eBin dAdd (eVar 3) (eBin dMul2 (eVar 4) (eVar 5))) (eC (.int 12)))) [5])))))
def m_law_names : Fn := runFn 4 b_law_names
abbrev s_law_value : Stmt := top 7
abbrev sc_law_value.N : List Str := ["_law_script", "_law_k", "_law_names_here", "_law_some"]
abbrev sc_law_value.P : List Str := ["_law_script", "_law_k", "_law_names_here"]
theorem sc_law_value : FnScope sc_law_value.N sc_law_value.P (defScope s_law_value) := ⟨rfl, rfl, rfl, by decide +kernel, rfl, by decide +kernel, by decide +kernel⟩
def b_law_value : SM :=
    (sSeq (sSet 3 (eBin dAdd (eLst (aCons (eC (.int 0)) (aCons (eC (.int 1)) (aCons (eC (.int 2)) (aCons (eUn dNeg (eC (.int 3))) (aCons (eC (.str "")) (aCons (eC (.str "a")) (aCons (eC (.str "-0")) (aCons (eTup aNil) (aCons (eTup (aCons (eC (.int 1)) (aCons (eC (.str "b")) aNil))) (aCons (eTup (aCons (eC (.str "a")) (aCons (eTup (aCons (eC (.int 0)) aNil)) aNil))) (aCons (eBin dPow (eC (.int 10)) (eC (.int 18))) (aCons (eC (.int 1)) (aCons (eC (.int 0)) aNil)))))))))))))) (eVar 2)))
    (sRet (eIxN 3 (eFn m_law_draw (aCons (eVar 0) (aCons (eVar 1) (aCons (eUnO dLen (oN 3)) aNil)))))))
def m_law_value : Fn := runFn 1 b_law_value
abbrev s_law_expr : Stmt := top 8
abbrev sc_law_expr.N : List Str := ["_law_script", "_law_k", "_law_names_here", "_law_got", "_law_value_here", "_law_some"]
abbrev sc_law_expr.P : List Str := ["_law_script", "_law_k", "_law_names_here"]
theorem sc_law_expr : FnScope sc_law_expr.N sc_law_expr.P (defScope s_law_expr) := ⟨rfl, rfl, rfl, by decide +kernel, rfl, by decide +kernel, by decide +kernel⟩
def b_law_expr : SM :=
    (sSeq (sSet 3 (eTup (aCons (eC (.str "got")) (aCons (eC (.int 0)) aNil))))
    (sSeq (sSet 4 (eTup (aCons (eC (.str "put")) (aCons (eFn m_law_value (aCons (eVar 0) (aCons (eBin dAdd (eVar 1) (eC (.int 1))) (aCons (eVar 2) aNil)))) aNil))))
    (sSeq (sSet 5 (eLst (aCons (eVar 3) (aCons (eTup (aCons (eC (.str "sum")) (aCons (eVar 3) (aCons (eTup (aCons (eC (.str "put")) (aCons (eC (.int 1)) aNil))) aNil)))) (aCons (eTup (aCons (eC (.str "join")) (aCons (eVar 3) (aCons (eTup (aCons (eC (.str "put")) (aCons (eC (.str "a")) aNil))) aNil)))) (aCons (eTup (aCons (eC (.str "many")) (aCons (eVar 3) aNil))) (aCons (eTup (aCons (eC (.str "same")) (aCons (eVar 3) (aCons (eVar 4) aNil)))) aNil)))))))
    (sSeq (sSet 5 (eBin dAdd (eVar 5) (eLst (aCons (eTup (aCons (eC (.str "row")) (aCons (eTup (aCons (eVar 3) (aCons (eVar 4) aNil))) aNil))) (aCons (eTup (aCons (eC (.str "part")) (aCons (eVar 3) (aCons (eTup (aCons (eC (.str "put")) (aCons (eC (.int 0)) aNil))) aNil)))) (aCons (eTup (aCons (eC (.str "less")) (aCons (eVar 3) (aCons (eTup (aCons (eC (.str "put")) (aCons (eC (.int 1)) aNil))) aNil)))) (aCons (eTup (aCons (eC (.str "many")) (aCons (eVar 3) aNil))) (aCons (eVar 3) aNil))))))))
    (sRet (eIxN 5 (eFn m_law_draw (aCons (eVar 0) (aCons (eVar 1) (aCons (eC (.int 10)) aNil))))))))))
def m_law_expr : Fn := runFn 3 b_law_expr
abbrev s_law_recipe : Stmt := top 9
abbrev sc_law_recipe.N : List Str := ["_law_script", "_law_k", "_law_names_here", "_law_ways", "_law_one", "_law_other", "_law_say", "_law_expr_here", "_law_two", "_law_both", "_law_later", "_law_some"]
abbrev sc_law_recipe.P : List Str := ["_law_script", "_law_k", "_law_names_here", "_law_ways"]
theorem sc_law_recipe : FnScope sc_law_recipe.N sc_law_recipe.P (defScope s_law_recipe) := ⟨rfl, rfl, rfl, by decide +kernel, rfl, by decide +kernel, by decide +kernel⟩
def b_law_recipe : SM :=
    (sSeq (sSet 4 (eTup (aCons (eC (.str "put")) (aCons (eIxN 2 (eFn m_law_draw (aCons (eVar 0) (aCons (eVar 1) (aCons (eUnO dLen (oN 2)) aNil))))) aNil))))
    (sSeq (sSet 5 (eTup (aCons (eC (.str "put")) (aCons (eIxN 2 (eFn m_law_draw (aCons (eVar 0) (aCons (eBin dAdd (eVar 1) (eC (.int 1))) (aCons (eUnO dLen (oN 2)) aNil))))) aNil))))
    (sSeq (sSet 6 (eTup (aCons (eC (.str "say")) (aCons (eTup (aCons (eC (.str "put")) (aCons (eFn m_law_value (aCons (eVar 0) (aCons (eBin dAdd (eVar 1) (eC (.int 2))) (aCons (eVar 2) aNil)))) aNil))) aNil))))
    (sSeq (sSet 7 (eFn m_law_expr (aCons (eVar 0) (aCons (eBin dAdd (eVar 1) (eC (.int 3))) (aCons (eVar 2) aNil)))))
    (sSeq (sSet 8 (eLst (aCons (eTup (aCons (eC (.str "row")) (aCons (eTup (aCons (eTup (aCons (eC (.str "got")) (aCons (eC (.int 0)) aNil))) (aCons (eTup (aCons (eC (.str "got")) (aCons (eC (.int 1)) aNil))) aNil))) aNil))) (aCons (eTup (aCons (eC (.str "same")) (aCons (eTup (aCons (eC (.str "got")) (aCons (eC (.int 0)) aNil))) (aCons (eTup (aCons (eC (.str "got")) (aCons (eC (.int 1)) aNil))) aNil)))) (aCons (eTup (aCons (eC (.str "sum")) (aCons (eTup (aCons (eC (.str "got")) (aCons (eC (.int 1)) aNil))) (aCons (eTup (aCons (eC (.str "got")) (aCons (eC (.int 0)) aNil))) aNil)))) aNil)))))
    (sSeq (sSet 9 (eTup (aCons (eC (.str "say")) (aCons (eIxN 8 (eFn m_law_draw (aCons (eVar 0) (aCons (eBin dAdd (eVar 1) (eC (.int 5))) (aCons (eC (.int 3)) aNil))))) aNil))))
    (sSeq (sSet 10 (eTup (aCons (eC (.str "want")) (aCons (eVar 5) (aCons (eTup (aCons (eC (.str "say")) (aCons (eTup (aCons (eC (.str "got")) (aCons (eC (.int 1)) aNil))) aNil))) aNil)))))
    (sSeq (sSet 11 (eLst (aCons (eVar 6) (aCons (eTup (aCons (eC (.str "want")) (aCons (eVar 4) (aCons (eTup (aCons (eC (.str "say")) (aCons (eVar 7) aNil))) aNil)))) (aCons (eTup (aCons (eC (.str "want")) (aCons (eVar 4) (aCons (eTup (aCons (eC (.str "want")) (aCons (eVar 5) (aCons (eVar 9) aNil)))) aNil)))) (aCons (eTup (aCons (eC (.str "want")) (aCons (eVar 4) (aCons (eTup (aCons (eC (.str "say")) (aCons (eVar 7) aNil))) aNil)))) aNil))))))
    (sSeq (sSet 11 (eBin dAdd (eVar 11) (eLst (aCons (eTup (aCons (eC (.str "want")) (aCons (eVar 4) (aCons (eTup (aCons (eC (.str "when")) (aCons (eVar 7) (aCons (eVar 10) (aCons (eVar 6) aNil))))) aNil)))) (aCons (eTup (aCons (eC (.str "want")) (aCons (eVar 4) (aCons (eTup (aCons (eC (.str "want")) (aCons (eTup (aCons (eC (.str "got")) (aCons (eC (.int 0)) aNil))) (aCons (eTup (aCons (eC (.str "say")) (aCons (eTup (aCons (eC (.str "got")) (aCons (eC (.int 1)) aNil))) aNil))) aNil)))) aNil)))) aNil)))))
    (sSeq (sSet 11 (eBin dAdd (eVar 11) (eLst (aCons (eTup (aCons (eC (.str "fail")) (aCons (eIxN 2 (eFn m_law_draw (aCons (eVar 0) (aCons (eBin dAdd (eVar 1) (eC (.int 6))) (aCons (eUnO dLen (oN 2)) aNil))))) aNil))) (aCons (eTup (aCons (eC (.str "want")) (aCons (eVar 4) (aCons (eTup (aCons (eC (.str "want")) (aCons (eVar 4) (aCons (eVar 9) aNil)))) aNil)))) aNil)))))
    (sSeq (sSet 11 (eBin dAdd (eVar 11) (eLst (aCons (eTup (aCons (eC (.str "peek")) (aCons (eVar 4) (aCons (eTup (aCons (eC (.str "say")) (aCons (eVar 7) aNil))) aNil)))) (aCons (eTup (aCons (eC (.str "peek")) (aCons (eVar 4) (aCons (eTup (aCons (eC (.str "when")) (aCons (eVar 7) (aCons (eVar 10) (aCons (eVar 6) aNil))))) aNil)))) aNil)))))
    (sSeq (sSet 11 (eBin dAdd (eVar 11) (eLst (aCons (eTup (aCons (eC (.str "want")) (aCons (eVar 4) (aCons (eTup (aCons (eC (.str "peek")) (aCons (eVar 5) (aCons (eVar 9) aNil)))) aNil)))) (aCons (eTup (aCons (eC (.str "peek")) (aCons (eVar 4) (aCons (eTup (aCons (eC (.str "want")) (aCons (eVar 5) (aCons (eVar 9) aNil)))) aNil)))) aNil)))))
    (sRet (eIxN 11 (eFn m_law_draw (aCons (eVar 0) (aCons (eBin dAdd (eVar 1) (eC (.int 7))) (aCons (eVar 3) aNil))))))))))))))))))
def m_law_recipe : Fn := runFn 8 b_law_recipe
abbrev s_law_fits : Stmt := top 10
abbrev sc_law_fits.N : List Str := ["_law_value_here", "_law_deep", "_law_part"]
abbrev sc_law_fits.P : List Str := ["_law_value_here", "_law_deep"]
theorem sc_law_fits : FnScope sc_law_fits.N sc_law_fits.P (defScope s_law_fits) := ⟨rfl, rfl, rfl, by decide +kernel, rfl, by decide +kernel, by decide +kernel⟩
def m_law_fits : Nat → Fn
  | 0 => fun _ => .no
  | n + 1 => runFn 1
    (sSeq (sIf (tVal (eUnO (dIsi "tuple") (oN 0)))
    (sRet (eAnd (eBinO dLt (oN 1) (oV (eC (.int 4)))) (eAnd (eBin dLe (eUnO dLen (oN 0)) (eC (.int 8))) (eCall (one dAll) (aCons (eLc (iAny (eVar 0)) (bName 2) tYesM (eFn (m_law_fits n) (aCons (eVar 2) (aCons (eBin dAdd (eVar 1) (eC (.int 1))) aNil))) [2]) aNil)))))
    sNx)
    (sSeq (sIf (tVal (eUnO (dIsi "str") (oN 0)))
    (sRet (eBin dLe (eUnO dLen (oN 0)) (eC (.int 20))))
    sNx)
    (sRet (eChain dLe dLe (eUn dNeg (eBin dPow (eC (.int 10)) (eC (.int 18)))) (eVar 0) (eBin dPow (eC (.int 10)) (eC (.int 18)))))))
abbrev s_law_of_two : Stmt := top 11
abbrev sc_law_of_two.N : List Str := ["_law_word", "_law_one", "_law_other", "_law_kinds"]
abbrev sc_law_of_two.P : List Str := ["_law_word", "_law_one", "_law_other"]
theorem sc_law_of_two : FnScope sc_law_of_two.N sc_law_of_two.P (defScope s_law_of_two) := ⟨rfl, rfl, rfl, by decide +kernel, rfl, by decide +kernel, by decide +kernel⟩
def b_law_of_two : SM :=
    (sSeq (sSet 3 (eLst (aCons (eUnO (dIsi "int") (oN 1)) (aCons (eUnO (dIsi "int") (oN 2)) aNil))))
    (sSeq (sIf (tVal (eBinO dEq (oN 0) (oV (eC (.str "same")))))
    (sRet (eCall (one dInt) (aCons (eBin dEq (eFn (m_law_stamp 6) (aCons (eVar 1) aNil)) (eFn (m_law_stamp 6) (aCons (eVar 2) aNil))) aNil)))
    sNx)
    (sSeq (sIf (tVal (eBinO dEq (oN 0) (oV (eC (.str "part")))))
    (sSeq (sIf (tOrM (tNotM (tVal (eUnO (dIsi "tuple") (oN 1)))) (tNotM (tVal (eIxN 3 (eC (.int 1))))))
    (sRet (eC .none))
    sNx)
    (sRet (eIf (tVal (eChain dLe dLt (eC (.int 0)) (eVar 2) (eUnO dLen (oN 1)))) (eIxN 1 (eVar 2)) (eTup aNil))))
    sNx)
    (sSeq (sIf (tVal (eBinO dEq (oN 0) (oV (eC (.str "join")))))
    (sSeq (sIf (tOrM (tVal (eIxN 3 (eC (.int 0)))) (tOrM (tVal (eIxN 3 (eC (.int 1)))) (tVal (eBin dNe (eUnO (dIsi "str") (oN 1)) (eUnO (dIsi "str") (oN 2))))))
    (sRet (eC .none))
    sNx)
    (sRet (eBin dAdd (eVar 1) (eVar 2))))
    sNx)
    (sSeq (sIf (tVal (eBinO dNe (oN 3) (oV (eLst (aCons (eC (.bool true)) (aCons (eC (.bool true)) aNil))))))
    (sRet (eC .none))
    sNx)
    (sRet (eIf (tVal (eBinO dEq (oN 0) (oV (eC (.str "sum"))))) (eBin dAdd (eVar 1) (eVar 2)) (eCall (one dInt) (aCons (eBinO dLt (oN 1) (oN 2)) aNil)))))))))
def m_law_of_two : Fn := runFn 1 b_law_of_two
abbrev s_law_told : Stmt := top 12
abbrev sc_law_told.N : List Str := ["_law_expr_here", "_law_got", "_law_parts", "_law_part", "_law_values", "_law_found"]
abbrev sc_law_told.P : List Str := ["_law_expr_here", "_law_got"]
theorem sc_law_told : FnScope sc_law_told.N sc_law_told.P (defScope s_law_told) := ⟨rfl, rfl, rfl, by decide +kernel, rfl, by decide +kernel, by decide +kernel⟩
def l_law_told_0 : SM :=
    (sIf (tVal (eBin dEq (eIxN 3 (eC (.int 0))) (eC (.str "fails"))))
    (sRet (eMove 3))
    sNx)
def m_law_told : Nat → Fn
  | 0 => fun _ => .no
  | n + 1 => runFn 4
    (sSeq (sIf (tVal (eBin dEq (eIxN 0 (eC (.int 0))) (eC (.str "put"))))
    (sRet (eTup (aCons (eC (.str "value")) (aCons (eIxN 0 (eC (.int 1))) aNil))))
    sNx)
    (sSeq (sIf (tVal (eBin dEq (eIxN 0 (eC (.int 0))) (eC (.str "got"))))
    (sRet (eTup (aCons (eC (.str "value")) (aCons (eIxN 1 (eIxN 0 (eC (.int 1)))) aNil))))
    sNx)
    (sSeq (sSet 2 (eLc (iAny (eIf (tVal (eBin dEq (eIxN 0 (eC (.int 0))) (eC (.str "row")))) (eIxN 0 (eC (.int 1))) (eSlN 0 (pSome (eC (.int 1))) pNone))) (bName 3) tYesM (eFn (m_law_told n) (aCons (eVar 3) (aCons (eVar 1) aNil))) [3]))
    (sSeq (sFor (iAny (eVar 2)) (bName 3)
    l_law_told_0 [3])
    (sSeq (sSet 4 (eLc (iAny (eVar 2)) (bName 3) tYesM (eIxN 3 (eC (.int 1))) [3]))
    (sSeq (sIf (tVal (eBin dEq (eIxN 0 (eC (.int 0))) (eC (.str "row"))))
    (sRet (eIf (tVal (eFn (m_law_fits 8) (aCons (eCall (one dTuple) (aCons (eVar 4) aNil)) (aCons (eC (.int 0)) aNil)))) (eTup (aCons (eC (.str "value")) (aCons (eCall (one dTuple) (aCons (eVar 4) aNil)) aNil))) (eTup (aCons (eC (.str "fails")) (aCons (eC (.str "great")) aNil)))))
    sNx)
    (sSeq (sIf (tVal (eBin dEq (eIxN 0 (eC (.int 0))) (eC (.str "many"))))
    (sRet (eIf (tVal (eUn (dIsi "int") (eIxN 4 (eC (.int 0))))) (eTup (aCons (eC (.str "fails")) (aCons (eC (.str "kind")) aNil))) (eTup (aCons (eC (.str "value")) (aCons (eCall (one dLen) (aCons (eIxN 4 (eC (.int 0))) aNil)) aNil)))))
    sNx)
    (sSeq (sSet 5 (eFn m_law_of_two (aCons (eIxN 0 (eC (.int 0))) (aCons (eIxN 4 (eC (.int 0))) (aCons (eIxN 4 (eC (.int 1))) aNil)))))
    (sSeq (sIf (tVal (eBinO dIs (oN 5) (oV (eC .none))))
    (sRet (eTup (aCons (eC (.str "fails")) (aCons (eC (.str "kind")) aNil))))
    sNx)
    (sSeq (sIf (tAndM (tVal (eBin dEq (eIxN 0 (eC (.int 0))) (eC (.str "part")))) (tNotM (tVal (eChain dLe dLt (eC (.int 0)) (eIxN 4 (eC (.int 1))) (eCall (one dLen) (aCons (eIxN 4 (eC (.int 0))) aNil))))))
    (sRet (eTup (aCons (eC (.str "fails")) (aCons (eC (.str "part")) aNil))))
    sNx)
    (sRet (eIf (tVal (eFn (m_law_fits 8) (aCons (eVar 5) (aCons (eC (.int 0)) aNil)))) (eTup (aCons (eC (.str "value")) (aCons (eVar 5) aNil))) (eTup (aCons (eC (.str "fails")) (aCons (eC (.str "great")) aNil)))))))))))))))
abbrev s_law_is_name : Stmt := top 13
abbrev sc_law_is_name.N : List Str := ["_law_thing", "_law_sign"]
abbrev sc_law_is_name.P : List Str := ["_law_thing"]
theorem sc_law_is_name : FnScope sc_law_is_name.N sc_law_is_name.P (defScope s_law_is_name) := ⟨rfl, rfl, rfl, by decide +kernel, rfl, by decide +kernel, by decide +kernel⟩
def b_law_is_name : SM :=
    (sSeq (sIf (tOrM (tNotM (tVal (eUnO (dIsi "str") (oN 0)))) (tNotM (tVal (eChain dLe dLe (eC (.int 1)) (eUnO dLen (oN 0)) (eC (.int 8))))))
    (sRet (eC (.bool false)))
    sNx)
    (sRet (eCall (one dAll) (aCons (eLc (iAny (eVar 0)) (bName 1) tYesM (eBinO dIn (oN 1) (oV (eC (.str "abcdefghijklmnopqrstuvwxyz")))) [1]) aNil))))
def m_law_is_name : Fn := runFn 1 b_law_is_name
abbrev s_law_run : Stmt := top 14
abbrev sc_law_run.N : List Str := ["_law_recipe_here", "_law_good", "_law_got", "_law_reads", "_law_value_here"]
abbrev sc_law_run.P : List Str := ["_law_recipe_here", "_law_good"]
theorem sc_law_run : FnScope sc_law_run.N sc_law_run.P (defScope s_law_run) := ⟨rfl, rfl, rfl, by decide +kernel, rfl, by decide +kernel, by decide +kernel⟩
def l_law_run_0 : SM :=
    (sSeq (sSet 4 (eLoan [0, 2] (eFn (m_law_told 6) (aCons (eIxN 0 (eC (.int 1))) (aCons (eVar 2) aNil)))))
    (sSeq (sIf (tVal (eBin dEq (eIxN 4 (eC (.int 0))) (eC (.str "fails"))))
    (sRet (eTup (aCons (eCall (one dTuple) (aCons (eVar 3) aNil)) (aCons (eVar 4) (aCons (eC .none) aNil)))))
    sNx)
    (sIf (tVal (eBin dEq (eIxN 0 (eC (.int 0))) (eC (.str "when"))))
    (sSet 0 (eIf (tVal (eBin dIn (eIxN 4 (eC (.int 1))) (eTup (aCons (eC (.int 0)) (aCons (eC (.str "")) (aCons (eTup aNil) aNil)))))) (eIxN 0 (eC (.int 3))) (eIxN 0 (eC (.int 2)))))
    (sIf (tNotM (tVal (eFn m_law_is_name (aCons (eIxN 4 (eC (.int 1))) aNil))))
    (sRet (eTup (aCons (eCall (one dTuple) (aCons (eVar 3) aNil)) (aCons (eTup (aCons (eC (.str "fails")) (aCons (eC (.str "name")) aNil))) (aCons (eC .none) aNil)))))
    (sIf (tVal (eBinO dNotIn (oV (eIxN 4 (eC (.int 1)))) (oN 1)))
    (sRet (eTup (aCons (eCall (one dTuple) (aCons (eVar 3) aNil)) (aCons (eTup (aCons (eC (.str "wants")) (aCons (eIxN 4 (eC (.int 1))) aNil))) (aCons (eC .none) aNil)))))
    (sSeq (sDrop (eMut mAppend 2 (aCons (eIxN 1 (eIxN 4 (eC (.int 1)))) aNil)))
    (sSeq (sIf (tVal (eBin dEq (eIxN 0 (eC (.int 0))) (eC (.str "want"))))
    (sDrop (eMut mAppend 3 (aCons (eTup (aCons (eIxN 4 (eC (.int 1))) (aCons (eFn (m_law_stamp 6) (aCons (eIxN 2 (eUn dNeg (eC (.int 1)))) aNil)) aNil))) aNil)))
    sNx)
    (sSet 0 (eIxN 0 (eC (.int 2)))))))))))
def b_law_run : SM :=
    (sSeq (sSet 2 (eLst aNil))
    (sSeq (sSet 3 (eLst aNil))
    (sSeq (sWhile 8 (tVal (eBin dNotIn (eIxN 0 (eC (.int 0))) (eTup (aCons (eC (.str "say")) (aCons (eC (.str "fail")) aNil)))))
    l_law_run_0 [4])
    (sSeq (sSet 4 (eTup (aCons (eC (.str "fails")) (aCons (eIxN 0 (eC (.int 1))) aNil))))
    (sSeq (sIf (tVal (eBin dEq (eIxN 0 (eC (.int 0))) (eC (.str "say"))))
    (sSet 4 (eLoan [0, 2] (eFn (m_law_told 6) (aCons (eIxN 0 (eC (.int 1))) (aCons (eVar 2) aNil)))))
    sNx)
    (sSeq (sIf (tVal (eBin dEq (eIxN 4 (eC (.int 0))) (eC (.str "fails"))))
    (sRet (eTup (aCons (eCall (one dTuple) (aCons (eVar 3) aNil)) (aCons (eVar 4) (aCons (eC .none) aNil)))))
    sNx)
    (sRet (eTup (aCons (eCall (one dTuple) (aCons (eVar 3) aNil)) (aCons (eTup (aCons (eC (.str "made")) (aCons (eFn (m_law_stamp 6) (aCons (eIxN 4 (eC (.int 1))) aNil)) aNil))) (aCons (eIxN 4 (eC (.int 1))) aNil)))))))))))
def m_law_run : Fn := runFn 3 b_law_run
abbrev s_law_one_line : Stmt := top 15
abbrev sc_law_one_line.N : List Str := ["_law_script", "_law_k", "_law_reads", "_law_j", "_law_name", "_law_ends"]
abbrev sc_law_one_line.P : List Str := ["_law_script", "_law_k"]
theorem sc_law_one_line : FnScope sc_law_one_line.N sc_law_one_line.P (defScope s_law_one_line) := ⟨rfl, rfl, rfl, by decide +kernel, rfl, by decide +kernel, by decide +kernel⟩
def l_law_one_line_0 : SM :=
    (sSeq (sSet 4 (eBin dIx2 (eLst (aCons (eC (.str "a")) (aCons (eC (.str "a")) (aCons (eC (.str "ab")) (aCons (eC (.str "b")) aNil))))) (eFn m_law_draw (aCons (eVar 0) (aCons (eBin dAdd (eBin dAdd (eVar 1) (eC (.int 1))) (eBin dMul2 (eC (.int 2)) (eVar 3))) (aCons (eC (.int 4)) aNil))))))
    (sDrop (eMut mAppend 2 (aCons (eTup (aCons (eVar 4) (aCons (eBin dIx2 (eLst (aCons (eC (.str "1")) (aCons (eC (.str "'a")) (aCons (eC (.str "()")) aNil)))) (eFn m_law_draw (aCons (eVar 0) (aCons (eBin dAdd (eBin dAdd (eVar 1) (eC (.int 2))) (eBin dMul2 (eC (.int 2)) (eVar 3))) (aCons (eC (.int 3)) aNil))))) aNil))) aNil))))
def b_law_one_line : SM :=
    (sSeq (sSet 2 (eLst aNil))
    (sSeq (sFor (iR1 (aCons (eFn m_law_draw (aCons (eVar 0) (aCons (eVar 1) (aCons (eC (.int 4)) aNil)))) aNil)) (bName 3)
    l_law_one_line_0 [3, 4])
    (sSeq (sSet 5 (eLst (aCons (eTup (aCons (eC (.str "made")) (aCons (eC (.str "1")) aNil))) (aCons (eTup (aCons (eC (.str "made")) (aCons (eC (.str "'")) aNil))) (aCons (eTup (aCons (eC (.str "fails")) (aCons (eC (.str "a")) aNil))) (aCons (eTup (aCons (eC (.str "fails")) (aCons (eC (.str "ab")) aNil))) (aCons (eTup (aCons (eC (.str "wants")) (aCons (eC (.str "a")) aNil))) (aCons (eTup (aCons (eC (.str "wants")) (aCons (eC (.str "b")) aNil))) aNil))))))))
    (sSeq (sDrop (eMut mAppend 5 (aCons (eTup (aCons (eC (.str "wants")) (aCons (eC (.str "ab")) aNil))) aNil)))
    (sRet (eTup (aCons (eBin dIx2 (eLst (aCons (eC (.str "x")) (aCons (eC (.str "y")) (aCons (eC (.str "x")) aNil)))) (eFn m_law_draw (aCons (eVar 0) (aCons (eBin dAdd (eVar 1) (eC (.int 8))) (aCons (eC (.int 3)) aNil))))) (aCons (eCall (one dTuple) (aCons (eVar 2) aNil)) (aCons (eIxN 5 (eFn m_law_draw (aCons (eVar 0) (aCons (eBin dAdd (eVar 1) (eC (.int 9))) (aCons (eC (.int 7)) aNil))))) aNil)))))))))
def m_law_one_line : Fn := runFn 4 b_law_one_line
abbrev s_law_steps : Stmt := top 16
abbrev sc_law_steps.N : List Str := ["_law_line", "_law_steps_here", "_law_name", "_law_stamp_here"]
abbrev sc_law_steps.P : List Str := ["_law_line"]
theorem sc_law_steps : FnScope sc_law_steps.N sc_law_steps.P (defScope s_law_steps) := ⟨rfl, rfl, rfl, by decide +kernel, rfl, by decide +kernel, by decide +kernel⟩
def b_law_steps : SM :=
    (sSeq (sSet 1 (eLc (iAny (eIxN 0 (eC (.int 1)))) (bTup [2, 3]) tYesM (eTup (aCons (eTup (aCons (eC (.str "wants")) (aCons (eVar 2) aNil))) (aCons (eVar 3) aNil))) [2, 3]))
    (sRet (eBin dAdd (eVar 1) (eLst (aCons (eTup (aCons (eIxN 0 (eC (.int 2))) (aCons (eC .none) aNil))) aNil)))))
def m_law_steps : Fn := runFn 3 b_law_steps
abbrev s_law_odds : Stmt := top 17
abbrev sc_law_odds.N : List Str := ["_law_one", "_law_other", "_law_mine", "_law_its"]
abbrev sc_law_odds.P : List Str := ["_law_one", "_law_other"]
theorem sc_law_odds : FnScope sc_law_odds.N sc_law_odds.P (defScope s_law_odds) := ⟨rfl, rfl, rfl, by decide +kernel, rfl, by decide +kernel, by decide +kernel⟩
def l_law_odds_0 : SM :=
    (sSeq (sIf (tVal (eBin dNe (eIxN 2 (eC (.int 0))) (eIxN 3 (eC (.int 0)))))
    (sRet (eC (.bool true)))
    sNx)
    (sIf (tVal (eBin dNe (eIxN 2 (eC (.int 1))) (eIxN 3 (eC (.int 1)))))
    (sRet (eC (.bool false)))
    sNx))
def b_law_odds : SM :=
    (sSeq (sFor (iZip2 (aCons (eFn m_law_steps (aCons (eVar 0) aNil)) (aCons (eFn m_law_steps (aCons (eVar 1) aNil)) aNil))) (bTup [2, 3])
    l_law_odds_0 [2, 3])
    (sRet (eC (.bool false))))
def m_law_odds : Fn := runFn 2 b_law_odds
abbrev s_law_bent : Stmt := top 18
abbrev sc_law_bent.N : List Str := ["_law_script", "_law_k", "_law_line", "_law_name", "_law_reads", "_law_end", "_law_other", "_law_some"]
abbrev sc_law_bent.P : List Str := ["_law_script", "_law_k", "_law_line"]
theorem sc_law_bent : FnScope sc_law_bent.N sc_law_bent.P (defScope s_law_bent) := ⟨rfl, rfl, rfl, by decide +kernel, rfl, by decide +kernel, by decide +kernel⟩
def b_law_bent : SM :=
    (sSeq (sUnp [3, 4, 5] (eVar 2))
    (sSeq (sSet 6 (eFn m_law_one_line (aCons (eVar 0) (aCons (eBin dAdd (eVar 1) (eC (.int 1))) aNil))))
    (sSeq (sSet 7 (eLst (aCons (eVar 6) (aCons (eTup (aCons (eVar 3) (aCons (eVar 4) (aCons (eIxN 6 (eC (.int 2))) aNil)))) (aCons (eTup (aCons (eIxN 6 (eC (.int 0))) (aCons (eVar 4) (aCons (eVar 5) aNil)))) (aCons (eTup (aCons (eVar 3) (aCons (eSlN 4 pNone (pSome (eUn dNeg (eC (.int 1))))) (aCons (eVar 5) aNil)))) aNil))))))
    (sSeq (sSet 7 (eBin dAdd (eVar 7) (eLst (aCons (eTup (aCons (eVar 3) (aCons (eBin dAdd (eVar 4) (eSl (eIxN 6 (eC (.int 1))) pNone (pSome (eC (.int 1))))) (aCons (eVar 5) aNil)))) (aCons (eTup (aCons (eVar 3) (aCons (eBin dAdd (eSlN 4 pNone (pSome (eUn dNeg (eC (.int 1))))) (eSl (eIxN 6 (eC (.int 1))) pNone (pSome (eC (.int 1))))) (aCons (eVar 5) aNil)))) (aCons (eVar 6) aNil))))))
    (sSeq (sDrop (eMut mAppend 7 (aCons (eTup (aCons (eVar 3) (aCons (eVar 4) (aCons (eIxN 6 (eC (.int 2))) aNil)))) aNil)))
    (sRet (eIxN 7 (eFn m_law_draw (aCons (eVar 0) (aCons (eVar 1) (aCons (eC (.int 8)) aNil)))))))))))
def m_law_bent : Fn := runFn 5 b_law_bent
abbrev s_law_said : Stmt := top 19
abbrev sc_law_said.N : List Str := ["_law_one", "_law_other", "_law_due", "_law_found"]
abbrev sc_law_said.P : List Str := ["_law_one", "_law_other", "_law_due"]
theorem sc_law_said : FnScope sc_law_said.N sc_law_said.P (defScope s_law_said) := ⟨rfl, rfl, rfl, by decide +kernel, rfl, by decide +kernel, by decide +kernel⟩
def b_law_said : SM :=
    (sSeq (sSet 3 (eFn m_at_odds (aCons (eVar 0) (aCons (eVar 1) aNil))))
    (sRet (eAnd (eUnO (dIsi "bool") (oN 3)) (eBinO dEq (oN 3) (oN 2)))))
def m_law_said : Fn := runFn 1 b_law_said
abbrev s_law_pair_right : Stmt := top 20
abbrev sc_law_pair_right.N : List Str := ["_law_one", "_law_other", "_law_due"]
abbrev sc_law_pair_right.P : List Str := ["_law_one", "_law_other"]
theorem sc_law_pair_right : FnScope sc_law_pair_right.N sc_law_pair_right.P (defScope s_law_pair_right) := ⟨rfl, rfl, rfl, by decide +kernel, rfl, by decide +kernel, by decide +kernel⟩
def b_law_pair_right : SM :=
    (sSeq (sSet 2 (eFn m_law_odds (aCons (eVar 0) (aCons (eVar 1) aNil))))
    (sSeq (sIf (tOrM (tNotM (tVal (eFn m_law_said (aCons (eVar 0) (aCons (eVar 1) (aCons (eVar 2) aNil)))))) (tNotM (tVal (eFn m_law_said (aCons (eVar 1) (aCons (eVar 0) (aCons (eVar 2) aNil)))))))
    (sRet (eC (.bool false)))
    sNx)
    (sRet (eAnd (eFn m_law_said (aCons (eVar 0) (aCons (eVar 0) (aCons (eC (.bool false)) aNil)))) (eFn m_law_said (aCons (eVar 1) (aCons (eTup (aCons (eIxN 1 (eC (.int 0))) (aCons (eIxN 1 (eC (.int 1))) (aCons (eIxN 1 (eC (.int 2))) aNil)))) (aCons (eC (.bool false)) aNil))))))))
def m_law_pair_right : Fn := runFn 1 b_law_pair_right
abbrev s_law_good_by : Stmt := top 21
abbrev sc_law_good_by.N : List Str := ["_law_script", "_law_k", "_law_names_here", "_law_good", "_law_j"]
abbrev sc_law_good_by.P : List Str := ["_law_script", "_law_k", "_law_names_here"]
theorem sc_law_good_by : FnScope sc_law_good_by.N sc_law_good_by.P (defScope s_law_good_by) := ⟨rfl, rfl, rfl, by decide +kernel, rfl, by decide +kernel, by decide +kernel⟩
def l_law_good_by_0 : SM :=
    (sIf (tVal (eBin dGt (eFn m_law_draw (aCons (eVar 0) (aCons (eBin dAdd (eVar 1) (eBin dMul2 (eC (.int 2)) (eVar 4))) (aCons (eC (.int 4)) aNil)))) (eC (.int 0))))
    (sSetIx 3 (eIxN 2 (eVar 4)) (eFn m_law_value (aCons (eVar 0) (aCons (eBin dAdd (eBin dAdd (eVar 1) (eC (.int 1))) (eBin dMul2 (eC (.int 2)) (eVar 4))) (aCons (eVar 2) aNil)))))
    sNx)
def b_law_good_by : SM :=
    (sSeq (sSet 3 (fun Γ => .ok (.own (.dct []), Γ)))
    (sSeq (sFor (iR1 (aCons (eUnO dLen (oN 2)) aNil)) (bName 4)
    l_law_good_by_0 [4])
    (sRet (eMove 3))))
def m_law_good_by : Fn := runFn 2 b_law_good_by
abbrev s_law : Stmt := top 22
abbrev sc_law.N : List Str := ["_law_script", "_law_number", "_law_one", "_law_names_here", "_law_recipe_here", "_law_doings", "_law_k", "_law_other"]
abbrev sc_law.P : List Str := ["_law_script"]
theorem sc_law : FnScope sc_law.N sc_law.P (defScope s_law) := ⟨rfl, rfl, rfl, by decide +kernel, rfl, by decide +kernel, by decide +kernel⟩
def l_law_0 : SM :=
    (sSeq (sSet 2 (eFn m_law_one_line (aCons (eVar 0) (aCons (eBin dAdd (eC (.int 10)) (eBin dMul2 (eC (.int 30)) (eVar 1))) aNil))))
    (sIf (tNotM (tVal (eFn m_law_pair_right (aCons (eVar 2) (aCons (eFn m_law_bent (aCons (eVar 0) (aCons (eBin dAdd (eC (.int 20)) (eBin dMul2 (eC (.int 30)) (eVar 1))) (aCons (eVar 2) aNil)))) aNil)))))
    (sRet (eC (.bool false)))
    sNx))
def l_law_1 : SM :=
    (sDrop (eMut mAppend 5 (aCons (eBin dAdd (eTup (aCons (eC (.str "x")) aNil)) (eSl (eFn m_law_run (aCons (eVar 4) (aCons (eFn m_law_good_by (aCons (eVar 0) (aCons (eBin dAdd (eC (.int 330)) (eBin dMul2 (eC (.int 20)) (eVar 6))) (aCons (eVar 3) aNil)))) aNil))) pNone (pSome (eC (.int 2))))) aNil)))
def l_law_2 : SM :=
    (sIf (tOrM (tVal (eFn m_law_odds (aCons (eVar 2) (aCons (eVar 7) aNil)))) (tNotM (tVal (eFn m_law_said (aCons (eVar 2) (aCons (eVar 7) (aCons (eC (.bool false)) aNil)))))))
    (sRet (eC (.bool false)))
    sNx)
def l_law_3 : SM :=
    (sFor (iAny (eVar 5)) (bName 7)
    l_law_2 [7])
def b_law : SM :=
    (sSeq (sFor (iR1 (aCons (eBin dAdd (eC (.int 1)) (eFn m_law_draw (aCons (eVar 0) (aCons (eC (.int 0)) (aCons (eC (.int 8)) aNil))))) aNil)) (bName 1)
    l_law_0 [1, 2])
    (sSeq (sSet 3 (eFn m_law_names (aCons (eVar 0) (aCons (eC (.int 300)) aNil))))
    (sSeq (sSet 4 (eFn m_law_recipe (aCons (eVar 0) (aCons (eC (.int 310)) (aCons (eVar 3) (aCons (eC (.int 8)) aNil))))))
    (sSeq (sSet 5 (eLst aNil))
    (sSeq (sFor (iR1 (aCons (eC (.int 3)) aNil)) (bName 6)
    l_law_1 [6])
    (sSeq (sFor (iAny (eVar 5)) (bName 2)
    l_law_3 [2, 7])
    (sRet (eC (.bool true)))))))))
def m_law : Fn := runFn 7 b_law
@[simp] theorem lit_0 : (Str.ofString "").length = 0 := by decide
@[simp] theorem lit_1 : (Str.ofString "'").length = 1 := by decide
@[simp] theorem lit_2 : (Str.ofString "'a").length = 2 := by decide
@[simp] theorem lit_3 : (Str.ofString "(").length = 1 := by decide
@[simp] theorem lit_4 : (Str.ofString "()").length = 2 := by decide
@[simp] theorem lit_5 : (Str.ofString ")").length = 1 := by decide
@[simp] theorem lit_6 : (Str.ofString ",").length = 1 := by decide
@[simp] theorem lit_7 : (Str.ofString "-0").length = 2 := by decide
@[simp] theorem lit_8 : (Str.ofString "1").length = 1 := by decide
@[simp] theorem lit_9 : (Str.ofString "a").length = 1 := by decide
@[simp] theorem lit_10 : (Str.ofString "ab").length = 2 := by decide
@[simp] theorem lit_11 : (Str.ofString "abc").length = 3 := by decide
@[simp] theorem lit_12 : (Str.ofString "abcdefghijklmnopqrstuvwxyz").length = 26 := by decide
@[simp] theorem lit_13 : (Str.ofString "b").length = 1 := by decide
@[simp] theorem lit_14 : (Str.ofString "ba").length = 2 := by decide
@[simp] theorem lit_15 : (Str.ofString "fail").length = 4 := by decide
@[simp] theorem lit_16 : (Str.ofString "fails").length = 5 := by decide
@[simp] theorem lit_17 : (Str.ofString "got").length = 3 := by decide
@[simp] theorem lit_18 : (Str.ofString "great").length = 5 := by decide
@[simp] theorem lit_19 : (Str.ofString "join").length = 4 := by decide
@[simp] theorem lit_20 : (Str.ofString "kind").length = 4 := by decide
@[simp] theorem lit_21 : (Str.ofString "less").length = 4 := by decide
@[simp] theorem lit_22 : (Str.ofString "made").length = 4 := by decide
@[simp] theorem lit_23 : (Str.ofString "many").length = 4 := by decide
@[simp] theorem lit_24 : (Str.ofString "name").length = 4 := by decide
@[simp] theorem lit_25 : (Str.ofString "part").length = 4 := by decide
@[simp] theorem lit_26 : (Str.ofString "peek").length = 4 := by decide
@[simp] theorem lit_27 : (Str.ofString "put").length = 3 := by decide
@[simp] theorem lit_28 : (Str.ofString "row").length = 3 := by decide
@[simp] theorem lit_29 : (Str.ofString "same").length = 4 := by decide
@[simp] theorem lit_30 : (Str.ofString "say").length = 3 := by decide
@[simp] theorem lit_31 : (Str.ofString "sum").length = 3 := by decide
@[simp] theorem lit_32 : (Str.ofString "told").length = 4 := by decide
@[simp] theorem lit_33 : (Str.ofString "value").length = 5 := by decide
@[simp] theorem lit_34 : (Str.ofString "want").length = 4 := by decide
@[simp] theorem lit_35 : (Str.ofString "wants").length = 5 := by decide
@[simp] theorem lit_36 : (Str.ofString "when").length = 4 := by decide
@[simp] theorem lit_37 : (Str.ofString "x").length = 1 := by decide
@[simp] theorem lit_38 : (Str.ofString "y").length = 1 := by decide
@[simp] theorem lit_39 : (Str.ofString "zz").length = 2 := by decide
structure Tx (K : PySem.W.Frag) (mg : Str → Option Value) : Prop where
  z_all : mg "all" = none
  z_bool : mg "bool" = none
  z_int : mg "int" = none
  z_isinstance : mg "isinstance" = none
  z_len : mg "len" = none
  z_min : mg "min" = none
  z_range : mg "range" = none
  z_str : mg "str" = none
  z_tuple : mg "tuple" = none
  z_zip : mg "zip" = none
  h_next_step : Hd K mg "next_step" sc_next_step.P s_next_step
  h_at_odds : Hd K mg "at_odds" sc_at_odds.P s_at_odds
  h_law_draw : Hd K mg "_law_draw" sc_law_draw.P s_law_draw
  h_law_stamp : Hd K mg "_law_stamp" sc_law_stamp.P s_law_stamp
  h_law_names : Hd K mg "_law_names" sc_law_names.P s_law_names
  h_law_value : Hd K mg "_law_value" sc_law_value.P s_law_value
  h_law_expr : Hd K mg "_law_expr" sc_law_expr.P s_law_expr
  h_law_recipe : Hd K mg "_law_recipe" sc_law_recipe.P s_law_recipe
  h_law_fits : Hd K mg "_law_fits" sc_law_fits.P s_law_fits
  h_law_of_two : Hd K mg "_law_of_two" sc_law_of_two.P s_law_of_two
  h_law_told : Hd K mg "_law_told" sc_law_told.P s_law_told
  h_law_is_name : Hd K mg "_law_is_name" sc_law_is_name.P s_law_is_name
  h_law_run : Hd K mg "_law_run" sc_law_run.P s_law_run
  h_law_one_line : Hd K mg "_law_one_line" sc_law_one_line.P s_law_one_line
  h_law_steps : Hd K mg "_law_steps" sc_law_steps.P s_law_steps
  h_law_odds : Hd K mg "_law_odds" sc_law_odds.P s_law_odds
  h_law_bent : Hd K mg "_law_bent" sc_law_bent.P s_law_bent
  h_law_said : Hd K mg "_law_said" sc_law_said.P s_law_said
  h_law_pair_right : Hd K mg "_law_pair_right" sc_law_pair_right.P s_law_pair_right
  h_law_good_by : Hd K mg "_law_good_by" sc_law_good_by.P s_law_good_by
  h_law : Hd K mg "law" sc_law.P s_law
section
variable {P : Program} {w : World} {K : PySem.W.Frag} {mg : Str → Option Value}
theorem ok_next_step (T : Tx K mg) : GF P w K mg 1 "next_step" sc_next_step.P m_next_step := by
  delta m_next_step b_next_step
  exact GF.def0 T.h_next_step sc_next_step rfl (fun base f cdv A outer s H E hg hr =>
      (dss_cons (ds_if (dt_cmpO op_ltD bo_lt (dp_n 1) (dp_v (de_callB call_lenD' (da_cons (de_ixN 0 hr de_int) da_nil) T.z_len bt_len)))
      (dss_one (ds_ret (de_tup (da_cons de_str (da_cons (de_ixG hr (de_ixG hr (de_ixN 0 hr de_int) (de_var 1)) de_int) da_nil)))))
      dss_nil)
      (dss_one (ds_ret (de_ixN 0 hr de_int)))))
theorem ok_at_odds (T : Tx K mg) : GF P w K mg 2 "at_odds" sc_at_odds.P m_at_odds := by
  delta m_at_odds b_at_odds l_at_odds_0
  exact GF.def0 T.h_at_odds sc_at_odds rfl (fun base f cdv A outer s H E hg hr =>
      (dss_cons (ds_set (i := 2) de_int sc_at_odds.nd)
      (dss_cons (ds_while 8 [] (dt_w (dw_and (dt_cmpO op_ltD bo_lt (dp_n 2) (dp_v (de_callB call_lenD' (da_cons (de_ixN 0 hr de_int) da_nil) T.z_len bt_len))) (dw_and (dt_cmpO op_ltD bo_lt (dp_n 2) (dp_v (de_callB call_lenD' (da_cons (de_ixN 1 hr de_int) da_nil) T.z_len bt_len))) (dw_and1 (dt_cmp (op_eqDD hr) bo_eq (de_ixG hr (de_ixN 0 hr de_int) (de_var 2)) (de_ixG hr (de_ixN 1 hr de_int) (de_var 2)))))))
      (dss_one (ds_set (i := 2) (de_bin op_addD (de_var 2) de_int) sc_at_odds.nd)) PassesOwn.never)
      (dss_one (ds_ret (de_cmp (op_neDD hr) (de_f (ok_next_step T) (da_cons (de_var 0) (da_cons (de_var 2) da_nil)) hg (hr.mono (by decide))) (de_f (ok_next_step T) (da_cons (de_var 1) (da_cons (de_var 2) da_nil)) hg (hr.mono (by decide)))))))))
theorem ok_law_draw (T : Tx K mg) : GF P w K mg 1 "_law_draw" sc_law_draw.P m_law_draw := by
  delta m_law_draw b_law_draw
  exact GF.def0 T.h_law_draw sc_law_draw rfl (fun base f cdv A outer s H E hg hr =>
      (dss_cons (ds_set (i := 3) de_int sc_law_draw.nd)
      (dss_cons (ds_if (dt_cmp op_gtD bo_gt (de_callB1 call_lenD' (dp_n 0) T.z_len bt_len) de_int)
      (dss_cons (ds_set (i := 3) (de_ixN 0 hr (de_bin op_modD (de_var 1) (de_callB1 call_lenD' (dp_n 0) T.z_len bt_len))) sc_law_draw.nd)
      (dss_cons (ds_set (i := 4) (de_bin op_shrD (de_var 3) (de_bin op_mulD2 de_int (de_callB (call_minD rfl) (da_cons de_int (da_cons (de_bin op_divD (de_var 1) (de_callB1 call_lenD' (dp_n 0) T.z_len bt_len)) da_nil)) T.z_min bt_min))) sc_law_draw.nd)
      (dss_one (ds_if (dt_w (dw_and (dt_cmpO op_geD bo_ge (dp_n 3) (dp_v (de_bin op_powD de_int de_int))) (dw_and1 (dt_cmpO op_gtD bo_gt (dp_n 4) (dp_v de_int)))))
      (dss_one (ds_ret (de_bin op_modD (de_var 4) (de_var 2))))
      dss_nil))))
      dss_nil)
      (dss_cons (ds_set (i := 5) (de_bin op_modD (de_bin op_mulD2 (de_bin op_addD (de_bin op_addD (de_bin op_addD (de_bin op_modD (de_var 3) de_int) (de_bin op_mulD2 (de_bin op_mulD2 de_int (de_var 1)) (de_var 1))) (de_bin op_mulD2 de_int (de_var 1))) de_int) de_int) de_int) sc_law_draw.nd)
      (dss_one (ds_ret (de_bin op_modD (de_bin op_divD (de_bin op_modD (de_bin op_mulD2 (de_bin op_divD (de_var 5) de_int) de_int) de_int) de_int) (de_var 2))))))))
theorem okr_law_stamp (T : Tx K mg) (n : Nat) : GF P w K mg (0 + n) "_law_stamp" sc_law_stamp.P (m_law_stamp n) := by
  induction n with
  | zero => exact GF.zero T.h_law_stamp
  | succ n ih =>
    have ih_law_stamp := ih
    exact GF.def0 T.h_law_stamp sc_law_stamp rfl (fun base f cdv A outer s H E hg hr =>
      (dss_cons (ds_if (dt_val (de_isiO "int" (dp_n 0) T.z_isinstance bt_isinstance T.z_int bt_int) (fun _ => rfl))
      (dss_one (ds_ret (de_callTy1 call_strD (dp_n 0) T.z_str bt_str)))
      dss_nil)
      (dss_cons (ds_if (dt_val (de_isiO "str" (dp_n 0) T.z_isinstance bt_isinstance T.z_str bt_str) (fun _ => rfl))
      (dss_one (ds_ret (de_bin op_addD de_str (de_var 0))))
      dss_nil)
      (dss_one (ds_ret (de_bin op_addD (de_bin op_addD de_str (de_ms PySem.F.slot_str_join PySem.F.type_str_join mt_joinD de_str (da_cons (de_lc (own := [("_law_part", 1)]) (di_any (de_var 0)) rfl sc_law_stamp.nd (blkOk_by (N := sc_law_stamp.N) (sc := defScope s_law_stamp) (by decide +kernel)) (fun _ _ _ _ _ => (dg_name (i := 1) sc_law_stamp.nd rfl (by first | exact Or.inl rfl | exact Or.inr rfl))) (fun _ _ _ _ _ => dts_nil) (fun _ _ _ _ _ => (de_f ih_law_stamp (da_cons (de_var 1) da_nil) hg (hr.mono (Nat.le_refl _)))) (by decide)) da_nil))) de_str))))))
theorem ok_law_stamp (T : Tx K mg) (n : Nat) : GF P w K mg (0 + n) "_law_stamp" sc_law_stamp.P (m_law_stamp n) := (okr_law_stamp T n)
theorem ok_law_names (T : Tx K mg) : GF P w K mg 2 "_law_names" sc_law_names.P m_law_names := by
  delta m_law_names b_law_names
  exact GF.def0 T.h_law_names sc_law_names rfl (fun base f cdv A outer s H E hg hr =>
      (dss_cons (ds_set (i := 2) (de_lst (da_cons de_str (da_cons de_str (da_cons de_str (da_cons de_str (da_cons de_str (da_cons de_str (da_cons de_str (da_cons de_str (da_cons de_str (da_cons de_str (da_cons de_str (da_cons de_str da_nil))))))))))))) sc_law_names.nd)
      (dss_cons (ds_set (i := 3) (de_f (ok_law_draw T) (da_cons (de_var 0) (da_cons (de_var 1) (da_cons de_int da_nil))) hg (hr.mono (by decide))) sc_law_names.nd)
      (dss_cons (ds_set (i := 4) (de_ixG hr (de_lst (da_cons de_int (da_cons de_int (da_cons de_int (da_cons de_int da_nil))))) (de_f (ok_law_draw T) (da_cons (de_var 0) (da_cons (de_bin op_addD (de_var 1) de_int) (da_cons de_int da_nil))) hg (hr.mono (by decide)))) sc_law_names.nd)
      (dss_one (ds_ret (de_lc (own := [("_law_j", 5)]) (di_r1 (da_cons (de_bin op_addD de_int (de_f (ok_law_draw T) (da_cons (de_var 0) (da_cons (de_bin op_addD (de_var 1) de_int) (da_cons de_int da_nil))) hg (hr.mono (by decide)))) da_nil) T.z_range) rfl sc_law_names.nd (blkOk_by (N := sc_law_names.N) (sc := defScope s_law_names) (by decide +kernel)) (fun _ _ _ _ _ => (dg_name (i := 5) sc_law_names.nd rfl (by first | exact Or.inl rfl | exact Or.inr rfl))) (fun _ _ _ _ _ => dts_nil) (fun _ _ _ _ _ => (de_ixN 2 hr (de_bin op_modD (de_bin op_addD (de_var 3) (de_bin op_mulD2 (de_var 4) (de_var 5))) de_int))) (by decide))))))))
theorem ok_law_value (T : Tx K mg) : GF P w K mg 2 "_law_value" sc_law_value.P m_law_value := by
  delta m_law_value b_law_value
  exact GF.def0 T.h_law_value sc_law_value rfl (fun base f cdv A outer s H E hg hr =>
      (dss_cons (ds_set (i := 3) (de_bin op_addD (de_lst (da_cons de_int (da_cons de_int (da_cons de_int (da_cons (de_un un_negD de_int) (da_cons de_str (da_cons de_str (da_cons de_str (da_cons (de_tup da_nil) (da_cons (de_tup (da_cons de_int (da_cons de_str da_nil))) (da_cons (de_tup (da_cons de_str (da_cons (de_tup (da_cons de_int da_nil)) da_nil))) (da_cons (de_bin op_powD de_int de_int) (da_cons de_int (da_cons de_int da_nil)))))))))))))) (de_var 2)) sc_law_value.nd)
      (dss_one (ds_ret (de_ixN 3 hr (de_f (ok_law_draw T) (da_cons (de_var 0) (da_cons (de_var 1) (da_cons (de_callB1 call_lenD' (dp_n 3) T.z_len bt_len) da_nil))) hg (hr.mono (by decide))))))))
theorem ok_law_expr (T : Tx K mg) : GF P w K mg 3 "_law_expr" sc_law_expr.P m_law_expr := by
  delta m_law_expr b_law_expr
  exact GF.def0 T.h_law_expr sc_law_expr rfl (fun base f cdv A outer s H E hg hr =>
      (dss_cons (ds_set (i := 3) (de_tup (da_cons de_str (da_cons de_int da_nil))) sc_law_expr.nd)
      (dss_cons (ds_set (i := 4) (de_tup (da_cons de_str (da_cons (de_f (ok_law_value T) (da_cons (de_var 0) (da_cons (de_bin op_addD (de_var 1) de_int) (da_cons (de_var 2) da_nil))) hg (hr.mono (by decide))) da_nil))) sc_law_expr.nd)
      (dss_cons (ds_set (i := 5) (de_lst (da_cons (de_var 3) (da_cons (de_tup (da_cons de_str (da_cons (de_var 3) (da_cons (de_tup (da_cons de_str (da_cons de_int da_nil))) da_nil)))) (da_cons (de_tup (da_cons de_str (da_cons (de_var 3) (da_cons (de_tup (da_cons de_str (da_cons de_str da_nil))) da_nil)))) (da_cons (de_tup (da_cons de_str (da_cons (de_var 3) da_nil))) (da_cons (de_tup (da_cons de_str (da_cons (de_var 3) (da_cons (de_var 4) da_nil)))) da_nil)))))) sc_law_expr.nd)
      (dss_cons (ds_set (i := 5) (de_bin op_addD (de_var 5) (de_lst (da_cons (de_tup (da_cons de_str (da_cons (de_tup (da_cons (de_var 3) (da_cons (de_var 4) da_nil))) da_nil))) (da_cons (de_tup (da_cons de_str (da_cons (de_var 3) (da_cons (de_tup (da_cons de_str (da_cons de_int da_nil))) da_nil)))) (da_cons (de_tup (da_cons de_str (da_cons (de_var 3) (da_cons (de_tup (da_cons de_str (da_cons de_int da_nil))) da_nil)))) (da_cons (de_tup (da_cons de_str (da_cons (de_var 3) da_nil))) (da_cons (de_var 3) da_nil))))))) sc_law_expr.nd)
      (dss_one (ds_ret (de_ixN 5 hr (de_f (ok_law_draw T) (da_cons (de_var 0) (da_cons (de_var 1) (da_cons de_int da_nil))) hg (hr.mono (by decide)))))))))))
theorem ok_law_recipe (T : Tx K mg) : GF P w K mg 4 "_law_recipe" sc_law_recipe.P m_law_recipe := by
  delta m_law_recipe b_law_recipe
  exact GF.def0 T.h_law_recipe sc_law_recipe rfl (fun base f cdv A outer s H E hg hr =>
      (dss_cons (ds_set (i := 4) (de_tup (da_cons de_str (da_cons (de_ixN 2 hr (de_f (ok_law_draw T) (da_cons (de_var 0) (da_cons (de_var 1) (da_cons (de_callB1 call_lenD' (dp_n 2) T.z_len bt_len) da_nil))) hg (hr.mono (by decide)))) da_nil))) sc_law_recipe.nd)
      (dss_cons (ds_set (i := 5) (de_tup (da_cons de_str (da_cons (de_ixN 2 hr (de_f (ok_law_draw T) (da_cons (de_var 0) (da_cons (de_bin op_addD (de_var 1) de_int) (da_cons (de_callB1 call_lenD' (dp_n 2) T.z_len bt_len) da_nil))) hg (hr.mono (by decide)))) da_nil))) sc_law_recipe.nd)
      (dss_cons (ds_set (i := 6) (de_tup (da_cons de_str (da_cons (de_tup (da_cons de_str (da_cons (de_f (ok_law_value T) (da_cons (de_var 0) (da_cons (de_bin op_addD (de_var 1) de_int) (da_cons (de_var 2) da_nil))) hg (hr.mono (by decide))) da_nil))) da_nil))) sc_law_recipe.nd)
      (dss_cons (ds_set (i := 7) (de_f (ok_law_expr T) (da_cons (de_var 0) (da_cons (de_bin op_addD (de_var 1) de_int) (da_cons (de_var 2) da_nil))) hg (hr.mono (by decide))) sc_law_recipe.nd)
      (dss_cons (ds_set (i := 8) (de_lst (da_cons (de_tup (da_cons de_str (da_cons (de_tup (da_cons (de_tup (da_cons de_str (da_cons de_int da_nil))) (da_cons (de_tup (da_cons de_str (da_cons de_int da_nil))) da_nil))) da_nil))) (da_cons (de_tup (da_cons de_str (da_cons (de_tup (da_cons de_str (da_cons de_int da_nil))) (da_cons (de_tup (da_cons de_str (da_cons de_int da_nil))) da_nil)))) (da_cons (de_tup (da_cons de_str (da_cons (de_tup (da_cons de_str (da_cons de_int da_nil))) (da_cons (de_tup (da_cons de_str (da_cons de_int da_nil))) da_nil)))) da_nil)))) sc_law_recipe.nd)
      (dss_cons (ds_set (i := 9) (de_tup (da_cons de_str (da_cons (de_ixN 8 hr (de_f (ok_law_draw T) (da_cons (de_var 0) (da_cons (de_bin op_addD (de_var 1) de_int) (da_cons de_int da_nil))) hg (hr.mono (by decide)))) da_nil))) sc_law_recipe.nd)
      (dss_cons (ds_set (i := 10) (de_tup (da_cons de_str (da_cons (de_var 5) (da_cons (de_tup (da_cons de_str (da_cons (de_tup (da_cons de_str (da_cons de_int da_nil))) da_nil))) da_nil)))) sc_law_recipe.nd)
      (dss_cons (ds_set (i := 11) (de_lst (da_cons (de_var 6) (da_cons (de_tup (da_cons de_str (da_cons (de_var 4) (da_cons (de_tup (da_cons de_str (da_cons (de_var 7) da_nil))) da_nil)))) (da_cons (de_tup (da_cons de_str (da_cons (de_var 4) (da_cons (de_tup (da_cons de_str (da_cons (de_var 5) (da_cons (de_var 9) da_nil)))) da_nil)))) (da_cons (de_tup (da_cons de_str (da_cons (de_var 4) (da_cons (de_tup (da_cons de_str (da_cons (de_var 7) da_nil))) da_nil)))) da_nil))))) sc_law_recipe.nd)
      (dss_cons (ds_set (i := 11) (de_bin op_addD (de_var 11) (de_lst (da_cons (de_tup (da_cons de_str (da_cons (de_var 4) (da_cons (de_tup (da_cons de_str (da_cons (de_var 7) (da_cons (de_var 10) (da_cons (de_var 6) da_nil))))) da_nil)))) (da_cons (de_tup (da_cons de_str (da_cons (de_var 4) (da_cons (de_tup (da_cons de_str (da_cons (de_tup (da_cons de_str (da_cons de_int da_nil))) (da_cons (de_tup (da_cons de_str (da_cons (de_tup (da_cons de_str (da_cons de_int da_nil))) da_nil))) da_nil)))) da_nil)))) da_nil)))) sc_law_recipe.nd)
      (dss_cons (ds_set (i := 11) (de_bin op_addD (de_var 11) (de_lst (da_cons (de_tup (da_cons de_str (da_cons (de_ixN 2 hr (de_f (ok_law_draw T) (da_cons (de_var 0) (da_cons (de_bin op_addD (de_var 1) de_int) (da_cons (de_callB1 call_lenD' (dp_n 2) T.z_len bt_len) da_nil))) hg (hr.mono (by decide)))) da_nil))) (da_cons (de_tup (da_cons de_str (da_cons (de_var 4) (da_cons (de_tup (da_cons de_str (da_cons (de_var 4) (da_cons (de_var 9) da_nil)))) da_nil)))) da_nil)))) sc_law_recipe.nd)
      (dss_cons (ds_set (i := 11) (de_bin op_addD (de_var 11) (de_lst (da_cons (de_tup (da_cons de_str (da_cons (de_var 4) (da_cons (de_tup (da_cons de_str (da_cons (de_var 7) da_nil))) da_nil)))) (da_cons (de_tup (da_cons de_str (da_cons (de_var 4) (da_cons (de_tup (da_cons de_str (da_cons (de_var 7) (da_cons (de_var 10) (da_cons (de_var 6) da_nil))))) da_nil)))) da_nil)))) sc_law_recipe.nd)
      (dss_cons (ds_set (i := 11) (de_bin op_addD (de_var 11) (de_lst (da_cons (de_tup (da_cons de_str (da_cons (de_var 4) (da_cons (de_tup (da_cons de_str (da_cons (de_var 5) (da_cons (de_var 9) da_nil)))) da_nil)))) (da_cons (de_tup (da_cons de_str (da_cons (de_var 4) (da_cons (de_tup (da_cons de_str (da_cons (de_var 5) (da_cons (de_var 9) da_nil)))) da_nil)))) da_nil)))) sc_law_recipe.nd)
      (dss_one (ds_ret (de_ixN 11 hr (de_f (ok_law_draw T) (da_cons (de_var 0) (da_cons (de_bin op_addD (de_var 1) de_int) (da_cons (de_var 3) da_nil))) hg (hr.mono (by decide)))))))))))))))))))
theorem okr_law_fits (T : Tx K mg) (n : Nat) : GF P w K mg (0 + n) "_law_fits" sc_law_fits.P (m_law_fits n) := by
  induction n with
  | zero => exact GF.zero T.h_law_fits
  | succ n ih =>
    have ih_law_fits := ih
    exact GF.def0 T.h_law_fits sc_law_fits rfl (fun base f cdv A outer s H E hg hr =>
      (dss_cons (ds_if (dt_val (de_isiO "tuple" (dp_n 0) T.z_isinstance bt_isinstance T.z_tuple bt_tuple) (fun _ => rfl))
      (dss_one (ds_ret (de_and (de_cmpO op_ltD (dp_n 1) (dp_v de_int)) (de_and (de_cmp op_leD (de_callB1 call_lenD' (dp_n 0) T.z_len bt_len) de_int) (de_one (de_callB (call_allD rfl) (da_cons (de_lc (own := [("_law_part", 2)]) (di_any (de_var 0)) rfl sc_law_fits.nd (blkOk_by (N := sc_law_fits.N) (sc := defScope s_law_fits) (by decide +kernel)) (fun _ _ _ _ _ => (dg_name (i := 2) sc_law_fits.nd rfl (by first | exact Or.inl rfl | exact Or.inr rfl))) (fun _ _ _ _ _ => dts_nil) (fun _ _ _ _ _ => (de_f ih_law_fits (da_cons (de_var 2) (da_cons (de_bin op_addD (de_var 1) de_int) da_nil)) hg (hr.mono (Nat.le_refl _)))) (by decide)) da_nil) T.z_all bt_all))))))
      dss_nil)
      (dss_cons (ds_if (dt_val (de_isiO "str" (dp_n 0) T.z_isinstance bt_isinstance T.z_str bt_str) (fun _ => rfl))
      (dss_one (ds_ret (de_cmp op_leD (de_callB1 call_lenD' (dp_n 0) T.z_len bt_len) de_int)))
      dss_nil)
      (dss_one (ds_ret (de_chain op_leD op_leD (de_un un_negD (de_bin op_powD de_int de_int)) (de_var 0) (de_bin op_powD de_int de_int)))))))
theorem ok_law_fits (T : Tx K mg) (n : Nat) : GF P w K mg (0 + n) "_law_fits" sc_law_fits.P (m_law_fits n) := (okr_law_fits T n)
theorem ok_law_of_two (T : Tx K mg) : GF P w K mg 7 "_law_of_two" sc_law_of_two.P m_law_of_two := by
  delta m_law_of_two b_law_of_two
  exact GF.def0 T.h_law_of_two sc_law_of_two rfl (fun base f cdv A outer s H E hg hr =>
      (dss_cons (ds_set (i := 3) (de_lst (da_cons (de_isiO "int" (dp_n 1) T.z_isinstance bt_isinstance T.z_int bt_int) (da_cons (de_isiO "int" (dp_n 2) T.z_isinstance bt_isinstance T.z_int bt_int) da_nil))) sc_law_of_two.nd)
      (dss_cons (ds_if (dt_cmpO (op_eqDD hr) bo_eq (dp_n 0) (dp_v de_str))
      (dss_one (ds_ret (de_callTy call_intD (da_cons (de_cmp (op_eqDD hr) (de_f (ok_law_stamp T 6) (da_cons (de_var 1) da_nil) hg (hr.mono (by decide))) (de_f (ok_law_stamp T 6) (da_cons (de_var 2) da_nil) hg (hr.mono (by decide)))) da_nil) T.z_int bt_int)))
      dss_nil)
      (dss_cons (ds_if (dt_cmpO (op_eqDD hr) bo_eq (dp_n 0) (dp_v de_str))
      (dss_cons (ds_if (dt_w (dw_or (dt_not (dt_val (de_isiO "tuple" (dp_n 1) T.z_isinstance bt_isinstance T.z_tuple bt_tuple) (fun _ => rfl))) (dw_or1 (dt_not (dt_val (de_ixN 3 hr de_int) (fun _ => rfl))))))
      (dss_one (ds_ret de_non))
      dss_nil)
      (dss_one (ds_ret (de_if (dt_chain op_leD op_ltD bo_lt de_int (de_var 2) (de_callB1 call_lenD' (dp_n 1) T.z_len bt_len)) (de_ixN 1 hr (de_var 2)) (de_tup da_nil)))))
      dss_nil)
      (dss_cons (ds_if (dt_cmpO (op_eqDD hr) bo_eq (dp_n 0) (dp_v de_str))
      (dss_cons (ds_if (dt_w (dw_or (dt_val (de_ixN 3 hr de_int) (fun _ => rfl)) (dw_or (dt_val (de_ixN 3 hr de_int) (fun _ => rfl)) (dw_or1 (dt_cmp (op_neDD hr) bo_ne (de_isiO "str" (dp_n 1) T.z_isinstance bt_isinstance T.z_str bt_str) (de_isiO "str" (dp_n 2) T.z_isinstance bt_isinstance T.z_str bt_str))))))
      (dss_one (ds_ret de_non))
      dss_nil)
      (dss_one (ds_ret (de_bin op_addD (de_var 1) (de_var 2)))))
      dss_nil)
      (dss_cons (ds_if (dt_cmpO (op_neDD hr) bo_ne (dp_n 3) (dp_v (de_lst (da_cons de_bl (da_cons de_bl da_nil)))))
      (dss_one (ds_ret de_non))
      dss_nil)
      (dss_one (ds_ret (de_if (dt_cmpO (op_eqDD hr) bo_eq (dp_n 0) (dp_v de_str)) (de_bin op_addD (de_var 1) (de_var 2)) (de_callTy call_intD (da_cons (de_cmpO op_ltD (dp_n 1) (dp_n 2)) da_nil) T.z_int bt_int))))))))))
theorem okr_law_told (T : Tx K mg) (n : Nat) : GF P w K mg (8 + n) "_law_told" sc_law_told.P (m_law_told n) := by
  induction n with
  | zero => exact GF.zero T.h_law_told
  | succ n ih =>
    have ih_law_told := ih
    exact GF.def0 T.h_law_told sc_law_told rfl (fun base f cdv A outer s H E hg hr =>
      (dss_cons (ds_if (dt_cmp (op_eqDD hr) bo_eq (de_ixN 0 hr de_int) de_str)
      (dss_one (ds_ret (de_tup (da_cons de_str (da_cons (de_ixN 0 hr de_int) da_nil)))))
      dss_nil)
      (dss_cons (ds_if (dt_cmp (op_eqDD hr) bo_eq (de_ixN 0 hr de_int) de_str)
      (dss_one (ds_ret (de_tup (da_cons de_str (da_cons (de_ixN 1 hr (de_ixN 0 hr de_int)) da_nil)))))
      dss_nil)
      (dss_cons (ds_setLc (i := 2) (own := [("_law_part", 3)]) (di_any (de_if (dt_cmp (op_eqDD hr) bo_eq (de_ixN 0 hr de_int) de_str) (de_ixN 0 hr de_int) (de_slN 0 (do_some de_int) do_none))) rfl sc_law_told.nd (blkOk_by (N := sc_law_told.N) (sc := defScope s_law_told) (by decide +kernel)) (fun _ _ _ _ _ => (dg_name (i := 3) sc_law_told.nd rfl (by first | exact Or.inl rfl | exact Or.inr rfl))) (fun _ _ _ _ _ => dts_nil) (fun _ _ _ _ _ => (de_f ih_law_told (da_cons (de_var 3) (da_cons (de_var 1) da_nil)) hg (hr.mono (Nat.le_refl _)))) (by decide) rfl rfl (sw_true rfl rfl rfl (by decide +kernel)))
      (dss_cons (ds_for [3] (di_any (de_var 2)) (dg_name (i := 3) sc_law_told.nd rfl (by first | exact Or.inl rfl | exact Or.inr rfl))
      (dss_one (ds_if (dt_cmp (op_eqDD hr) bo_eq (de_ixN 3 hr de_int) de_str)
      (dss_one (ds_ret (de_move 3)))
      dss_nil)) PassesOwn.never rfl)
      (dss_cons (ds_setLc (i := 4) (own := [("_law_part", 3)]) (di_any (de_var 2)) rfl sc_law_told.nd (blkOk_by (N := sc_law_told.N) (sc := defScope s_law_told) (by decide +kernel)) (fun _ _ _ _ _ => (dg_name (i := 3) sc_law_told.nd rfl (by first | exact Or.inl rfl | exact Or.inr rfl))) (fun _ _ _ _ _ => dts_nil) (fun _ _ _ _ _ => (de_ixN 3 hr de_int)) (by decide) rfl rfl (sw_true rfl rfl rfl (by decide +kernel)))
      (dss_cons (ds_if (dt_cmp (op_eqDD hr) bo_eq (de_ixN 0 hr de_int) de_str)
      (dss_one (ds_ret (de_if (dt_val (de_f (ok_law_fits T 8) (da_cons (de_callTy call_tupleD (da_cons (de_var 4) da_nil) T.z_tuple bt_tuple) (da_cons de_int da_nil)) hg (hr.mono (by first | decide | exact Nat.le_add_right _ _ | (simp only [Nat.add_eq]; omega)))) (fun _ => rfl)) (de_tup (da_cons de_str (da_cons (de_callTy call_tupleD (da_cons (de_var 4) da_nil) T.z_tuple bt_tuple) da_nil))) (de_tup (da_cons de_str (da_cons de_str da_nil))))))
      dss_nil)
      (dss_cons (ds_if (dt_cmp (op_eqDD hr) bo_eq (de_ixN 0 hr de_int) de_str)
      (dss_one (ds_ret (de_if (dt_val (de_isi "int" (de_ixN 4 hr de_int) T.z_isinstance bt_isinstance T.z_int bt_int) (fun _ => rfl)) (de_tup (da_cons de_str (da_cons de_str da_nil))) (de_tup (da_cons de_str (da_cons (de_callB call_lenD' (da_cons (de_ixN 4 hr de_int) da_nil) T.z_len bt_len) da_nil))))))
      dss_nil)
      (dss_cons (ds_set (i := 5) (de_f (ok_law_of_two T) (da_cons (de_ixN 0 hr de_int) (da_cons (de_ixN 4 hr de_int) (da_cons (de_ixN 4 hr de_int) da_nil))) hg (hr.mono (by first | decide | exact Nat.le_add_right _ _ | (simp only [Nat.add_eq]; omega)))) sc_law_told.nd)
      (dss_cons (ds_if (dt_cmpO op_isND bo_is (dp_n 5) (dp_v de_non))
      (dss_one (ds_ret (de_tup (da_cons de_str (da_cons de_str da_nil)))))
      dss_nil)
      (dss_cons (ds_if (dt_w (dw_and (dt_cmp (op_eqDD hr) bo_eq (de_ixN 0 hr de_int) de_str) (dw_and1 (dt_not (dt_chain op_leD op_ltD bo_lt de_int (de_ixN 4 hr de_int) (de_callB call_lenD' (da_cons (de_ixN 4 hr de_int) da_nil) T.z_len bt_len))))))
      (dss_one (ds_ret (de_tup (da_cons de_str (da_cons de_str da_nil)))))
      dss_nil)
      (dss_one (ds_ret (de_if (dt_val (de_f (ok_law_fits T 8) (da_cons (de_var 5) (da_cons de_int da_nil)) hg (hr.mono (by first | decide | exact Nat.le_add_right _ _ | (simp only [Nat.add_eq]; omega)))) (fun _ => rfl)) (de_tup (da_cons de_str (da_cons (de_var 5) da_nil))) (de_tup (da_cons de_str (da_cons de_str da_nil)))))))))))))))))
theorem ok_law_told (T : Tx K mg) (n : Nat) : GF P w K mg (8 + n) "_law_told" sc_law_told.P (m_law_told n) := (okr_law_told T n)
theorem ok_law_is_name (T : Tx K mg) : GF P w K mg 1 "_law_is_name" sc_law_is_name.P m_law_is_name := by
  delta m_law_is_name b_law_is_name
  exact GF.def0 T.h_law_is_name sc_law_is_name rfl (fun base f cdv A outer s H E hg hr =>
      (dss_cons (ds_if (dt_w (dw_or (dt_not (dt_val (de_isiO "str" (dp_n 0) T.z_isinstance bt_isinstance T.z_str bt_str) (fun _ => rfl))) (dw_or1 (dt_not (dt_chain op_leD op_leD bo_le de_int (de_callB1 call_lenD' (dp_n 0) T.z_len bt_len) de_int)))))
      (dss_one (ds_ret de_bl))
      dss_nil)
      (dss_one (ds_ret (de_callB (call_allD rfl) (da_cons (de_lc (own := [("_law_sign", 1)]) (di_any (de_var 0)) rfl sc_law_is_name.nd (blkOk_by (N := sc_law_is_name.N) (sc := defScope s_law_is_name) (by decide +kernel)) (fun _ _ _ _ _ => (dg_name (i := 1) sc_law_is_name.nd rfl (by first | exact Or.inl rfl | exact Or.inr rfl))) (fun _ _ _ _ _ => dts_nil) (fun _ _ _ _ _ => (de_cmpO (op_inDD hr) (dp_n 1) (dp_v de_str))) (by decide)) da_nil) T.z_all bt_all)))))
theorem ok_law_run (T : Tx K mg) : GF P w K mg 15 "_law_run" sc_law_run.P m_law_run := by
  delta m_law_run b_law_run l_law_run_0
  exact GF.def0 T.h_law_run sc_law_run rfl (fun base f cdv A outer s H E hg hr =>
      (dss_cons (ds_set (i := 2) (de_lst da_nil) sc_law_run.nd)
      (dss_cons (ds_set (i := 3) (de_lst da_nil) sc_law_run.nd)
      (dss_cons (ds_while 8 [4] (dt_cmp (op_notInDD hr) bo_notin (de_ixN 0 hr de_int) (de_tup (da_cons de_str (da_cons de_str da_nil))))
      (dss_cons (ds_set (i := 4) (de_loan [0, 2] (de_f (ok_law_told T 6) (da_cons (de_ixN 0 hr de_int) (da_cons (de_var 2) da_nil)) hg (hr.mono (by decide)))) sc_law_run.nd)
      (dss_cons (ds_if (dt_cmp (op_eqDD hr) bo_eq (de_ixN 4 hr de_int) de_str)
      (dss_one (ds_ret (de_tup (da_cons (de_callTy call_tupleD (da_cons (de_var 3) da_nil) T.z_tuple bt_tuple) (da_cons (de_var 4) (da_cons de_non da_nil))))))
      dss_nil)
      (dss_one (ds_if (dt_cmp (op_eqDD hr) bo_eq (de_ixN 0 hr de_int) de_str)
      (dss_one (ds_set (i := 0) (de_if (dt_cmp (op_inDD hr) bo_in (de_ixN 4 hr de_int) (de_tup (da_cons de_int (da_cons de_str (da_cons (de_tup da_nil) da_nil))))) (de_ixN 0 hr de_int) (de_ixN 0 hr de_int)) sc_law_run.nd))
      (dss_one (ds_if (dt_not (dt_val (de_f (ok_law_is_name T) (da_cons (de_ixN 4 hr de_int) da_nil) hg (hr.mono (by decide))) (fun _ => rfl)))
      (dss_one (ds_ret (de_tup (da_cons (de_callTy call_tupleD (da_cons (de_var 3) da_nil) T.z_tuple bt_tuple) (da_cons (de_tup (da_cons de_str (da_cons de_str da_nil))) (da_cons de_non da_nil))))))
      (dss_one (ds_if (dt_cmpO (op_notInDD hr) bo_notin (dp_v (de_ixN 4 hr de_int)) (dp_n 1))
      (dss_one (ds_ret (de_tup (da_cons (de_callTy call_tupleD (da_cons (de_var 3) da_nil) T.z_tuple bt_tuple) (da_cons (de_tup (da_cons de_str (da_cons (de_ixN 4 hr de_int) da_nil))) (da_cons de_non da_nil))))))
      (dss_cons (ds_drop (de_mut (i := 2) PySem.F.slot_list_append PySem.F.type_list_append mt_appendD (da_cons (de_ixN 1 hr (de_ixN 4 hr de_int)) da_nil)))
      (dss_cons (ds_if (dt_cmp (op_eqDD hr) bo_eq (de_ixN 0 hr de_int) de_str)
      (dss_one (ds_drop (de_mut (i := 3) PySem.F.slot_list_append PySem.F.type_list_append mt_appendD (da_cons (de_tup (da_cons (de_ixN 4 hr de_int) (da_cons (de_f (ok_law_stamp T 6) (da_cons (de_ixN 2 hr (de_un un_negD de_int)) da_nil) hg (hr.mono (by decide))) da_nil))) da_nil))))
      dss_nil)
      (dss_one (ds_set (i := 0) (de_ixN 0 hr de_int) sc_law_run.nd)))))))))))) PassesOwn.never)
      (dss_cons (ds_set (i := 4) (de_tup (da_cons de_str (da_cons (de_ixN 0 hr de_int) da_nil))) sc_law_run.nd)
      (dss_cons (ds_if (dt_cmp (op_eqDD hr) bo_eq (de_ixN 0 hr de_int) de_str)
      (dss_one (ds_set (i := 4) (de_loan [0, 2] (de_f (ok_law_told T 6) (da_cons (de_ixN 0 hr de_int) (da_cons (de_var 2) da_nil)) hg (hr.mono (by decide)))) sc_law_run.nd))
      dss_nil)
      (dss_cons (ds_if (dt_cmp (op_eqDD hr) bo_eq (de_ixN 4 hr de_int) de_str)
      (dss_one (ds_ret (de_tup (da_cons (de_callTy call_tupleD (da_cons (de_var 3) da_nil) T.z_tuple bt_tuple) (da_cons (de_var 4) (da_cons de_non da_nil))))))
      dss_nil)
      (dss_one (ds_ret (de_tup (da_cons (de_callTy call_tupleD (da_cons (de_var 3) da_nil) T.z_tuple bt_tuple) (da_cons (de_tup (da_cons de_str (da_cons (de_f (ok_law_stamp T 6) (da_cons (de_ixN 4 hr de_int) da_nil) hg (hr.mono (by decide))) da_nil))) (da_cons (de_ixN 4 hr de_int) da_nil)))))))))))))
theorem ok_law_one_line (T : Tx K mg) : GF P w K mg 2 "_law_one_line" sc_law_one_line.P m_law_one_line := by
  delta m_law_one_line b_law_one_line l_law_one_line_0
  exact GF.def0 T.h_law_one_line sc_law_one_line rfl (fun base f cdv A outer s H E hg hr =>
      (dss_cons (ds_set (i := 2) (de_lst da_nil) sc_law_one_line.nd)
      (dss_cons (ds_for [3, 4] (di_r1 (da_cons (de_f (ok_law_draw T) (da_cons (de_var 0) (da_cons (de_var 1) (da_cons de_int da_nil))) hg (hr.mono (by decide))) da_nil) T.z_range) (dg_name (i := 3) sc_law_one_line.nd rfl (by first | exact Or.inl rfl | exact Or.inr rfl))
      (dss_cons (ds_set (i := 4) (de_ixG hr (de_lst (da_cons de_str (da_cons de_str (da_cons de_str (da_cons de_str da_nil))))) (de_f (ok_law_draw T) (da_cons (de_var 0) (da_cons (de_bin op_addD (de_bin op_addD (de_var 1) de_int) (de_bin op_mulD2 de_int (de_var 3))) (da_cons de_int da_nil))) hg (hr.mono (by decide)))) sc_law_one_line.nd)
      (dss_one (ds_drop (de_mut (i := 2) PySem.F.slot_list_append PySem.F.type_list_append mt_appendD (da_cons (de_tup (da_cons (de_var 4) (da_cons (de_ixG hr (de_lst (da_cons de_str (da_cons de_str (da_cons de_str da_nil)))) (de_f (ok_law_draw T) (da_cons (de_var 0) (da_cons (de_bin op_addD (de_bin op_addD (de_var 1) de_int) (de_bin op_mulD2 de_int (de_var 3))) (da_cons de_int da_nil))) hg (hr.mono (by decide)))) da_nil))) da_nil))))) PassesOwn.never rfl)
      (dss_cons (ds_set (i := 5) (de_lst (da_cons (de_tup (da_cons de_str (da_cons de_str da_nil))) (da_cons (de_tup (da_cons de_str (da_cons de_str da_nil))) (da_cons (de_tup (da_cons de_str (da_cons de_str da_nil))) (da_cons (de_tup (da_cons de_str (da_cons de_str da_nil))) (da_cons (de_tup (da_cons de_str (da_cons de_str da_nil))) (da_cons (de_tup (da_cons de_str (da_cons de_str da_nil))) da_nil))))))) sc_law_one_line.nd)
      (dss_cons (ds_drop (de_mut (i := 5) PySem.F.slot_list_append PySem.F.type_list_append mt_appendD (da_cons (de_tup (da_cons de_str (da_cons de_str da_nil))) da_nil)))
      (dss_one (ds_ret (de_tup (da_cons (de_ixG hr (de_lst (da_cons de_str (da_cons de_str (da_cons de_str da_nil)))) (de_f (ok_law_draw T) (da_cons (de_var 0) (da_cons (de_bin op_addD (de_var 1) de_int) (da_cons de_int da_nil))) hg (hr.mono (by decide)))) (da_cons (de_callTy call_tupleD (da_cons (de_var 2) da_nil) T.z_tuple bt_tuple) (da_cons (de_ixN 5 hr (de_f (ok_law_draw T) (da_cons (de_var 0) (da_cons (de_bin op_addD (de_var 1) de_int) (da_cons de_int da_nil))) hg (hr.mono (by decide)))) da_nil)))))))))))
theorem ok_law_steps (T : Tx K mg) : GF P w K mg 1 "_law_steps" sc_law_steps.P m_law_steps := by
  delta m_law_steps b_law_steps
  exact GF.def0 T.h_law_steps sc_law_steps rfl (fun base f cdv A outer s H E hg hr =>
      (dss_cons (ds_setLc (i := 1) (own := [("_law_name", 2), ("_law_stamp_here", 3)]) (di_any (de_ixN 0 hr de_int)) rfl sc_law_steps.nd (blkOk_by (N := sc_law_steps.N) (sc := defScope s_law_steps) (by decide +kernel)) (fun _ _ _ _ _ => (dg_tup (dgs_cons (i := 2) (dgs_cons (i := 3) dgs_nil sc_law_steps.nd rfl (by first | exact Or.inl rfl | exact Or.inr rfl)) sc_law_steps.nd rfl (by first | exact Or.inl rfl | exact Or.inr rfl)) rfl)) (fun _ _ _ _ _ => dts_nil) (fun _ _ _ _ _ => (de_tup (da_cons (de_tup (da_cons de_str (da_cons (de_var 2) da_nil))) (da_cons (de_var 3) da_nil)))) (by decide) rfl rfl (sw_true rfl rfl rfl (by decide +kernel)))
      (dss_one (ds_ret (de_bin op_addD (de_var 1) (de_lst (da_cons (de_tup (da_cons (de_ixN 0 hr de_int) (da_cons de_non da_nil))) da_nil)))))))
theorem ok_law_odds (T : Tx K mg) : GF P w K mg 2 "_law_odds" sc_law_odds.P m_law_odds := by
  delta m_law_odds b_law_odds l_law_odds_0
  exact GF.def0 T.h_law_odds sc_law_odds rfl (fun base f cdv A outer s H E hg hr =>
      (dss_cons (ds_for [2, 3] (di_zip (da_cons (de_f (ok_law_steps T) (da_cons (de_var 0) da_nil) hg (hr.mono (by decide))) (da_cons (de_f (ok_law_steps T) (da_cons (de_var 1) da_nil) hg (hr.mono (by decide))) da_nil)) T.z_zip) (dg_tup (dgs_cons (i := 2) (dgs_cons (i := 3) dgs_nil sc_law_odds.nd rfl (by first | exact Or.inl rfl | exact Or.inr rfl)) sc_law_odds.nd rfl (by first | exact Or.inl rfl | exact Or.inr rfl)) rfl)
      (dss_cons (ds_if (dt_cmp (op_neDD hr) bo_ne (de_ixN 2 hr de_int) (de_ixN 3 hr de_int))
      (dss_one (ds_ret de_bl))
      dss_nil)
      (dss_one (ds_if (dt_cmp (op_neDD hr) bo_ne (de_ixN 2 hr de_int) (de_ixN 3 hr de_int))
      (dss_one (ds_ret de_bl))
      dss_nil))) PassesOwn.never rfl)
      (dss_one (ds_ret de_bl))))
theorem ok_law_bent (T : Tx K mg) : GF P w K mg 3 "_law_bent" sc_law_bent.P m_law_bent := by
  delta m_law_bent b_law_bent
  exact GF.def0 T.h_law_bent sc_law_bent rfl (fun base f cdv A outer s H E hg hr =>
      (dss_cons (ds_unp (js := [3, 4, 5]) (de_var 2) (dgs_cons (i := 3) (dgs_cons (i := 4) (dgs_cons (i := 5) dgs_nil sc_law_bent.nd rfl (by first | exact Or.inl rfl | exact Or.inr rfl)) sc_law_bent.nd rfl (by first | exact Or.inl rfl | exact Or.inr rfl)) sc_law_bent.nd rfl (by first | exact Or.inl rfl | exact Or.inr rfl)) rfl rfl (fun h => pg_tup rfl h))
      (dss_cons (ds_set (i := 6) (de_f (ok_law_one_line T) (da_cons (de_var 0) (da_cons (de_bin op_addD (de_var 1) de_int) da_nil)) hg (hr.mono (by decide))) sc_law_bent.nd)
      (dss_cons (ds_set (i := 7) (de_lst (da_cons (de_var 6) (da_cons (de_tup (da_cons (de_var 3) (da_cons (de_var 4) (da_cons (de_ixN 6 hr de_int) da_nil)))) (da_cons (de_tup (da_cons (de_ixN 6 hr de_int) (da_cons (de_var 4) (da_cons (de_var 5) da_nil)))) (da_cons (de_tup (da_cons (de_var 3) (da_cons (de_slN 4 do_none (do_some (de_un un_negD de_int))) (da_cons (de_var 5) da_nil)))) da_nil))))) sc_law_bent.nd)
      (dss_cons (ds_set (i := 7) (de_bin op_addD (de_var 7) (de_lst (da_cons (de_tup (da_cons (de_var 3) (da_cons (de_bin op_addD (de_var 4) (de_sl (de_ixN 6 hr de_int) do_none (do_some de_int))) (da_cons (de_var 5) da_nil)))) (da_cons (de_tup (da_cons (de_var 3) (da_cons (de_bin op_addD (de_slN 4 do_none (do_some (de_un un_negD de_int))) (de_sl (de_ixN 6 hr de_int) do_none (do_some de_int))) (da_cons (de_var 5) da_nil)))) (da_cons (de_var 6) da_nil))))) sc_law_bent.nd)
      (dss_cons (ds_drop (de_mut (i := 7) PySem.F.slot_list_append PySem.F.type_list_append mt_appendD (da_cons (de_tup (da_cons (de_var 3) (da_cons (de_var 4) (da_cons (de_ixN 6 hr de_int) da_nil)))) da_nil)))
      (dss_one (ds_ret (de_ixN 7 hr (de_f (ok_law_draw T) (da_cons (de_var 0) (da_cons (de_var 1) (da_cons de_int da_nil))) hg (hr.mono (by decide))))))))))))
theorem ok_law_said (T : Tx K mg) : GF P w K mg 3 "_law_said" sc_law_said.P m_law_said := by
  delta m_law_said b_law_said
  exact GF.def0 T.h_law_said sc_law_said rfl (fun base f cdv A outer s H E hg hr =>
      (dss_cons (ds_set (i := 3) (de_f (ok_at_odds T) (da_cons (de_var 0) (da_cons (de_var 1) da_nil)) hg (hr.mono (by decide))) sc_law_said.nd)
      (dss_one (ds_ret (de_and (de_isiO "bool" (dp_n 3) T.z_isinstance bt_isinstance T.z_bool bt_bool) (de_one (de_cmpO (op_eqDD hr) (dp_n 3) (dp_n 2))))))))
theorem ok_law_pair_right (T : Tx K mg) : GF P w K mg 4 "_law_pair_right" sc_law_pair_right.P m_law_pair_right := by
  delta m_law_pair_right b_law_pair_right
  exact GF.def0 T.h_law_pair_right sc_law_pair_right rfl (fun base f cdv A outer s H E hg hr =>
      (dss_cons (ds_set (i := 2) (de_f (ok_law_odds T) (da_cons (de_var 0) (da_cons (de_var 1) da_nil)) hg (hr.mono (by decide))) sc_law_pair_right.nd)
      (dss_cons (ds_if (dt_w (dw_or (dt_not (dt_val (de_f (ok_law_said T) (da_cons (de_var 0) (da_cons (de_var 1) (da_cons (de_var 2) da_nil))) hg (hr.mono (by decide))) (fun _ => rfl))) (dw_or1 (dt_not (dt_val (de_f (ok_law_said T) (da_cons (de_var 1) (da_cons (de_var 0) (da_cons (de_var 2) da_nil))) hg (hr.mono (by decide))) (fun _ => rfl))))))
      (dss_one (ds_ret de_bl))
      dss_nil)
      (dss_one (ds_ret (de_and (de_f (ok_law_said T) (da_cons (de_var 0) (da_cons (de_var 0) (da_cons de_bl da_nil))) hg (hr.mono (by decide))) (de_one (de_f (ok_law_said T) (da_cons (de_var 1) (da_cons (de_tup (da_cons (de_ixN 1 hr de_int) (da_cons (de_ixN 1 hr de_int) (da_cons (de_ixN 1 hr de_int) da_nil)))) (da_cons de_bl da_nil))) hg (hr.mono (by decide))))))))))
theorem ok_law_good_by (T : Tx K mg) : GF P w K mg 3 "_law_good_by" sc_law_good_by.P m_law_good_by := by
  delta m_law_good_by b_law_good_by l_law_good_by_0
  exact GF.def0 T.h_law_good_by sc_law_good_by rfl (fun base f cdv A outer s H E hg hr =>
      (dss_cons (ds_set (i := 3) de_dct0 sc_law_good_by.nd)
      (dss_cons (ds_for [4] (di_r1 (da_cons (de_callB1 call_lenD' (dp_n 2) T.z_len bt_len) da_nil) T.z_range) (dg_name (i := 4) sc_law_good_by.nd rfl (by first | exact Or.inl rfl | exact Or.inr rfl))
      (dss_one (ds_if (dt_cmp op_gtD bo_gt (de_f (ok_law_draw T) (da_cons (de_var 0) (da_cons (de_bin op_addD (de_var 1) (de_bin op_mulD2 de_int (de_var 4))) (da_cons de_int da_nil))) hg (hr.mono (by decide))) de_int)
      (dss_one (ds_setix 3 hr (de_f (ok_law_value T) (da_cons (de_var 0) (da_cons (de_bin op_addD (de_bin op_addD (de_var 1) de_int) (de_bin op_mulD2 de_int (de_var 4))) (da_cons (de_var 2) da_nil))) hg (hr.mono (by decide))) (de_ixN 2 hr (de_var 4))))
      dss_nil)) PassesOwn.never rfl)
      (dss_one (ds_ret (de_move 3))))))
theorem ok_law (T : Tx K mg) : GF P w K mg 16 "law" sc_law.P m_law := by
  delta m_law b_law l_law_3 l_law_2 l_law_1 l_law_0
  exact GF.def0 T.h_law sc_law rfl (fun base f cdv A outer s H E hg hr =>
      (dss_cons (ds_for [1, 2] (di_r1 (da_cons (de_bin op_addD de_int (de_f (ok_law_draw T) (da_cons (de_var 0) (da_cons de_int (da_cons de_int da_nil))) hg (hr.mono (by decide)))) da_nil) T.z_range) (dg_name (i := 1) sc_law.nd rfl (by first | exact Or.inl rfl | exact Or.inr rfl))
      (dss_cons (ds_set (i := 2) (de_f (ok_law_one_line T) (da_cons (de_var 0) (da_cons (de_bin op_addD de_int (de_bin op_mulD2 de_int (de_var 1))) da_nil)) hg (hr.mono (by decide))) sc_law.nd)
      (dss_one (ds_if (dt_not (dt_val (de_f (ok_law_pair_right T) (da_cons (de_var 2) (da_cons (de_f (ok_law_bent T) (da_cons (de_var 0) (da_cons (de_bin op_addD de_int (de_bin op_mulD2 de_int (de_var 1))) (da_cons (de_var 2) da_nil))) hg (hr.mono (by decide))) da_nil)) hg (hr.mono (by decide))) (fun _ => rfl)))
      (dss_one (ds_ret de_bl))
      dss_nil))) PassesOwn.never rfl)
      (dss_cons (ds_set (i := 3) (de_f (ok_law_names T) (da_cons (de_var 0) (da_cons de_int da_nil)) hg (hr.mono (by decide))) sc_law.nd)
      (dss_cons (ds_set (i := 4) (de_f (ok_law_recipe T) (da_cons (de_var 0) (da_cons de_int (da_cons (de_var 3) (da_cons de_int da_nil)))) hg (hr.mono (by decide))) sc_law.nd)
      (dss_cons (ds_set (i := 5) (de_lst da_nil) sc_law.nd)
      (dss_cons (ds_for [6] (di_r1 (da_cons de_int da_nil) T.z_range) (dg_name (i := 6) sc_law.nd rfl (by first | exact Or.inl rfl | exact Or.inr rfl))
      (dss_one (ds_drop (de_mut (i := 5) PySem.F.slot_list_append PySem.F.type_list_append mt_appendD (da_cons (de_bin op_addD (de_tup (da_cons de_str da_nil)) (de_sl (de_f (ok_law_run T) (da_cons (de_var 4) (da_cons (de_f (ok_law_good_by T) (da_cons (de_var 0) (da_cons (de_bin op_addD de_int (de_bin op_mulD2 de_int (de_var 6))) (da_cons (de_var 3) da_nil))) hg (hr.mono (by decide))) da_nil)) hg (hr.mono (by decide))) do_none (do_some de_int))) da_nil)))) PassesOwn.never rfl)
      (dss_cons (ds_for [2, 7] (di_any (de_var 5)) (dg_name (i := 2) sc_law.nd rfl (by first | exact Or.inl rfl | exact Or.inr rfl))
      (dss_one (ds_for [7] (di_any (de_var 5)) (dg_name (i := 7) sc_law.nd rfl (by first | exact Or.inl rfl | exact Or.inr rfl))
      (dss_one (ds_if (dt_w (dw_or (dt_val (de_f (ok_law_odds T) (da_cons (de_var 2) (da_cons (de_var 7) da_nil)) hg (hr.mono (by decide))) (fun _ => rfl)) (dw_or1 (dt_not (dt_val (de_f (ok_law_said T) (da_cons (de_var 2) (da_cons (de_var 7) (da_cons de_bl da_nil))) hg (hr.mono (by decide))) (fun _ => rfl))))))
      (dss_one (ds_ret de_bl))
      dss_nil)) PassesOwn.never rfl)) PassesOwn.never rfl)
      (dss_one (ds_ret de_bl)))))))))
end
theorem tx_mk {K : PySem.W.Frag} {h : Heap} {mg : Str → Option Value} (X : K.In h) (G : h.Ns mainGlobals mg)
    (z_all : PySem.W.nsIn K mainGlobals "all" = some none)
    (z_bool : PySem.W.nsIn K mainGlobals "bool" = some none)
    (z_int : PySem.W.nsIn K mainGlobals "int" = some none)
    (z_isinstance : PySem.W.nsIn K mainGlobals "isinstance" = some none)
    (z_len : PySem.W.nsIn K mainGlobals "len" = some none)
    (z_min : PySem.W.nsIn K mainGlobals "min" = some none)
    (z_range : PySem.W.nsIn K mainGlobals "range" = some none)
    (z_str : PySem.W.nsIn K mainGlobals "str" = some none)
    (z_tuple : PySem.W.nsIn K mainGlobals "tuple" = some none)
    (z_zip : PySem.W.nsIn K mainGlobals "zip" = some none)
    {f_next_step : Addr} {oc_next_step kV_next_step dc_next_step pm_next_step cd_next_step ct_next_step : Value} {od_next_step an_next_step : Option Addr} {sl_next_step : Array (Option Value)} (a_next_step : PySem.W.nsIn K mainGlobals "next_step" = some (some (.ref f_next_step)))
    (l_next_step : K.lookup f_next_step = some ⟨oc_next_step, od_next_step, .func (PySem.W.fnOf "next_step" "next_step" (defArgs s_next_step) (defBody s_next_step) (defScope s_next_step) .none kV_next_step dc_next_step pm_next_step an_next_step cd_next_step ct_next_step), sl_next_step⟩) (c_next_step : PySem.W.codeIn K cd_next_step "next_step" = true) (k_next_step : PySem.W.keepIn K (.ref f_next_step) = true)
    {f_at_odds : Addr} {oc_at_odds kV_at_odds dc_at_odds pm_at_odds cd_at_odds ct_at_odds : Value} {od_at_odds an_at_odds : Option Addr} {sl_at_odds : Array (Option Value)} (a_at_odds : PySem.W.nsIn K mainGlobals "at_odds" = some (some (.ref f_at_odds)))
    (l_at_odds : K.lookup f_at_odds = some ⟨oc_at_odds, od_at_odds, .func (PySem.W.fnOf "at_odds" "at_odds" (defArgs s_at_odds) (defBody s_at_odds) (defScope s_at_odds) .none kV_at_odds dc_at_odds pm_at_odds an_at_odds cd_at_odds ct_at_odds), sl_at_odds⟩) (c_at_odds : PySem.W.codeIn K cd_at_odds "at_odds" = true) (k_at_odds : PySem.W.keepIn K (.ref f_at_odds) = true)
    {f_law_draw : Addr} {oc_law_draw kV_law_draw dc_law_draw pm_law_draw cd_law_draw ct_law_draw : Value} {od_law_draw an_law_draw : Option Addr} {sl_law_draw : Array (Option Value)} (a_law_draw : PySem.W.nsIn K mainGlobals "_law_draw" = some (some (.ref f_law_draw)))
    (l_law_draw : K.lookup f_law_draw = some ⟨oc_law_draw, od_law_draw, .func (PySem.W.fnOf "_law_draw" "_law_draw" (defArgs s_law_draw) (defBody s_law_draw) (defScope s_law_draw) .none kV_law_draw dc_law_draw pm_law_draw an_law_draw cd_law_draw ct_law_draw), sl_law_draw⟩) (c_law_draw : PySem.W.codeIn K cd_law_draw "_law_draw" = true) (k_law_draw : PySem.W.keepIn K (.ref f_law_draw) = true)
    {f_law_stamp : Addr} {oc_law_stamp kV_law_stamp dc_law_stamp pm_law_stamp cd_law_stamp ct_law_stamp : Value} {od_law_stamp an_law_stamp : Option Addr} {sl_law_stamp : Array (Option Value)} (a_law_stamp : PySem.W.nsIn K mainGlobals "_law_stamp" = some (some (.ref f_law_stamp)))
    (l_law_stamp : K.lookup f_law_stamp = some ⟨oc_law_stamp, od_law_stamp, .func (PySem.W.fnOf "_law_stamp" "_law_stamp" (defArgs s_law_stamp) (defBody s_law_stamp) (defScope s_law_stamp) .none kV_law_stamp dc_law_stamp pm_law_stamp an_law_stamp cd_law_stamp ct_law_stamp), sl_law_stamp⟩) (c_law_stamp : PySem.W.codeIn K cd_law_stamp "_law_stamp" = true) (k_law_stamp : PySem.W.keepIn K (.ref f_law_stamp) = true)
    {f_law_names : Addr} {oc_law_names kV_law_names dc_law_names pm_law_names cd_law_names ct_law_names : Value} {od_law_names an_law_names : Option Addr} {sl_law_names : Array (Option Value)} (a_law_names : PySem.W.nsIn K mainGlobals "_law_names" = some (some (.ref f_law_names)))
    (l_law_names : K.lookup f_law_names = some ⟨oc_law_names, od_law_names, .func (PySem.W.fnOf "_law_names" "_law_names" (defArgs s_law_names) (defBody s_law_names) (defScope s_law_names) .none kV_law_names dc_law_names pm_law_names an_law_names cd_law_names ct_law_names), sl_law_names⟩) (c_law_names : PySem.W.codeIn K cd_law_names "_law_names" = true) (k_law_names : PySem.W.keepIn K (.ref f_law_names) = true)
    {f_law_value : Addr} {oc_law_value kV_law_value dc_law_value pm_law_value cd_law_value ct_law_value : Value} {od_law_value an_law_value : Option Addr} {sl_law_value : Array (Option Value)} (a_law_value : PySem.W.nsIn K mainGlobals "_law_value" = some (some (.ref f_law_value)))
    (l_law_value : K.lookup f_law_value = some ⟨oc_law_value, od_law_value, .func (PySem.W.fnOf "_law_value" "_law_value" (defArgs s_law_value) (defBody s_law_value) (defScope s_law_value) .none kV_law_value dc_law_value pm_law_value an_law_value cd_law_value ct_law_value), sl_law_value⟩) (c_law_value : PySem.W.codeIn K cd_law_value "_law_value" = true) (k_law_value : PySem.W.keepIn K (.ref f_law_value) = true)
    {f_law_expr : Addr} {oc_law_expr kV_law_expr dc_law_expr pm_law_expr cd_law_expr ct_law_expr : Value} {od_law_expr an_law_expr : Option Addr} {sl_law_expr : Array (Option Value)} (a_law_expr : PySem.W.nsIn K mainGlobals "_law_expr" = some (some (.ref f_law_expr)))
    (l_law_expr : K.lookup f_law_expr = some ⟨oc_law_expr, od_law_expr, .func (PySem.W.fnOf "_law_expr" "_law_expr" (defArgs s_law_expr) (defBody s_law_expr) (defScope s_law_expr) .none kV_law_expr dc_law_expr pm_law_expr an_law_expr cd_law_expr ct_law_expr), sl_law_expr⟩) (c_law_expr : PySem.W.codeIn K cd_law_expr "_law_expr" = true) (k_law_expr : PySem.W.keepIn K (.ref f_law_expr) = true)
    {f_law_recipe : Addr} {oc_law_recipe kV_law_recipe dc_law_recipe pm_law_recipe cd_law_recipe ct_law_recipe : Value} {od_law_recipe an_law_recipe : Option Addr} {sl_law_recipe : Array (Option Value)} (a_law_recipe : PySem.W.nsIn K mainGlobals "_law_recipe" = some (some (.ref f_law_recipe)))
    (l_law_recipe : K.lookup f_law_recipe = some ⟨oc_law_recipe, od_law_recipe, .func (PySem.W.fnOf "_law_recipe" "_law_recipe" (defArgs s_law_recipe) (defBody s_law_recipe) (defScope s_law_recipe) .none kV_law_recipe dc_law_recipe pm_law_recipe an_law_recipe cd_law_recipe ct_law_recipe), sl_law_recipe⟩) (c_law_recipe : PySem.W.codeIn K cd_law_recipe "_law_recipe" = true) (k_law_recipe : PySem.W.keepIn K (.ref f_law_recipe) = true)
    {f_law_fits : Addr} {oc_law_fits kV_law_fits dc_law_fits pm_law_fits cd_law_fits ct_law_fits : Value} {od_law_fits an_law_fits : Option Addr} {sl_law_fits : Array (Option Value)} (a_law_fits : PySem.W.nsIn K mainGlobals "_law_fits" = some (some (.ref f_law_fits)))
    (l_law_fits : K.lookup f_law_fits = some ⟨oc_law_fits, od_law_fits, .func (PySem.W.fnOf "_law_fits" "_law_fits" (defArgs s_law_fits) (defBody s_law_fits) (defScope s_law_fits) .none kV_law_fits dc_law_fits pm_law_fits an_law_fits cd_law_fits ct_law_fits), sl_law_fits⟩) (c_law_fits : PySem.W.codeIn K cd_law_fits "_law_fits" = true) (k_law_fits : PySem.W.keepIn K (.ref f_law_fits) = true)
    {f_law_of_two : Addr} {oc_law_of_two kV_law_of_two dc_law_of_two pm_law_of_two cd_law_of_two ct_law_of_two : Value} {od_law_of_two an_law_of_two : Option Addr} {sl_law_of_two : Array (Option Value)} (a_law_of_two : PySem.W.nsIn K mainGlobals "_law_of_two" = some (some (.ref f_law_of_two)))
    (l_law_of_two : K.lookup f_law_of_two = some ⟨oc_law_of_two, od_law_of_two, .func (PySem.W.fnOf "_law_of_two" "_law_of_two" (defArgs s_law_of_two) (defBody s_law_of_two) (defScope s_law_of_two) .none kV_law_of_two dc_law_of_two pm_law_of_two an_law_of_two cd_law_of_two ct_law_of_two), sl_law_of_two⟩) (c_law_of_two : PySem.W.codeIn K cd_law_of_two "_law_of_two" = true) (k_law_of_two : PySem.W.keepIn K (.ref f_law_of_two) = true)
    {f_law_told : Addr} {oc_law_told kV_law_told dc_law_told pm_law_told cd_law_told ct_law_told : Value} {od_law_told an_law_told : Option Addr} {sl_law_told : Array (Option Value)} (a_law_told : PySem.W.nsIn K mainGlobals "_law_told" = some (some (.ref f_law_told)))
    (l_law_told : K.lookup f_law_told = some ⟨oc_law_told, od_law_told, .func (PySem.W.fnOf "_law_told" "_law_told" (defArgs s_law_told) (defBody s_law_told) (defScope s_law_told) .none kV_law_told dc_law_told pm_law_told an_law_told cd_law_told ct_law_told), sl_law_told⟩) (c_law_told : PySem.W.codeIn K cd_law_told "_law_told" = true) (k_law_told : PySem.W.keepIn K (.ref f_law_told) = true)
    {f_law_is_name : Addr} {oc_law_is_name kV_law_is_name dc_law_is_name pm_law_is_name cd_law_is_name ct_law_is_name : Value} {od_law_is_name an_law_is_name : Option Addr} {sl_law_is_name : Array (Option Value)} (a_law_is_name : PySem.W.nsIn K mainGlobals "_law_is_name" = some (some (.ref f_law_is_name)))
    (l_law_is_name : K.lookup f_law_is_name = some ⟨oc_law_is_name, od_law_is_name, .func (PySem.W.fnOf "_law_is_name" "_law_is_name" (defArgs s_law_is_name) (defBody s_law_is_name) (defScope s_law_is_name) .none kV_law_is_name dc_law_is_name pm_law_is_name an_law_is_name cd_law_is_name ct_law_is_name), sl_law_is_name⟩) (c_law_is_name : PySem.W.codeIn K cd_law_is_name "_law_is_name" = true) (k_law_is_name : PySem.W.keepIn K (.ref f_law_is_name) = true)
    {f_law_run : Addr} {oc_law_run kV_law_run dc_law_run pm_law_run cd_law_run ct_law_run : Value} {od_law_run an_law_run : Option Addr} {sl_law_run : Array (Option Value)} (a_law_run : PySem.W.nsIn K mainGlobals "_law_run" = some (some (.ref f_law_run)))
    (l_law_run : K.lookup f_law_run = some ⟨oc_law_run, od_law_run, .func (PySem.W.fnOf "_law_run" "_law_run" (defArgs s_law_run) (defBody s_law_run) (defScope s_law_run) .none kV_law_run dc_law_run pm_law_run an_law_run cd_law_run ct_law_run), sl_law_run⟩) (c_law_run : PySem.W.codeIn K cd_law_run "_law_run" = true) (k_law_run : PySem.W.keepIn K (.ref f_law_run) = true)
    {f_law_one_line : Addr} {oc_law_one_line kV_law_one_line dc_law_one_line pm_law_one_line cd_law_one_line ct_law_one_line : Value} {od_law_one_line an_law_one_line : Option Addr} {sl_law_one_line : Array (Option Value)} (a_law_one_line : PySem.W.nsIn K mainGlobals "_law_one_line" = some (some (.ref f_law_one_line)))
    (l_law_one_line : K.lookup f_law_one_line = some ⟨oc_law_one_line, od_law_one_line, .func (PySem.W.fnOf "_law_one_line" "_law_one_line" (defArgs s_law_one_line) (defBody s_law_one_line) (defScope s_law_one_line) .none kV_law_one_line dc_law_one_line pm_law_one_line an_law_one_line cd_law_one_line ct_law_one_line), sl_law_one_line⟩) (c_law_one_line : PySem.W.codeIn K cd_law_one_line "_law_one_line" = true) (k_law_one_line : PySem.W.keepIn K (.ref f_law_one_line) = true)
    {f_law_steps : Addr} {oc_law_steps kV_law_steps dc_law_steps pm_law_steps cd_law_steps ct_law_steps : Value} {od_law_steps an_law_steps : Option Addr} {sl_law_steps : Array (Option Value)} (a_law_steps : PySem.W.nsIn K mainGlobals "_law_steps" = some (some (.ref f_law_steps)))
    (l_law_steps : K.lookup f_law_steps = some ⟨oc_law_steps, od_law_steps, .func (PySem.W.fnOf "_law_steps" "_law_steps" (defArgs s_law_steps) (defBody s_law_steps) (defScope s_law_steps) .none kV_law_steps dc_law_steps pm_law_steps an_law_steps cd_law_steps ct_law_steps), sl_law_steps⟩) (c_law_steps : PySem.W.codeIn K cd_law_steps "_law_steps" = true) (k_law_steps : PySem.W.keepIn K (.ref f_law_steps) = true)
    {f_law_odds : Addr} {oc_law_odds kV_law_odds dc_law_odds pm_law_odds cd_law_odds ct_law_odds : Value} {od_law_odds an_law_odds : Option Addr} {sl_law_odds : Array (Option Value)} (a_law_odds : PySem.W.nsIn K mainGlobals "_law_odds" = some (some (.ref f_law_odds)))
    (l_law_odds : K.lookup f_law_odds = some ⟨oc_law_odds, od_law_odds, .func (PySem.W.fnOf "_law_odds" "_law_odds" (defArgs s_law_odds) (defBody s_law_odds) (defScope s_law_odds) .none kV_law_odds dc_law_odds pm_law_odds an_law_odds cd_law_odds ct_law_odds), sl_law_odds⟩) (c_law_odds : PySem.W.codeIn K cd_law_odds "_law_odds" = true) (k_law_odds : PySem.W.keepIn K (.ref f_law_odds) = true)
    {f_law_bent : Addr} {oc_law_bent kV_law_bent dc_law_bent pm_law_bent cd_law_bent ct_law_bent : Value} {od_law_bent an_law_bent : Option Addr} {sl_law_bent : Array (Option Value)} (a_law_bent : PySem.W.nsIn K mainGlobals "_law_bent" = some (some (.ref f_law_bent)))
    (l_law_bent : K.lookup f_law_bent = some ⟨oc_law_bent, od_law_bent, .func (PySem.W.fnOf "_law_bent" "_law_bent" (defArgs s_law_bent) (defBody s_law_bent) (defScope s_law_bent) .none kV_law_bent dc_law_bent pm_law_bent an_law_bent cd_law_bent ct_law_bent), sl_law_bent⟩) (c_law_bent : PySem.W.codeIn K cd_law_bent "_law_bent" = true) (k_law_bent : PySem.W.keepIn K (.ref f_law_bent) = true)
    {f_law_said : Addr} {oc_law_said kV_law_said dc_law_said pm_law_said cd_law_said ct_law_said : Value} {od_law_said an_law_said : Option Addr} {sl_law_said : Array (Option Value)} (a_law_said : PySem.W.nsIn K mainGlobals "_law_said" = some (some (.ref f_law_said)))
    (l_law_said : K.lookup f_law_said = some ⟨oc_law_said, od_law_said, .func (PySem.W.fnOf "_law_said" "_law_said" (defArgs s_law_said) (defBody s_law_said) (defScope s_law_said) .none kV_law_said dc_law_said pm_law_said an_law_said cd_law_said ct_law_said), sl_law_said⟩) (c_law_said : PySem.W.codeIn K cd_law_said "_law_said" = true) (k_law_said : PySem.W.keepIn K (.ref f_law_said) = true)
    {f_law_pair_right : Addr} {oc_law_pair_right kV_law_pair_right dc_law_pair_right pm_law_pair_right cd_law_pair_right ct_law_pair_right : Value} {od_law_pair_right an_law_pair_right : Option Addr} {sl_law_pair_right : Array (Option Value)} (a_law_pair_right : PySem.W.nsIn K mainGlobals "_law_pair_right" = some (some (.ref f_law_pair_right)))
    (l_law_pair_right : K.lookup f_law_pair_right = some ⟨oc_law_pair_right, od_law_pair_right, .func (PySem.W.fnOf "_law_pair_right" "_law_pair_right" (defArgs s_law_pair_right) (defBody s_law_pair_right) (defScope s_law_pair_right) .none kV_law_pair_right dc_law_pair_right pm_law_pair_right an_law_pair_right cd_law_pair_right ct_law_pair_right), sl_law_pair_right⟩) (c_law_pair_right : PySem.W.codeIn K cd_law_pair_right "_law_pair_right" = true) (k_law_pair_right : PySem.W.keepIn K (.ref f_law_pair_right) = true)
    {f_law_good_by : Addr} {oc_law_good_by kV_law_good_by dc_law_good_by pm_law_good_by cd_law_good_by ct_law_good_by : Value} {od_law_good_by an_law_good_by : Option Addr} {sl_law_good_by : Array (Option Value)} (a_law_good_by : PySem.W.nsIn K mainGlobals "_law_good_by" = some (some (.ref f_law_good_by)))
    (l_law_good_by : K.lookup f_law_good_by = some ⟨oc_law_good_by, od_law_good_by, .func (PySem.W.fnOf "_law_good_by" "_law_good_by" (defArgs s_law_good_by) (defBody s_law_good_by) (defScope s_law_good_by) .none kV_law_good_by dc_law_good_by pm_law_good_by an_law_good_by cd_law_good_by ct_law_good_by), sl_law_good_by⟩) (c_law_good_by : PySem.W.codeIn K cd_law_good_by "_law_good_by" = true) (k_law_good_by : PySem.W.keepIn K (.ref f_law_good_by) = true)
    {f_law : Addr} {oc_law kV_law dc_law pm_law cd_law ct_law : Value} {od_law an_law : Option Addr} {sl_law : Array (Option Value)} (a_law : PySem.W.nsIn K mainGlobals "law" = some (some (.ref f_law)))
    (l_law : K.lookup f_law = some ⟨oc_law, od_law, .func (PySem.W.fnOf "law" "law" (defArgs s_law) (defBody s_law) (defScope s_law) .none kV_law dc_law pm_law an_law cd_law ct_law), sl_law⟩) (c_law : PySem.W.codeIn K cd_law "law" = true) (k_law : PySem.W.keepIn K (.ref f_law) = true)
    : Tx K mg where
  z_all := PySem.W.mg_none_of X G z_all
  z_bool := PySem.W.mg_none_of X G z_bool
  z_int := PySem.W.mg_none_of X G z_int
  z_isinstance := PySem.W.mg_none_of X G z_isinstance
  z_len := PySem.W.mg_none_of X G z_len
  z_min := PySem.W.mg_none_of X G z_min
  z_range := PySem.W.mg_none_of X G z_range
  z_str := PySem.W.mg_none_of X G z_str
  z_tuple := PySem.W.mg_none_of X G z_tuple
  z_zip := PySem.W.mg_none_of X G z_zip
  h_next_step := hd_mk (ps := sc_next_step.P) (fun _ _ _ _ _ _ us hl => match us, hl with | [_, _], _ => rfl) X G a_next_step l_next_step c_next_step k_next_step
  h_at_odds := hd_mk (ps := sc_at_odds.P) (fun _ _ _ _ _ _ us hl => match us, hl with | [_, _], _ => rfl) X G a_at_odds l_at_odds c_at_odds k_at_odds
  h_law_draw := hd_mk (ps := sc_law_draw.P) (fun _ _ _ _ _ _ us hl => match us, hl with | [_, _, _], _ => rfl) X G a_law_draw l_law_draw c_law_draw k_law_draw
  h_law_stamp := hd_mk (ps := sc_law_stamp.P) (fun _ _ _ _ _ _ us hl => match us, hl with | [_], _ => rfl) X G a_law_stamp l_law_stamp c_law_stamp k_law_stamp
  h_law_names := hd_mk (ps := sc_law_names.P) (fun _ _ _ _ _ _ us hl => match us, hl with | [_, _], _ => rfl) X G a_law_names l_law_names c_law_names k_law_names
  h_law_value := hd_mk (ps := sc_law_value.P) (fun _ _ _ _ _ _ us hl => match us, hl with | [_, _, _], _ => rfl) X G a_law_value l_law_value c_law_value k_law_value
  h_law_expr := hd_mk (ps := sc_law_expr.P) (fun _ _ _ _ _ _ us hl => match us, hl with | [_, _, _], _ => rfl) X G a_law_expr l_law_expr c_law_expr k_law_expr
  h_law_recipe := hd_mk (ps := sc_law_recipe.P) (fun _ _ _ _ _ _ us hl => match us, hl with | [_, _, _, _], _ => rfl) X G a_law_recipe l_law_recipe c_law_recipe k_law_recipe
  h_law_fits := hd_mk (ps := sc_law_fits.P) (fun _ _ _ _ _ _ us hl => match us, hl with | [_, _], _ => rfl) X G a_law_fits l_law_fits c_law_fits k_law_fits
  h_law_of_two := hd_mk (ps := sc_law_of_two.P) (fun _ _ _ _ _ _ us hl => match us, hl with | [_, _, _], _ => rfl) X G a_law_of_two l_law_of_two c_law_of_two k_law_of_two
  h_law_told := hd_mk (ps := sc_law_told.P) (fun _ _ _ _ _ _ us hl => match us, hl with | [_, _], _ => rfl) X G a_law_told l_law_told c_law_told k_law_told
  h_law_is_name := hd_mk (ps := sc_law_is_name.P) (fun _ _ _ _ _ _ us hl => match us, hl with | [_], _ => rfl) X G a_law_is_name l_law_is_name c_law_is_name k_law_is_name
  h_law_run := hd_mk (ps := sc_law_run.P) (fun _ _ _ _ _ _ us hl => match us, hl with | [_, _], _ => rfl) X G a_law_run l_law_run c_law_run k_law_run
  h_law_one_line := hd_mk (ps := sc_law_one_line.P) (fun _ _ _ _ _ _ us hl => match us, hl with | [_, _], _ => rfl) X G a_law_one_line l_law_one_line c_law_one_line k_law_one_line
  h_law_steps := hd_mk (ps := sc_law_steps.P) (fun _ _ _ _ _ _ us hl => match us, hl with | [_], _ => rfl) X G a_law_steps l_law_steps c_law_steps k_law_steps
  h_law_odds := hd_mk (ps := sc_law_odds.P) (fun _ _ _ _ _ _ us hl => match us, hl with | [_, _], _ => rfl) X G a_law_odds l_law_odds c_law_odds k_law_odds
  h_law_bent := hd_mk (ps := sc_law_bent.P) (fun _ _ _ _ _ _ us hl => match us, hl with | [_, _, _], _ => rfl) X G a_law_bent l_law_bent c_law_bent k_law_bent
  h_law_said := hd_mk (ps := sc_law_said.P) (fun _ _ _ _ _ _ us hl => match us, hl with | [_, _, _], _ => rfl) X G a_law_said l_law_said c_law_said k_law_said
  h_law_pair_right := hd_mk (ps := sc_law_pair_right.P) (fun _ _ _ _ _ _ us hl => match us, hl with | [_, _], _ => rfl) X G a_law_pair_right l_law_pair_right c_law_pair_right k_law_pair_right
  h_law_good_by := hd_mk (ps := sc_law_good_by.P) (fun _ _ _ _ _ _ us hl => match us, hl with | [_, _, _], _ => rfl) X G a_law_good_by l_law_good_by c_law_good_by k_law_good_by
  h_law := hd_mk (ps := sc_law.P) (fun _ _ _ _ _ _ us hl => match us, hl with | [_], _ => rfl) X G a_law l_law c_law k_law
end W

namespace W
open PySem L2 Fw PySem.Spec PyProof.Rows
local macro_rules | `(tactic| walk_at "ev") => `(tactic| simp -implicitDefEqProofs (decide := true) (disch := first | omega | (simp; done) | (simp [-List.getD_eq_getElem?_getD]; omega)) [*, -List.getD_eq_getElem?_getD, List.getD_cons_zero, List.getD_cons_succ, txt_join])
def Dr (n : Int) (q : R) : Prop := ∃ r, q = .fro (.int r) ∧ 0 ≤ r ∧ r < n
theorem draw_s (ns : List Int) (hl : ns.length ≤ 63) (k n : Int) (hk : 0 ≤ k) (hk2 : k ≤ 100000) (hn : 0 < n) (hn2 : n < 18446744073709551616) : Tells (m_law_draw [.d (.list (ns.map .int)), .d (.int k), .d (.int n)]) (Dr n) := by
  have em : ∀ x : Int, Dr n (.fro (.int (x % n))) := fun x => ⟨_, rfl, Int.emod_nonneg x (by omega), Int.emod_lt_of_pos x hn⟩
  have m1 : -18446744073709551616 < 31 * k ∧ 31 * k < 18446744073709551616 := by omega
  unfold m_law_draw b_law_draw
  by_cases h : 0 < ns.length
  · have h' : (0 : Int) < ns.length := by omega
    have h0 : 0 ≤ k % (ns.length : Int) := Int.emod_nonneg k (by omega)
    have h1 : k % (ns.length : Int) < ns.length := Int.emod_lt_of_pos k (by omega)
    have q0 : 0 ≤ k / (ns.length : Int) := Int.ediv_nonneg hk (by omega)
    have ll : ((ns.length : Int)).natAbs.log2 < 9000 := by
      have : (ns.length : Int).natAbs ≤ 63 := by omega
      have := Nat.log2_le_self (ns.length : Int).natAbs
      omega
    have hmin : 0 ≤ 7 * min 90 (k / (ns.length : Int)) := by omega
    by_cases c1 : 1000000000000000000 ≤ ns.getD (k % (ns.length : Int)).toNat 0
    · by_cases c2 : 127 < ns.getD (k % (ns.length : Int)).toNat 0 / 2 ^ (7 * min 90 (k / (ns.length : Int))).toNat
      · walk_at "ev"
      · walk_at "ev"
    · walk_at "ev"
  · have h' : ¬ (0 : Int) < ns.length := by omega
    walk_at "ev"
end W

namespace W
open PySem L2 Fw PySem.Spec PyProof.Rows
abbrev Pr := Str × Str
structure Ln where
  nm : Str
  rs : List Pr
  e : Pr
def pr (p : Pr) : D := .tuple [.str p.1, .str p.2]
def Ln.toD (l : Ln) : D := .tuple [.str l.nm, .tuple (l.rs.map pr), pr l.e]
def nxt (l : List Pr) (e : Pr) (k : Nat) : Pr := match l[k]? with
  | some p => ("wants", p.1)
  | none => e
def odds : List Pr → Pr → List Pr → Pr → Bool
  | [], e, [], f => !decide (e = f)
  | [], e, b :: _, f => !decide (e = ((("wants" : Str), b.1) : Pr))
  | a :: _, e, [], f => !decide (((("wants" : Str), a.1) : Pr) = f)
  | a :: as, e, b :: bs, f => if a = b then odds as e bs f else !decide (a.1 = b.1)
def cp : List Pr → List Pr → Nat
  | a :: as, b :: bs => if a = b then cp as bs + 1 else 0
  | _, _ => 0
theorem odds_cp : ∀ (l : List Pr) (e : Pr) (l' : List Pr) (f : Pr), odds l e l' f = !decide (nxt l e (cp l l') = nxt l' f (cp l l'))
  | [], e, [], f => rfl
  | [], e, b :: _, f => rfl
  | a :: _, e, [], f => rfl
  | a :: as, e, b :: bs, f => by
    rw [odds, cp]
    by_cases h : a = b
    · rw [if_pos h, if_pos h, odds_cp as e bs f]
      rfl
    · rw [if_neg h, if_neg h]
      simp [nxt]
theorem odds_self : ∀ (l : List Pr) (e : Pr), odds l e l e = false
  | [], e => by simp [odds]
  | a :: as, e => by rw [odds, if_pos rfl]; exact odds_self as e
theorem odds_symm : ∀ (l : List Pr) (e : Pr) (l' : List Pr) (f : Pr), odds l e l' f = odds l' f l e
  | [], e, [], f => by simp [odds, eq_comm]
  | [], e, b :: _, f => by simp [odds, eq_comm]
  | a :: _, e, [], f => by simp [odds, eq_comm]
  | a :: as, e, b :: bs, f => by
    rw [odds, odds]
    by_cases h : a = b
    · rw [if_pos h, if_pos h.symm]; exact odds_symm as e bs f
    · rw [if_neg h, if_neg fun z => h z.symm]
      simp [eq_comm]
theorem eqB_pr (a b : Pr) : dEqB (pr a) (pr b) = some (decide (a = b)) := by
  have : dEqB (pr a) (pr b) = some (PyData.eqv (pr a) (pr b)) := by
    unfold dEqB pr
    exact if_pos ⟨by simp [PyData.plain, PyData.plainAll], by simp [PyData.plain, PyData.plainAll], by simp [PyData.depth, PyData.depthAll]⟩
  rw [this]
  obtain ⟨a1, a2⟩ := a
  obtain ⟨b1, b2⟩ := b
  simp [pr, PyData.eqv, PyData.eqvAll, Bool.beq_eq_decide_eq]
theorem eq_pr (a b : Pr) : dEq (pr a) (pr b) = .ok (.fro (.bool (decide (a = b)))) := by
  unfold dEq; rw [eqB_pr]; rfl
theorem ne_pr (a b : Pr) : dNe (pr a) (pr b) = .ok (.fro (.bool !(decide (a = b)))) := by
  unfold dNe; rw [eqB_pr]; rfl
theorem ix_prs {rs : List Pr} {k : Nat} {p : Pr} (h : rs[k]? = some p) : dIx (.tuple (rs.map pr)) (.int k) = .ok (.fro (pr p)) := by
  have hk := (List.getElem?_eq_some_iff.mp h).1
  rw [ix_t (by rw [List.length_map]; omega)]
  congr 2
  rw [Int.toNat_natCast, List.getD_eq_getElem?_getD, List.getElem?_map, h]
  rfl
theorem next_ok (l : Ln) (k : Nat) (hl : l.rs.length ≤ 100) : Tells (m_next_step [.d l.toD, .d (.int k)]) (fun q => q = .fro (pr (nxt l.rs l.e k))) := by
  obtain ⟨nm, rs, e⟩ := l
  unfold m_next_step b_next_step Ln.toD nxt
  simp only at hl ⊢
  cases h : rs[k]? with
  | none =>
    have hk : ¬ (k : Int) < rs.length := by
      have := List.getElem?_eq_none_iff.mp h
      omega
    simp (decide := true) -implicitDefEqProofs [hk, List.getD_cons_zero, List.getD_cons_succ]
  | some p =>
    have hk : (k : Int) < rs.length := by
      have := (List.getElem?_eq_some_iff.mp h).1
      omega
    have e1 := ix_prs h
    have e2 : dIx2 (pr p) (.int 0) = .ok (.fro (.str p.1)) := rfl
    generalize hM : rs.map pr = M at *
    have hM2 : M.length = rs.length := by rw [← hM, List.length_map]
    have i1 : dIx (.tuple [.str nm, .tuple M, pr e]) (.int 1) = .ok (.fro (.tuple M)) := rfl
    simp (decide := true) -implicitDefEqProofs [hk, hM2, i1, e1, e2, List.getD_cons_zero, List.getD_cons_succ, -ix_t] <;> rfl
theorem take_cp (l l' : List Pr) : ∀ k, k < cp l l' → ∃ p, l[k]? = some p ∧ l'[k]? = some p := by
  induction l generalizing l' with
  | nil => intro k h; simp [cp] at h
  | cons a as ih =>
    intro k h
    cases l' with
    | nil => simp [cp] at h
    | cons b bs =>
      rw [cp] at h
      by_cases q : a = b
      · rw [if_pos q] at h
        cases k with
        | zero => exact ⟨a, rfl, by rw [q]; rfl⟩
        | succ k => exact ih bs k (by omega)
      · rw [if_neg q] at h; omega
theorem at_cp (l l' : List Pr) : l[cp l l']? = none ∨ l'[cp l l']? = none ∨ ∃ p q, l[cp l l']? = some p ∧ l'[cp l l']? = some q ∧ p ≠ q := by
  induction l generalizing l' with
  | nil => exact .inl rfl
  | cons a as ih =>
    cases l' with
    | nil => exact .inr (.inl rfl)
    | cons b bs =>
      rw [cp]
      by_cases q : a = b
      · rw [if_pos q]
        exact ih bs
      · rw [if_neg q]
        exact .inr (.inr ⟨a, b, rfl, rfl, q⟩)
theorem at_odds_ok (l l' : Ln) (hl : l.rs.length ≤ 6) (hl' : l'.rs.length ≤ 6) : Tells (m_at_odds [.d l.toD, .d l'.toD]) (fun q => q = .fro (.bool (odds l.rs l.e l'.rs l'.e))) := by
  obtain ⟨_, n1, rfl⟩ := (next_ok l (cp l.rs l'.rs) (by omega)).call
  obtain ⟨_, n2, rfl⟩ := (next_ok l' (cp l.rs l'.rs) (by omega)).call
  have ho := odds_cp l.rs l.e l'.rs l'.e
  have hne := ne_pr (nxt l.rs l.e (cp l.rs l'.rs)) (nxt l'.rs l'.e (cp l.rs l'.rs))
  rw [← ho] at hne
  have hcp : cp l.rs l'.rs ≤ 6 := by
    by_cases h : cp l.rs l'.rs = 0
    · omega
    · obtain ⟨p, h1, _⟩ := take_cp l.rs l'.rs (cp l.rs l'.rs - 1) (by omega)
      have := (List.getElem?_eq_some_iff.mp h1).1
      omega
  have i1 : dIx l.toD (.int 1) = .ok (.fro (.tuple (l.rs.map pr))) := rfl
  have i2 : dIx l'.toD (.int 1) = .ok (.fro (.tuple (l'.rs.map pr))) := rfl
  have t1 : ∃ d, l.toD = .tuple d := ⟨_, rfl⟩
  have t2 : ∃ d, l'.toD = .tuple d := ⟨_, rfl⟩
  have tk := take_cp l.rs l'.rs
  have ak := at_cp l.rs l'.rs
  unfold m_at_odds b_at_odds
  generalize cp l.rs l'.rs = c at *
  generalize nxt l.rs l.e c = N1 at *
  generalize nxt l'.rs l'.e c = N2 at *
  generalize odds l.rs l.e l'.rs l'.e = O at *
  generalize l.toD = A at *
  generalize l'.toD = B at *
  obtain ⟨A, rfl⟩ := t1
  obtain ⟨B, rfl⟩ := t2
  have x1 : ∀ (k : Nat) (p : Pr), l.rs[k]? = some p → dIx (.tuple (l.rs.map pr)) (.int k) = .ok (.fro (pr p)) := fun k p h => ix_prs h
  have x2 : ∀ (k : Nat) (p : Pr), l'.rs[k]? = some p → dIx (.tuple (l'.rs.map pr)) (.int k) = .ok (.fro (pr p)) := fun k p h => ix_prs h
  have m1 : (l.rs.map pr).length = l.rs.length := List.length_map ..
  have m2 : (l'.rs.map pr).length = l'.rs.length := List.length_map ..
  generalize l.rs.map pr = M1 at *
  generalize l'.rs.map pr = M2 at *
  obtain ⟨o, e1, hpost⟩ := sWhile_inv (n := 8) (body := l_at_odds_0) (tmp := [])
    (t := tAndM (tVal (eBinO dLt (oN 2) (oV (eCall (one dLen) (aCons (eIxN 0 (eC (.int 1))) aNil))))) (tAndM (tVal (eBinO dLt (oN 2) (oV (eCall (one dLen) (aCons (eIxN 1 (eC (.int 1))) aNil))))) (tVal (eBin dEq (eBin dIx2 (eIxN 0 (eC (.int 1))) (eVar 2)) (eBin dIx2 (eIxN 1 (eC (.int 1))) (eVar 2))))))
    (fun k Γ => k ≤ c ∧ Γ = [.d (.tuple A), .d (.tuple B), .d (.int ((c - k : Nat) : Int))])
    (fun o => o = .nx [.d (.tuple A), .d (.tuple B), .d (.int (c : Int))])
    (by
      rintro k Γ ⟨hk, rfl⟩
      by_cases h0 : k = 0
      · subst h0
        refine ⟨false, [.d (.tuple A), .d (.tuple B), .d (.int (c : Int))], ?_, fun _ => rfl, by simp⟩
        rw [Nat.sub_zero]
        rcases ak with h | h | ⟨p, q, h1, h2, hpq⟩
        · have := List.getElem?_eq_none_iff.mp h
          have h3 : ¬ (c : Int) < M1.length := by omega
          simp (decide := true) -implicitDefEqProofs [i1, h3, -ix_t]
        · have := List.getElem?_eq_none_iff.mp h
          have h3 : ¬ (c : Int) < M2.length := by omega
          by_cases h4 : (c : Int) < M1.length
          · simp (decide := true) -implicitDefEqProofs [i1, i2, h3, h4, -ix_t]
          · simp (decide := true) -implicitDefEqProofs [i1, h4, -ix_t]
        · have q1 := (List.getElem?_eq_some_iff.mp h1).1
          have q2 := (List.getElem?_eq_some_iff.mp h2).1
          have h3 : (c : Int) < M1.length := by omega
          have h4 : (c : Int) < M2.length := by omega
          have y1 := x1 c p h1
          have y2 := x2 c q h2
          have y3 := eq_pr p q
          rw [decide_eq_false hpq] at y3
          simp (decide := true) -implicitDefEqProofs [i1, i2, h3, h4, y1, y2, y3, -ix_t]
      · obtain ⟨p, h1, h2⟩ := tk (c - k) (by omega)
        have q1 := (List.getElem?_eq_some_iff.mp h1).1
        have q2 := (List.getElem?_eq_some_iff.mp h2).1
        have h3 : ((c - k : Nat) : Int) < M1.length := by omega
        have h4 : ((c - k : Nat) : Int) < M2.length := by omega
        have y1 := x1 _ p h1
        have y2 := x2 _ p h2
        have y3 := eq_pr p p
        rw [decide_eq_true rfl] at y3
        have y4 : ((c - k : Nat) : Int) + 1 = ((c - (k - 1) : Nat) : Int) := by omega
        refine ⟨true, [.d (.tuple A), .d (.tuple B), .d (.int ((c - k : Nat) : Int))], ?_, by simp, fun _ => ⟨.nx [.d (.tuple A), .d (.tuple B), .d (.int ((c - (k - 1) : Nat) : Int))], ?_, k - 1, by omega, by omega, rfl⟩⟩
        · generalize ((c - k : Nat) : Int) = z at *
          simp (decide := true) -implicitDefEqProofs [i1, i2, h3, h4, y1, y2, y3, -ix_t]
        · unfold l_at_odds_0
          generalize ((c - k : Nat) : Int) = z at *
          simp (decide := true) -implicitDefEqProofs [y4])
    (k := c) (Γ := [.d (.tuple A), .d (.tuple B), .d (.int 0)]) (by omega) ⟨Nat.le_refl _, by rw [Nat.sub_self]; rfl⟩
  subst hpost
  simp (decide := true) -implicitDefEqProofs [e1, n1, n2, hne]
end W

namespace W
open PySem L2 Fw PySem.Spec PyProof.Rows
abbrev St := Pr × Option Str
def optD : Option Str → D
  | none => .none
  | some x => .str x
def stD (s : St) : D := .tuple [pr s.1, optD s.2]
def stl (l : List Pr) (e : Pr) : List St := l.map (fun p => ((("wants", p.1) : Pr), some p.2)) ++ [(e, none)]
theorem steps_ok (l : Ln) (hl : l.rs.length ≤ 100) : Tells (m_law_steps [.d l.toD]) (fun q => q = .own (.lst ((stl l.rs l.e).map stD))) := by
  obtain ⟨nm, rs, e⟩ := l
  simp only at hl
  unfold m_law_steps b_law_steps
  have t1 := eLc_map rs pr (fun p => stD ((("wants", p.1) : Pr), some p.2)) (mi := iAny (eIxN 0 (eC (.int 1)))) (b := bTup [2, 3]) (tt := tYesM) (me := eTup (aCons (eTup (aCons (eC (.str "wants")) (aCons (eVar 2) aNil))) (aCons (eVar 3) aNil))) (vs := [2, 3])
    (Γ := [.d (Ln.toD ⟨nm, rs, e⟩), .no, .no, .no]) (Γ1 := [.d (Ln.toD ⟨nm, rs, e⟩), .no, .no, .no]) (by unfold Ln.toD; simp -implicitDefEqProofs [List.getD_cons_zero, List.getD_cons_succ]) (by omega) (by
      intro p hp
      generalize Ln.toD ⟨nm, rs, e⟩ = A
      exact ⟨[.d A, .no, .d (.str p.1), .d (.str p.2)], [.d A, .no, .d (.str p.1), .d (.str p.2)], .fro (stD ((("wants", p.1) : Pr), some p.2)), by unfold pr; simp -implicitDefEqProofs, by simp, by simp -implicitDefEqProofs [stD, pr, optD], rfl, by simp⟩)
  have i2 : dIx (Ln.toD ⟨nm, rs, e⟩) (.int 2) = .ok (.fro (pr e)) := rfl
  have ht : ∃ A, Ln.toD ⟨nm, rs, e⟩ = .tuple A := ⟨_, rfl⟩
  have hs : (stl rs e).map stD = (rs.map fun p => stD ((("wants", p.1) : Pr), some p.2)) ++ [.tuple [pr e, .none]] := by
    unfold stl
    rw [List.map_append, List.map_map]
    rfl
  have ha : dAdd (.list (rs.map fun p => stD ((("wants", p.1) : Pr), some p.2))) (.list [.tuple [pr e, .none]]) = .ok (.own (.lst ((rs.map fun p => stD ((("wants", p.1) : Pr), some p.2)) ++ [.tuple [pr e, .none]]))) := add_ll (by simp only [List.length_map, List.length_cons, List.length_nil]; omega)
  rw [hs]
  generalize Ln.toD ⟨nm, rs, e⟩ = A at *
  obtain ⟨A, rfl⟩ := ht
  generalize (rs.map fun p => stD ((("wants", p.1) : Pr), some p.2)) = M at *
  simp (decide := true) -implicitDefEqProofs [t1, i2, ha, -ix_t]
def go : List (St × St) → Bool
  | [] => false
  | p :: r => if p.1.1 = p.2.1 then (if p.1.2 = p.2.2 then go r else false) else true
theorem odds_go : ∀ (l : List Pr) (e : Pr) (l' : List Pr) (f : Pr), odds l e l' f = go ((stl l e).zip (stl l' f))
  | [], e, [], f => by
    simp only [odds, stl, List.map_nil, List.nil_append, List.zip_cons_cons, List.zip_nil_right, go]
    by_cases h : e = f <;> simp [h]
  | [], e, b :: bs, f => by
    simp only [odds, stl, List.map_nil, List.nil_append, List.map_cons, List.cons_append, List.zip_cons_cons, List.zip_nil_left, go]
    by_cases h : e = ((("wants" : Str), b.1) : Pr) <;> simp [h]
  | a :: as, e, [], f => by
    simp only [odds, stl, List.map_nil, List.nil_append, List.map_cons, List.cons_append, List.zip_cons_cons, List.zip_nil_right, go]
    by_cases h : ((("wants" : Str), a.1) : Pr) = f <;> simp [h]
  | a :: as, e, b :: bs, f => by
    have ih := odds_go as e bs f
    unfold stl at ih ⊢
    simp only [odds, List.map_cons, List.cons_append, List.zip_cons_cons, go, ← ih]
    obtain ⟨a1, a2⟩ := a
    obtain ⟨b1, b2⟩ := b
    by_cases h1 : a1 = b1 <;> by_cases h2 : a2 = b2 <;> simp [h1, h2]
theorem ne_opt (x y : Option Str) : dNe (optD x) (optD y) = .ok (.fro (.bool !(decide (x = y)))) := by
  cases x <;> cases y
  · rfl
  · rfl
  · rfl
  · unfold optD dNe dEqB fr
    simp
theorem lodds_ok (l l' : Ln) (hl : l.rs.length ≤ 100) (hl' : l'.rs.length ≤ 100) : Tells (m_law_odds [.d l.toD, .d l'.toD]) (fun q => q = .fro (.bool (odds l.rs l.e l'.rs l'.e))) := by
  obtain ⟨_, s1, rfl⟩ := (steps_ok l hl).call
  obtain ⟨_, s2, rfl⟩ := (steps_ok l' hl').call
  rw [odds_go]
  generalize stl l.rs l.e = U at *
  generalize stl l'.rs l'.e = V at *
  generalize l.toD = A at *
  generalize l'.toD = B at *
  have hz : zipD (U.map stD) (V.map stD) = (U.zip V).map fun p => .tuple [stD p.1, stD p.2] := by
    unfold zipD
    clear s1 s2
    induction U generalizing V with
    | nil => rfl
    | cons u U ih =>
      cases V with
      | nil => rfl
      | cons v V => rw [List.map_cons, List.map_cons, List.zipWith_cons_cons, ih, List.zip_cons_cons, List.map_cons]
  unfold m_law_odds b_law_odds
  obtain ⟨o, e1, hpost⟩ := sFor_any (U.zip V) (fun p => .tuple [stD p.1, stD p.2]) (fun i Γ => Γ = [.d A, .d B, .no, .no] ∧ go ((U.zip V).drop i) = go (U.zip V))
    (fun o => (o = .nx [.d A, .d B, .no, .no] ∧ go (U.zip V) = false) ∨ ∃ g, o = .rt (.fro (.bool (go (U.zip V)))) g)
    (mi := iZip2 (aCons (eFn m_law_steps (aCons (eVar 0) aNil)) (aCons (eFn m_law_steps (aCons (eVar 1) aNil)) aNil))) (b := bTup [2, 3]) (body := l_law_odds_0) (tmp := [2, 3]) (Γ := [.d A, .d B, .no, .no]) (Γ1 := [.d A, .d B, .no, .no])
    (by simp -implicitDefEqProofs [s1, s2, hz]) ⟨rfl, by rw [List.drop_zero]⟩ (by
      rintro i ⟨x, y⟩ _ hx ⟨rfl, hg⟩
      have hd : (U.zip V).drop i = (x, y) :: (U.zip V).drop (i + 1) := by
        obtain ⟨hi, h2⟩ := List.getElem?_eq_some_iff.mp hx
        rw [List.drop_eq_getElem_cons hi, h2]
      rw [hd, go] at hg
      have n1 := ne_pr x.1 y.1
      have n2 := ne_opt x.2 y.2
      have i10 : dIx (stD x) (.int 0) = .ok (.fro (pr x.1)) := rfl
      have i20 : dIx (stD y) (.int 0) = .ok (.fro (pr y.1)) := rfl
      have i11 : dIx (stD x) (.int 1) = .ok (.fro (optD x.2)) := rfl
      have i21 : dIx (stD y) (.int 1) = .ok (.fro (optD y.2)) := rfl
      have tx : ∃ d, stD x = .tuple d := ⟨_, rfl⟩
      have ty : ∃ d, stD y = .tuple d := ⟨_, rfl⟩
      unfold l_law_odds_0
      simp only at hg ⊢
      generalize stD x = X at *
      generalize stD y = Y at *
      obtain ⟨X, rfl⟩ := tx
      obtain ⟨Y, rfl⟩ := ty
      by_cases h1 : x.1 = y.1
      · rw [if_pos h1] at hg
        rw [decide_eq_true h1] at n1
        by_cases h2 : x.2 = y.2
        · rw [if_pos h2] at hg
          rw [decide_eq_true h2] at n2
          refine ⟨[.d A, .d B, .d (.tuple X), .d (.tuple Y)], .nx [.d A, .d B, .d (.tuple X), .d (.tuple Y)], by simp, ?_, by simp, hg⟩
          simp (decide := true) -implicitDefEqProofs [i10, i20, i11, i21, n1, n2, -ix_t]
        · rw [if_neg h2] at hg
          rw [decide_eq_false h2] at n2
          refine ⟨[.d A, .d B, .d (.tuple X), .d (.tuple Y)], .rt (.fro (.bool false)) [.d A, .d B, .d (.tuple X), .d (.tuple Y)], by simp, ?_, .inr ⟨_, by rw [← hg]⟩⟩
          simp (decide := true) -implicitDefEqProofs [i10, i20, i11, i21, n1, n2, -ix_t]
      · rw [if_neg h1] at hg
        rw [decide_eq_false h1] at n1
        refine ⟨[.d A, .d B, .d (.tuple X), .d (.tuple Y)], .rt (.fro (.bool true)) [.d A, .d B, .d (.tuple X), .d (.tuple Y)], by simp, ?_, .inr ⟨_, by rw [← hg]⟩⟩
        simp (decide := true) -implicitDefEqProofs [i10, i20, n1, -ix_t])
    (by
      rintro _ ⟨rfl, hg⟩
      rw [List.drop_length] at hg
      exact .inl ⟨rfl, hg.symm⟩)
  rcases hpost with ⟨rfl, hg⟩ | ⟨g, rfl⟩
  · rw [hg]
    simp -implicitDefEqProofs [e1]
  · simp -implicitDefEqProofs [e1]
end W

namespace W
open PySem L2 Fw PySem.Spec PyProof.Rows
theorem said_ok (l l' : Ln) (due : Bool) (hl : l.rs.length ≤ 6) (hl' : l'.rs.length ≤ 6) : Tells (m_law_said [.d l.toD, .d l'.toD, .d (.bool due)]) (fun q => q = .fro (.bool (decide (odds l.rs l.e l'.rs l'.e = due)))) := by
  obtain ⟨_, s1, rfl⟩ := (at_odds_ok l l' hl hl').call
  unfold m_law_said b_law_said
  generalize odds l.rs l.e l'.rs l'.e = O at *
  cases O <;> cases due <;> simp (decide := true) -implicitDefEqProofs [s1]
theorem pair_ok (l l' : Ln) (hl : l.rs.length ≤ 6) (hl' : l'.rs.length ≤ 6) (Γ : Gm) : callRes (m_law_pair_right [.d l.toD, .d l'.toD]) Γ = .ok (.fro (.bool true), Γ) := by
  have key : Tells (m_law_pair_right [.d l.toD, .d l'.toD]) (fun q => q = .fro (.bool true)) := by
    obtain ⟨_, s0, rfl⟩ := (lodds_ok l l' (by omega) (by omega)).call
    obtain ⟨_, s1, rfl⟩ := (said_ok l l' (odds l.rs l.e l'.rs l'.e) hl hl').call
    obtain ⟨_, s2, rfl⟩ := (said_ok l' l (odds l.rs l.e l'.rs l'.e) hl' hl).call
    obtain ⟨_, s3, rfl⟩ := (said_ok l l false hl hl).call
    obtain ⟨_, s4, rfl⟩ := (said_ok l' l' false hl' hl').call
    rw [decide_eq_true rfl] at s1
    rw [odds_symm l'.rs, decide_eq_true rfl] at s2
    rw [odds_self, decide_eq_true rfl] at s3 s4
    have i0 : dIx l'.toD (.int 0) = .ok (.fro (.str l'.nm)) := rfl
    have i1 : dIx l'.toD (.int 1) = .ok (.fro (.tuple (l'.rs.map pr))) := rfl
    have i2 : dIx l'.toD (.int 2) = .ok (.fro (pr l'.e)) := rfl
    have hd : l'.toD = .tuple [.str l'.nm, .tuple (l'.rs.map pr), pr l'.e] := rfl
    have tt : ∃ d, l'.toD = .tuple d := ⟨_, rfl⟩
    unfold m_law_pair_right b_law_pair_right
    generalize odds l.rs l.e l'.rs l'.e = O at *
    generalize l.toD = A at *
    generalize PyData.str l'.nm = n0 at *
    generalize PyData.tuple (l'.rs.map pr) = n1 at *
    generalize pr l'.e = n2 at *
    generalize l'.toD = B at *
    obtain ⟨B, rfl⟩ := tt
    simp (decide := true) -implicitDefEqProofs [s0, s1, s2, s3, i0, i1, i2, ← hd, s4, -ix_t]
  obtain ⟨_, e, rfl⟩ := key.call
  exact e Γ
end W

namespace W
open PySem L2 Fw PySem.Spec PyProof.Rows
theorem cut_m1 {α : Type} (xs : List α) : Fw.cutD xs none (some (-1)) = xs.take (xs.length - 1) := by
  have h1 : HT.sIx xs.length xs.length (some (-1)) = xs.length - 1 := by
    show (if (-1 : Int) < 0 then ((-1 : Int) + (xs.length : Int)).toNat else min (-1 : Int).toNat xs.length) = _
    rw [if_pos (by decide)]
    omega
  unfold Fw.cutD
  rw [h1, show HT.sIx xs.length 0 none = 0 from rfl, List.drop_zero, Nat.sub_zero]
theorem getD_mem {α : Type} {xs : List α} {n : Nat} {d : α} (h : n < xs.length) : xs.getD n d ∈ xs := by
  rw [List.getD_eq_getElem?_getD, List.getElem?_eq_getElem h]
  exact List.getElem_mem h
theorem one_line_ok (ns : List Int) (hl : ns.length ≤ 63) (k : Int) (hk : 0 ≤ k) (hk2 : k ≤ 10000) : Tells (m_law_one_line [.d (.list (ns.map .int)), .d (.int k)]) (fun q => ∃ l : Ln, q = .fro l.toD ∧ l.rs.length ≤ 3) := by
  have dr := fun (k n : Int) (h1 : 0 ≤ k) (h2 : k ≤ 100000) (h3 : 0 < n) (h4 : n < 18446744073709551616) => draw_s ns hl k n h1 h2 h3 h4
  generalize PyData.list (ns.map .int) = sc at *
  obtain ⟨_, d1, m, rfl, m1, m2⟩ := (dr k 4 (by omega) (by omega) (by omega) (by omega)).call
  unfold m_law_one_line b_law_one_line
  obtain ⟨Γ1, e1, rs, rfl, hrs⟩ := sFor_inv (List.range m.toNat) (fun i => PyData.int ((i : Nat) : Int)) (fun i Γ => ∃ rs : List Pr, Γ = [.d sc, .d (.int k), .ow (.lst (rs.map pr)), .no, .no, .no] ∧ rs.length = i)
    (mi := iR1 (aCons (eFn m_law_draw (aCons (eVar 0) (aCons (eVar 1) (aCons (eC (.int 4)) aNil)))) aNil)) (b := bName 3) (body := l_law_one_line_0) (tmp := [3, 4]) (Γ := [.d sc, .d (.int k), .ow (.lst []), .no, .no, .no])
    (iR1_eq (n := m) (Γ1 := [.d sc, .d (.int k), .ow (.lst []), .no, .no, .no]) (by simp -implicitDefEqProofs [d1]) (by omega)) ⟨[], rfl, rfl⟩ (by
      rintro i x _ hx ⟨rs, rfl, hi⟩
      obtain ⟨hi2, hx3⟩ := List.getElem?_eq_some_iff.mp hx
      rw [List.length_range] at hi2
      rw [List.getElem_range] at hx3
      subst hx3
      obtain ⟨_, d2, r, rfl, r1, r2⟩ := (dr (k + 1 + 2 * (i : Int)) 4 (by omega) (by omega) (by omega) (by omega)).call
      obtain ⟨_, d3, s, rfl, s1, s2⟩ := (dr (k + 2 + 2 * (i : Int)) 3 (by omega) (by omega) (by omega) (by omega)).call
      have x2 : dIx (.list [.str "a", .str "a", .str "ab", .str "b"]) (.int r) = .ok (.fro (.str ((["a", "a", "ab", "b"] : List Str).getD r.toNat ""))) := ix_ls (xs := ["a", "a", "ab", "b"]) ⟨r1, by simp; omega⟩
      have x3 : dIx (.list [.str "1", .str "'a", .str "()"]) (.int s) = .ok (.fro (.str ((["1", "'a", "()"] : List Str).getD s.toNat ""))) := ix_ls (xs := ["1", "'a", "()"]) ⟨s1, by simp; omega⟩
      generalize (["a", "a", "ab", "b"] : List Str).getD r.toNat "" = u at x2
      generalize (["1", "'a", "()"] : List Str).getD s.toNat "" = w at x3
      refine ⟨[.d sc, .d (.int k), .ow (.lst (rs.map pr)), .d (.int i), .no, .no], [.d sc, .d (.int k), .ow (.lst ((rs ++ [(u, w)]).map pr)), .d (.int i), .d (.str u), .no], by simp, .inl ?_, rs ++ [(u, w)], by simp, by simp; omega⟩
      have ha : mAppend (rs.map pr) [.tuple [.str u, .str w]] = some (.none, (rs ++ [(u, w)]).map pr) := by
        rw [List.map_append]
        unfold mAppend
        exact if_pos (by rw [List.length_map]; unfold lim; omega)
      unfold l_law_one_line_0
      generalize rs.map pr = M at *
      generalize (rs ++ [(u, w)]).map pr = N at *
      simp (decide := true) -implicitDefEqProofs [d2, d3, x2, x3, ha, -ix_l, -ix_ls])
  rw [List.length_range] at hrs
  obtain ⟨_, d4, r, rfl, r1, r2⟩ := (dr (k + 8) 3 (by omega) (by omega) (by omega) (by omega)).call
  obtain ⟨_, d5, s, rfl, s1, s2⟩ := (dr (k + 9) 7 (by omega) (by omega) (by omega) (by omega)).call
  have x4 : dIx (.list [.str "x", .str "y", .str "x"]) (.int r) = .ok (.fro (.str ((["x", "y", "x"] : List Str).getD r.toNat ""))) := ix_ls (xs := ["x", "y", "x"]) ⟨r1, by simp; omega⟩
  have x5 : dIx (.list ((([("made", "1"), ("made", "'"), ("fails", "a"), ("fails", "ab"), ("wants", "a"), ("wants", "b"), ("wants", "ab")] : List Pr)).map pr)) (.int s) = .ok (.fro (pr ((([("made", "1"), ("made", "'"), ("fails", "a"), ("fails", "ab"), ("wants", "a"), ("wants", "b"), ("wants", "ab")] : List Pr)).getD s.toNat ("", "")))) := by
    rw [ix_l ⟨s1, by simp; omega⟩]
    exact congrArg (fun z => Res.ok (R.fro z)) (getD_map pr _ _ .none ("", "") (by simp; omega))
  generalize (["x", "y", "x"] : List Str).getD r.toNat "" = u at x4
  generalize ((([("made", "1"), ("made", "'"), ("fails", "a"), ("fails", "ab"), ("wants", "a"), ("wants", "b"), ("wants", "ab")] : List Pr)).getD s.toNat ("", "")) = e at x5
  simp only [List.map_cons, List.map_nil, pr] at x5
  have hM : ∃ M, rs.map pr = M := ⟨_, rfl⟩
  have hres : Tells (.ok (R.fro (Ln.toD ⟨u, rs, e⟩), [.d sc, .d (.int k)])) (fun q => ∃ l : Ln, q = .fro l.toD ∧ l.rs.length ≤ 3) := ⟨_, _, rfl, ⟨u, rs, e⟩, rfl, by show rs.length ≤ 3; omega⟩
  simp (decide := true) -implicitDefEqProofs [e1, d4, d5, x4, x5, -ix_l, -ix_ls]
  refine ⟨⟨u, rs, e⟩, rfl, by show rs.length ≤ 3; omega⟩
end W

namespace W
open PySem L2 Fw PySem.Spec PyProof.Rows
theorem bent_ok (ns : List Int) (hl : ns.length ≤ 63) (k : Int) (hk : 0 ≤ k) (hk2 : k ≤ 9000) (l : Ln) (h3 : l.rs.length ≤ 3) : Tells (m_law_bent [.d (.list (ns.map .int)), .d (.int k), .d l.toD]) (fun q => ∃ l : Ln, q = .fro l.toD ∧ l.rs.length ≤ 4) := by
  obtain ⟨_, d1, o, rfl, ho⟩ := (one_line_ok ns hl (k + 1) (by omega) (by omega)).call
  obtain ⟨_, d2, r, rfl, r1, r2⟩ := (draw_s ns hl k 8 (by omega) (by omega) (by omega) (by omega)).call
  generalize PyData.list (ns.map .int) = sc at *
  obtain ⟨nm, rs, e⟩ := l
  obtain ⟨nm2, rs2, e2⟩ := o
  simp only at h3 ho
  have hx : dIx (.list (([⟨nm2, rs2, e2⟩, ⟨nm, rs, e2⟩, ⟨nm2, rs, e⟩, ⟨nm, rs.take (rs.length - 1), e⟩, ⟨nm, rs ++ rs2.take 1, e⟩, ⟨nm, rs.take (rs.length - 1) ++ rs2.take 1, e⟩, ⟨nm2, rs2, e2⟩, ⟨nm, rs, e2⟩] : List Ln).map Ln.toD)) (.int r) = .ok (.fro (Ln.toD (([⟨nm2, rs2, e2⟩, ⟨nm, rs, e2⟩, ⟨nm2, rs, e⟩, ⟨nm, rs.take (rs.length - 1), e⟩, ⟨nm, rs ++ rs2.take 1, e⟩, ⟨nm, rs.take (rs.length - 1) ++ rs2.take 1, e⟩, ⟨nm2, rs2, e2⟩, ⟨nm, rs, e2⟩] : List Ln).getD r.toNat ⟨nm, [], e⟩))) := by
    rw [ix_l ⟨r1, by simp; omega⟩]
    exact congrArg (fun z => Res.ok (R.fro z)) (getD_map Ln.toD _ _ .none ⟨nm, [], e⟩ (by simp; omega))
  have hm : ([⟨nm2, rs2, e2⟩, ⟨nm, rs, e2⟩, ⟨nm2, rs, e⟩, ⟨nm, rs.take (rs.length - 1), e⟩, ⟨nm, rs ++ rs2.take 1, e⟩, ⟨nm, rs.take (rs.length - 1) ++ rs2.take 1, e⟩, ⟨nm2, rs2, e2⟩, ⟨nm, rs, e2⟩] : List Ln).getD r.toNat ⟨nm, [], e⟩ ∈ ([⟨nm2, rs2, e2⟩, ⟨nm, rs, e2⟩, ⟨nm2, rs, e⟩, ⟨nm, rs.take (rs.length - 1), e⟩, ⟨nm, rs ++ rs2.take 1, e⟩, ⟨nm, rs.take (rs.length - 1) ++ rs2.take 1, e⟩, ⟨nm2, rs2, e2⟩, ⟨nm, rs, e2⟩] : List Ln) := getD_mem (by simp; omega)
  generalize ([⟨nm2, rs2, e2⟩, ⟨nm, rs, e2⟩, ⟨nm2, rs, e⟩, ⟨nm, rs.take (rs.length - 1), e⟩, ⟨nm, rs ++ rs2.take 1, e⟩, ⟨nm, rs.take (rs.length - 1) ++ rs2.take 1, e⟩, ⟨nm2, rs2, e2⟩, ⟨nm, rs, e2⟩] : List Ln).getD r.toNat ⟨nm, [], e⟩ = res at hx hm
  have hlen : res.rs.length ≤ 4 := by
    simp only [List.mem_cons, List.not_mem_nil, or_false] at hm
    rcases hm with rfl | rfl | rfl | rfl | rfl | rfl | rfl | rfl <;> simp <;> omega
  unfold m_law_bent b_law_bent
  simp only [List.map_cons, List.map_nil, Ln.toD, List.map_append, List.map_take] at hx d1 ⊢
  have c1 : Fw.cutD (rs.map pr) none (some (-1)) = (rs.map pr).take (rs.length - 1) := by rw [cut_m1, List.length_map]
  have a1 : dAdd (.tuple (rs.map pr)) (.tuple ((rs2.map pr).take 1)) = .ok (.fro (.tuple (rs.map pr ++ (rs2.map pr).take 1))) := by
    unfold dAdd
    exact if_pos (by simp only [List.length_map, List.length_take]; unfold lim; omega)
  have a2 : dAdd (.tuple ((rs.map pr).take (rs.length - 1))) (.tuple ((rs2.map pr).take 1)) = .ok (.fro (.tuple ((rs.map pr).take (rs.length - 1) ++ (rs2.map pr).take 1))) := by
    unfold dAdd
    exact if_pos (by simp only [List.length_map, List.length_take]; unfold lim; omega)
  have hres : ∃ d, res.toD = d := ⟨_, rfl⟩
  obtain ⟨d, hd⟩ := hres
  rw [show (PyData.tuple [.str res.nm, .tuple (res.rs.map pr), pr res.e]) = d from hd] at hx
  generalize rs.map pr = M at *
  generalize rs2.map pr = M2 at *
  simp (decide := true) -implicitDefEqProofs [d1, d2, c1, a1, a2, hx, List.getD_cons_zero, List.getD_cons_succ, -ix_l, -ix_ls]
  exact ⟨res, hd.symm, hlen⟩
end W

namespace W
open PySem L2 Fw PySem.Spec PyProof.Rows
local macro_rules | `(tactic| walk_at "ev") => `(tactic| simp -implicitDefEqProofs (decide := true) (disch := first | omega | (simp; done) | (simp [-List.getD_eq_getElem?_getD]; omega)) [*, -List.getD_eq_getElem?_getD, List.getD_cons_zero, List.getD_cons_succ, txt_join])
def letters : Str := "abcdefghijklmnopqrstuvwxyz"
def signs : Str := "abcdefghijklmnopqrstuvwxyz0123456789-"
/-- a text of signs of z -/
def Of (z x : Str) : Prop := ∀ c ∈ x.cps.toList, c ∈ z.cps.toList
theorem letters_signs : ∀ c ∈ letters.cps.toList, c ∈ signs.cps.toList := by decide
def PS (x : Str) : Prop := x.length ≤ 20 ∧ Of signs x
def PI (k : Int) : Prop := -1000000000000000000 ≤ k ∧ k ≤ 1000000000000000000
def fit : Nat → Val → Prop
  | _, .i k => PI k
  | _, .s x => PS x
  | 0, .r _ => False
  | d + 1, .r vs => vs.length ≤ 8 ∧ ∀ v ∈ vs, fit d v
@[simp] theorem fit_i (d : Nat) (k : Int) : fit d (.i k) = PI k := by cases d <;> rfl
@[simp] theorem fit_s (d : Nat) (k : Str) : fit d (.s k) = PS k := by cases d <;> rfl
theorem fit_r (d : Nat) (vs : List Val) : fit (d + 1) (.r vs) ↔ vs.length ≤ 8 ∧ ∀ v ∈ vs, fit d v := Iff.rfl
theorem l0 : Str.ofString "" = T [] := by decide
theorem l39 : Str.ofString "'" = T [39] := by decide
theorem l40 : Str.ofString "(" = T [40] := by decide
theorem l41 : Str.ofString ")" = T [41] := by decide
theorem l44 : Str.ofString "," = T [44] := by decide
def st (v : Val) : List Nat := v.stamp.cps.toList
theorem st_T (v : Val) : v.stamp = T (st v) := (T_of _).symm
theorem st_s (x : Str) : st (.s x) = 39 :: x.cps.toList := by
  unfold st
  rw [Val.stamp_s, ← T_of x]
  rw [show (("'" : Str)) = T [39] from l39, T_app]
  rfl
theorem st_nat (m : Nat) : st (.i m) = TL.numL m := by
  unfold st
  rw [Val.stamp_i, txtN]
  rfl
theorem st_neg {m : Nat} (h : 0 < m) : st (.i (-(m : Int))) = 45 :: TL.numL m := by
  unfold st
  rw [Val.stamp_i, txtNeg h]
  rfl
def J : List Val → List Nat
  | [] => []
  | [v] => st v
  | v :: w :: ws => st v ++ 44 :: J (w :: ws)
theorem J_two (v w : Val) (ws : List Val) : J (v :: w :: ws) = st v ++ 44 :: J (w :: ws) := rfl
theorem J_join : ∀ vs : List Val, Str.join (Str.ofString ",") (vs.map Val.stamp) = T (J vs)
  | [] => l0
  | [v] => st_T v
  | v :: w :: ws => by
    show v.stamp ++ Str.ofString "," ++ Str.join (Str.ofString ",") ((w :: ws).map Val.stamp) = _
    rw [J_join (w :: ws), st_T v, l44, T_app, T_app, J_two]
    simp
theorem st_r (vs : List Val) : st (.r vs) = 40 :: (J vs ++ [41]) := by
  have e : (Val.r vs).stamp = T (40 :: (J vs ++ [41])) := by
    rw [Val.stamp_r, txt_join, show (("," : Str)) = Str.ofString "," from rfl, J_join, show (("(" : Str)) = T [40] from l40, show ((")" : Str)) = T [41] from l41, T_app, T_app]
    rfl
  unfold st
  rw [e]
  rfl
/-- what may stand behind a shown value -/
def Beh (rest : List Nat) : Prop := ∀ c, rest.head? = some c → c = 44 ∨ c = 41
/-- a run of signs and what stops it -/
theorem run_inj {p : Nat → Prop} : ∀ {a b r r' : List Nat}, (∀ c ∈ a, p c) → (∀ c ∈ b, p c) → (∀ c, r.head? = some c → ¬ p c) → (∀ c, r'.head? = some c → ¬ p c) → a ++ r = b ++ r' → a = b ∧ r = r'
  | [], [], r, r', _, _, _, _, h => ⟨rfl, h⟩
  | [], y :: b, r, r', _, hb, hr, _, h => by
    cases r with
    | nil => cases h
    | cons c r =>
      simp only [List.nil_append, List.cons_append, List.cons.injEq] at h
      exact (hr c rfl (by rw [h.1]; exact hb y (by simp))).elim
  | x :: a, [], r, r', ha, _, _, hr', h => by
    cases r' with
    | nil => cases h
    | cons c r' =>
      simp only [List.nil_append, List.cons_append, List.cons.injEq] at h
      exact (hr' c rfl (by rw [← h.1]; exact ha x (by simp))).elim
  | x :: a, y :: b, r, r', ha, hb, hr, hr', h => by
    simp only [List.cons_append, List.cons.injEq] at h
    obtain ⟨e1, e2⟩ := run_inj (fun c hc => ha c (List.mem_cons_of_mem _ hc)) (fun c hc => hb c (List.mem_cons_of_mem _ hc)) hr hr' h.2
    rw [h.1, e1]
    exact ⟨rfl, e2⟩
theorem num_run {m k : Nat} {r r' : List Nat} (hr : Beh r) (hr' : Beh r') (h : TL.numL m ++ r = TL.numL k ++ r') : m = k ∧ r = r' := by
  obtain ⟨e1, e2⟩ := run_inj (p := fun c => 48 ≤ c ∧ c ≤ 57) (fun c hc => TL.numL_digits m c hc) (fun c hc => TL.numL_digits k c hc) (fun c hc => by have := hr c hc; omega) (fun c hc => by have := hr' c hc; omega) h
  exact ⟨TL.numL_inj e1.symm |>.symm |> fun z => z, e2⟩
theorem st_first {d : Nat} {v : Val} (h : fit d v) : ∃ a l, st v = a :: l ∧ a ≠ 41 := by
  cases v with
  | i k =>
    by_cases hk : 0 ≤ k
    · obtain ⟨m, rfl⟩ := Int.eq_ofNat_of_zero_le hk
      rw [st_nat]
      have hne := TL.numL_ne m
      have hd := TL.numL_digits m
      cases hs : TL.numL m with
      | nil => exact (hne hs).elim
      | cons a l => exact ⟨a, l, rfl, by have := hd a (by rw [hs]; simp); omega⟩
    · obtain ⟨m, rfl, h0⟩ : ∃ m : Nat, k = -(m : Int) ∧ 0 < m := ⟨k.natAbs, by omega, by omega⟩
      rw [st_neg h0]
      exact ⟨45, _, rfl, by decide⟩
  | s x =>
    rw [st_s]
    exact ⟨39, _, rfl, by decide⟩
  | r vs =>
    rw [st_r]
    exact ⟨40, _, rfl, by decide⟩
theorem J_inj {P : Val → Val → Prop} (ih : ∀ v w r r', P v w → Beh r → Beh r' → st v ++ r = st w ++ r' → v = w ∧ r = r') : ∀ (us ws : List Val) (r r' : List Nat), (∀ v ∈ us, ∃ a l, st v = a :: l ∧ a ≠ 41) → (∀ v ∈ ws, ∃ a l, st v = a :: l ∧ a ≠ 41) →
    (∀ u ∈ us, ∀ w ∈ ws, P u w) → J us ++ 41 :: r = J ws ++ 41 :: r' → us = ws ∧ r = r' := by
  have b41 : ∀ s : List Nat, Beh (41 :: s) := by
    intro s c hc
    simp at hc
    exact .inr hc.symm
  have b44 : ∀ s : List Nat, Beh (44 :: s) := by
    intro s c hc
    simp at hc
    exact .inl hc.symm
  intro us
  induction us with
  | nil =>
    intro ws r r' _ hn2 _ h
    cases ws with
    | nil => simpa [J] using h
    | cons w ws =>
      obtain ⟨a, l, e, n⟩ := hn2 w (by simp)
      cases ws with
      | nil =>
        simp only [J, e, List.nil_append, List.cons_append, List.cons.injEq] at h
        exact (n h.1.symm).elim
      | cons w2 ws =>
        simp only [J, e, List.nil_append, List.cons_append, List.cons.injEq] at h
        exact (n h.1.symm).elim
  | cons u us ihu =>
    intro ws r r' hn1 hn2 hp h
    cases ws with
    | nil =>
      obtain ⟨a, l, e, n⟩ := hn1 u (by simp)
      cases us with
      | nil =>
        simp only [J, e, List.nil_append, List.cons_append, List.cons.injEq] at h
        exact (n h.1).elim
      | cons u2 us =>
        simp only [J, e, List.nil_append, List.cons_append, List.cons.injEq] at h
        exact (n h.1).elim
    | cons w ws =>
      cases us with
      | nil =>
        cases ws with
        | nil =>
          obtain ⟨e1, e2⟩ := ih u w _ _ (hp u (by simp) w (by simp)) (b41 r) (b41 r') h
          rw [e1]
          exact ⟨rfl, by simpa using e2⟩
        | cons w2 ws =>
          rw [J_two, List.append_assoc] at h
          obtain ⟨e1, e2⟩ := ih u w _ _ (hp u (by simp) w (by simp)) (b41 r) (b44 _) h
          simp at e2
      | cons u2 us =>
        cases ws with
        | nil =>
          rw [J_two, List.append_assoc] at h
          obtain ⟨e1, e2⟩ := ih u w _ _ (hp u (by simp) w (by simp)) (b44 _) (b41 r') h
          simp at e2
        | cons w2 ws =>
          rw [J_two, J_two, List.append_assoc, List.append_assoc] at h
          obtain ⟨e1, e2⟩ := ih u w _ _ (hp u (by simp) w (by simp)) (b44 _) (b44 _) h
          simp only [List.cons_append, List.cons.injEq, true_and] at e2
          obtain ⟨e3, e4⟩ := ihu (w2 :: ws) r r' (fun a ha => hn1 a (List.mem_cons_of_mem _ ha)) (fun a ha => hn2 a (List.mem_cons_of_mem _ ha)) (fun a ha c hc => hp a (List.mem_cons_of_mem _ ha) c (List.mem_cons_of_mem _ hc)) e2
          rw [e1, e3]
          exact ⟨rfl, e4⟩
theorem st_inj : ∀ (d : Nat) (v w : Val) (r r' : List Nat), (fit d v ∧ fit d w) → Beh r → Beh r' → st v ++ r = st w ++ r' → v = w ∧ r = r' := by
  intro d
  induction d with
  | zero =>
    intro v w r r' hf hr hr' h
    exact st_plain 0 v w r r' hf.1 hf.2 (by rintro vs rfl; exact hf.1) (by rintro vs rfl; exact hf.2) hr hr' h
  | succ d ih =>
    intro v w r r' hf hr hr' h
    by_cases hv : ∃ vs, v = .r vs
    · obtain ⟨vs, rfl⟩ := hv
      by_cases hw : ∃ ws, w = .r ws
      · obtain ⟨ws, rfl⟩ := hw
        rw [st_r, st_r] at h
        simp only [List.cons_append, List.append_assoc, List.nil_append, List.cons.injEq, true_and] at h
        have f1 := (fit_r d vs).mp hf.1
        have f2 := (fit_r d ws).mp hf.2
        obtain ⟨e1, e2⟩ := J_inj (P := fun v w => fit d v ∧ fit d w) ih vs ws r r' (fun v hv => st_first (f1.2 v hv)) (fun v hv => st_first (f2.2 v hv)) (fun u hu w hw => ⟨f1.2 u hu, f2.2 w hw⟩) h
        rw [e1]
        exact ⟨rfl, e2⟩
      · obtain ⟨a, l, e, n⟩ := st_other hf.2 fun ws z => hw ⟨ws, z⟩
        rw [st_r, e] at h
        simp only [List.cons_append, List.cons.injEq] at h
        exact (n h.1.symm).elim
    · by_cases hw : ∃ ws, w = .r ws
      · obtain ⟨ws, rfl⟩ := hw
        obtain ⟨a, l, e, n⟩ := st_other hf.1 fun ws z => hv ⟨ws, z⟩
        rw [st_r, e] at h
        simp only [List.cons_append, List.cons.injEq] at h
        exact (n h.1).elim
      · exact st_plain (d + 1) v w r r' hf.1 hf.2 (fun vs z => hv ⟨vs, z⟩) (fun vs z => hw ⟨vs, z⟩) hr hr' h
where
  st_other {d : Nat} {v : Val} (h : fit d v) (hv : ∀ vs, v ≠ .r vs) : ∃ a l, st v = a :: l ∧ a ≠ 40 := by
    cases v with
    | i k =>
      by_cases hk : 0 ≤ k
      · obtain ⟨m, rfl⟩ := Int.eq_ofNat_of_zero_le hk
        rw [st_nat]
        have hne := TL.numL_ne m
        have hd := TL.numL_digits m
        cases hs : TL.numL m with
        | nil => exact (hne hs).elim
        | cons a l => exact ⟨a, l, rfl, by have := hd a (by rw [hs]; simp); omega⟩
      · obtain ⟨m, rfl, h0⟩ : ∃ m : Nat, k = -(m : Int) ∧ 0 < m := ⟨k.natAbs, by omega, by omega⟩
        rw [st_neg h0]
        exact ⟨45, _, rfl, by decide⟩
    | s x =>
      rw [st_s]
      exact ⟨39, _, rfl, by decide⟩
    | r vs => exact (hv vs rfl).elim
  st_plain (d : Nat) (v w : Val) (r r' : List Nat) (h1 : fit d v) (h2 : fit d w) (n1 : ∀ vs, v ≠ .r vs) (n2 : ∀ vs, w ≠ .r vs) (hr : Beh r) (hr' : Beh r') (h : st v ++ r = st w ++ r') : v = w ∧ r = r' := by
    have dig : ∀ m, ∃ a l, TL.numL m = a :: l ∧ 48 ≤ a ∧ a ≤ 57 := fun m => by
      have hne := TL.numL_ne m
      have hd := TL.numL_digits m
      cases hs : TL.numL m with
      | nil => exact (hne hs).elim
      | cons a l => exact ⟨a, l, rfl, hd a (by rw [hs]; simp)⟩
    have num : ∀ k : Int, (∃ m : Nat, k = m ∧ st (.i k) = TL.numL m) ∨ (∃ m : Nat, k = -(m : Int) ∧ 0 < m ∧ st (.i k) = 45 :: TL.numL m) := fun k => by
      by_cases hk : 0 ≤ k
      · obtain ⟨m, rfl⟩ := Int.eq_ofNat_of_zero_le hk
        exact .inl ⟨m, rfl, st_nat m⟩
      · obtain ⟨m, rfl, h0⟩ : ∃ m : Nat, k = -(m : Int) ∧ 0 < m := ⟨k.natAbs, by omega, by omega⟩
        exact .inr ⟨m, rfl, h0, st_neg h0⟩
    cases v with
    | r vs => exact (n1 vs rfl).elim
    | i k => cases w with
      | r ws => exact (n2 ws rfl).elim
      | i j =>
        rcases num k with ⟨m, rfl, e1⟩ | ⟨m, rfl, m0, e1⟩ <;> rcases num j with ⟨p, rfl, e2⟩ | ⟨p, rfl, p0, e2⟩ <;> rw [e1, e2] at h
        · obtain ⟨q1, q2⟩ := num_run hr hr' h
          rw [q1]
          exact ⟨rfl, q2⟩
        · obtain ⟨a, l, e, _⟩ := dig m
          rw [e] at h
          simp only [List.cons_append, List.cons.injEq] at h
          omega
        · obtain ⟨a, l, e, _⟩ := dig p
          rw [e] at h
          simp only [List.cons_append, List.cons.injEq] at h
          omega
        · simp only [List.cons_append, List.cons.injEq, true_and] at h
          obtain ⟨q1, q2⟩ := num_run hr hr' h
          rw [q1]
          exact ⟨rfl, q2⟩
      | s y =>
        rw [st_s] at h
        rcases num k with ⟨m, rfl, e1⟩ | ⟨m, rfl, m0, e1⟩ <;> rw [e1] at h
        · obtain ⟨a, l, e, _⟩ := dig m
          rw [e] at h
          simp only [List.cons_append, List.cons.injEq] at h
          omega
        · simp at h
    | s x => cases w with
      | r ws => exact (n2 ws rfl).elim
      | i j =>
        rw [st_s] at h
        rcases num j with ⟨m, rfl, e1⟩ | ⟨m, rfl, m0, e1⟩ <;> rw [e1] at h
        · obtain ⟨a, l, e, _⟩ := dig m
          rw [e] at h
          simp only [List.cons_append, List.cons.injEq] at h
          omega
        · simp at h
      | s y =>
        have o1 := ((fit_s d x).mp h1).2
        have o2 := ((fit_s d y).mp h2).2
        rw [st_s, st_s] at h
        simp only [List.cons_append, List.cons.injEq, true_and, List.append_assoc] at h
        obtain ⟨q1, q2⟩ := run_inj (p := fun c => c ∈ signs.cps.toList) o1 o2 (fun c hc => by rcases hr c hc with rfl | rfl <;> decide) (fun c hc => by rcases hr' c hc with rfl | rfl <;> decide) h
        have e : x = y := by rw [← T_of x, ← T_of y, q1]
        rw [e]
        exact ⟨rfl, by simpa using q2⟩
end W

namespace W
open PySem L2 Fw PySem.Spec PyProof.Rows
local macro_rules | `(tactic| walk_at "ev") => `(tactic| simp -implicitDefEqProofs (decide := true) (disch := first | omega | (simp; done) | (simp [-List.getD_eq_getElem?_getD]; omega)) [*, -List.getD_eq_getElem?_getD, List.getD_cons_zero, List.getD_cons_succ, txt_join])
theorem st_len_i {k : Int} (h : PI k) : (Val.i k).stamp.length ≤ 20 := by
  obtain ⟨h1, h2⟩ := h
  rw [st_T, T_len]
  by_cases hk : 0 ≤ k
  · obtain ⟨m, rfl⟩ := Int.eq_ofNat_of_zero_le hk
    rw [st_nat]
    have : (TL.numL m).length ≤ 19 := TL.numL_len (by decide) (by omega)
    omega
  · obtain ⟨m, rfl, h0⟩ : ∃ m : Nat, k = -(m : Int) ∧ 0 < m := ⟨k.natAbs, by omega, by omega⟩
    rw [st_neg h0, List.length_cons]
    have : (TL.numL m).length ≤ 19 := TL.numL_len (by decide) (by omega)
    omega
theorem jlen_st {vs : List Val} {b : Nat} (h : ∀ v ∈ vs, v.stamp.length ≤ b) : jlen "," (vs.map Val.stamp) ≤ vs.length * (b + 1) := by
  induction vs with
  | nil => exact Nat.le_trans (Nat.le_of_eq (Val.jlen_nil _)) (Nat.zero_le _)
  | cons v vs ih =>
    have h1 := h v (by simp)
    have h2 := ih fun w hw => h w (List.mem_cons_of_mem _ hw)
    rw [List.map_cons, Val.jlen_cons, List.length_cons, Nat.succ_mul]
    have c : ((",") : Str).length = 1 := rfl
    rw [c]
    omega
theorem st_len : ∀ (d : Nat) (v : Val), fit d v → v.stamp.length ≤ 24 * 10 ^ d := by
  intro d
  induction d with
  | zero =>
    intro v h
    cases v with
    | i k => have := st_len_i ((fit_i 0 k).mp h); omega
    | s x => have := ((fit_s 0 x).mp h).1; rw [Val.stamp_s, len_app]; show 1 + x.length ≤ _; omega
    | r vs => cases h
  | succ d ih =>
    intro v h
    have hp : 1 ≤ 10 ^ d := Nat.one_le_pow _ _ (by decide)
    rw [Nat.pow_succ]
    cases v with
    | i k => have := st_len_i ((fit_i (d + 1) k).mp h); omega
    | s x => have := ((fit_s (d + 1) x).mp h).1; rw [Val.stamp_s, len_app]; show 1 + x.length ≤ _; omega
    | r vs =>
      obtain ⟨h1, h2⟩ := (fit_r d vs).mp h
      have j := jlen_st fun v hv => ih v (h2 v hv)
      have j2 := Val.join_le "," (vs.map Val.stamp)
      rw [Val.stamp_r, len_app, len_app]
      show 1 + _ + 1 ≤ _
      have : vs.length * (24 * 10 ^ d + 1) ≤ 8 * (24 * 10 ^ d + 1) := Nat.mul_le_mul_right _ h1
      omega
theorem log_pi {k : Int} (h : PI k) : k.natAbs.log2 < 1920 := by
  obtain ⟨h1, h2⟩ := h
  by_cases hk : k.natAbs = 0
  · rw [hk]; decide
  · have := (Nat.log2_lt (n := k.natAbs) (k := 64) hk).mpr (by omega)
    omega
theorem stamp_ok (n : Nat) : ∀ (d : Nat) (v : Val), d < n → d ≤ 5 → fit d v → Tells (m_law_stamp n [.d v.toD]) (fun q => q = .fro (.str v.stamp)) := by
  induction n with
  | zero => intro d v h; exact (Nat.not_lt_zero _ h).elim
  | succ n ih =>
    intro d v hd hd5 hf
    unfold m_law_stamp
    cases v with
    | i k =>
      have o' := log_pi ((fit_i d k).mp hf)
      walk_at "ev"
    | s x =>
      have w' := ((fit_s d x).mp hf).1
      walk_at "ev"
    | r vs =>
      obtain ⟨d, rfl⟩ : ∃ d', d = d' + 1 := by
        cases d with
        | zero => cases hf
        | succ d => exact ⟨d, rfl⟩
      have hf := (fit_r d vs).mp hf
      have hp : 10 ^ d ≤ 10 ^ 4 := Nat.pow_le_pow_right (by decide) (by omega)
      have j := jlen_st fun v hv => st_len d v (hf.2 v hv)
      have j2 := Val.join_le "," (vs.map Val.stamp)
      rw [txt_join] at j2
      have hl := hf.1
      have j3 : jlen "," (vs.map Val.stamp) ≤ 4000000 := by
        have : vs.length * (24 * 10 ^ d + 1) ≤ 8 * (24 * 10 ^ d + 1) := Nat.mul_le_mul_right _ hl
        omega
      have e := eLc_map vs Val.toD (fun v => .str v.stamp) (mi := iAny (eVar 0)) (b := bName 1) (tt := tYesM) (me := eFn (m_law_stamp n) (aCons (eVar 1) aNil)) (vs := [1])
        (Γ := [.d (.tuple (vs.map Val.toD)), .no]) (Γ1 := [.d (.tuple (vs.map Val.toD)), .no]) rfl (by omega) (by
          intro v hv
          obtain ⟨_, e1, rfl⟩ := (ih d v (by omega) (by omega) (hf.2 v hv)).call
          refine ⟨_, [.d (.tuple (vs.map Val.toD)), .d v.toD], .fro (.str v.stamp), rfl, rfl, by simp -implicitDefEqProofs [e1], rfl, by simp⟩)
      have hj : dJoin (.str ",") (.list (vs.map fun v => .str v.stamp)) = .ok (.fro (.str (Str.join "," (vs.map Val.stamp)))) := joinL _ (by rw [List.map_map]; rfl) (by omega)
      rw [Val.toD_r, Val.stamp_r, txt_join]
      generalize Str.join "," (vs.map Val.stamp) = JJ at *
      simp -implicitDefEqProofs (disch := first | (simp; done) | (simp; omega) | omega) [e, hj]
end W

namespace W
open PySem L2 Fw PySem.Spec PyProof.Rows
local macro_rules | `(tactic| walk_at "ev") => `(tactic| simp -implicitDefEqProofs (decide := true) (disch := first | omega | (simp; done) | (simp [-List.getD_eq_getElem?_getD]; omega)) [*, -List.getD_eq_getElem?_getD, List.getD_cons_zero, List.getD_cons_succ, txt_join])
/-- values that are not too great to be looked at -/
def lo : Nat → Val → Prop
  | _, .i _ => True
  | _, .s x => x.length ≤ 1000 ∧ Of signs x
  | 0, .r _ => False
  | d + 1, .r vs => vs.length ≤ 1000 ∧ ∀ v ∈ vs, lo d v
@[simp] theorem lo_i (d : Nat) (k : Int) : lo d (.i k) = True := by cases d <;> rfl
@[simp] theorem lo_s (d : Nat) (k : Str) : lo d (.s k) = (k.length ≤ 1000 ∧ Of signs k) := by cases d <;> rfl
theorem lo_r (d : Nat) (vs : List Val) : lo (d + 1) (.r vs) ↔ vs.length ≤ 1000 ∧ ∀ v ∈ vs, lo d v := Iff.rfl
theorem fit_lo : ∀ (d : Nat) (v : Val), fit d v → lo d v := by
  intro d
  induction d with
  | zero =>
    intro v h
    cases v with
    | i k => simp
    | s x => rw [lo_s]; have := (fit_s 0 x).mp h; exact ⟨by have := this.1; omega, this.2⟩
    | r vs => cases h
  | succ d ih =>
    intro v h
    cases v with
    | i k => simp
    | s x => rw [lo_s]; have := (fit_s (d + 1) x).mp h; exact ⟨by have := this.1; omega, this.2⟩
    | r vs =>
      obtain ⟨h1, h2⟩ := (fit_r d vs).mp h
      exact (lo_r d vs).mpr ⟨by omega, fun v hv => ih v (h2 v hv)⟩
theorem fit_up : ∀ (d : Nat) (v : Val), fit d v → fit (d + 1) v := by
  intro d
  induction d with
  | zero => intro v h; cases v with
    | i k => exact (fit_i _ k).mpr ((fit_i _ k).mp h)
    | s k => exact (fit_s _ k).mpr ((fit_s _ k).mp h)
    | r vs => cases h
  | succ d ih => intro v h; cases v with
    | i k => exact (fit_i _ k).mpr ((fit_i _ k).mp h)
    | s k => exact (fit_s _ k).mpr ((fit_s _ k).mp h)
    | r vs =>
      have h := (fit_r d vs).mp h
      exact (fit_r (d + 1) vs).mpr ⟨h.1, fun w hw => ih w (h.2 w hw)⟩
theorem lo_up : ∀ (d : Nat) (v : Val), lo d v → lo (d + 1) v := by
  intro d
  induction d with
  | zero => intro v h; cases v with
    | i k => simp
    | s k => rw [lo_s] at h ⊢; exact h
    | r vs => cases h
  | succ d ih => intro v h; cases v with
    | i k => simp
    | s k => rw [lo_s] at h ⊢; exact h
    | r vs =>
      have h := (lo_r d vs).mp h
      exact (lo_r (d + 1) vs).mpr ⟨h.1, fun w hw => ih w (h.2 w hw)⟩
def fitsB : Nat → Val → Bool
  | _, .i k => decide (-1000000000000000000 ≤ k) && decide (k ≤ 1000000000000000000)
  | _, .s x => decide (x.length ≤ 20)
  | 0, .r _ => false
  | d + 1, .r vs => decide (vs.length ≤ 8) && vs.all (fitsB d)
theorem fitsB_i (d : Nat) (k : Int) : fitsB d (.i k) = (decide (-1000000000000000000 ≤ k) && decide (k ≤ 1000000000000000000)) := by cases d <;> rfl
theorem fitsB_s (d : Nat) (x : Str) : fitsB d (.s x) = decide (x.length ≤ 20) := by cases d <;> rfl
theorem fitsB_fit : ∀ (d k : Nat) (v : Val), lo d v → fitsB k v = true → fit k v := by
  intro d
  induction d with
  | zero =>
    intro k v h1 h2
    cases v with
    | i j => rw [fitsB_i] at h2; simp only [Bool.and_eq_true, decide_eq_true_eq] at h2; exact (fit_i k j).mpr h2
    | s x => rw [fitsB_s, decide_eq_true_eq] at h2; rw [lo_s] at h1; exact (fit_s k x).mpr ⟨h2, h1.2⟩
    | r vs => cases h1
  | succ d ih =>
    intro k v h1 h2
    cases v with
    | i j => rw [fitsB_i] at h2; simp only [Bool.and_eq_true, decide_eq_true_eq] at h2; exact (fit_i k j).mpr h2
    | s x => rw [fitsB_s, decide_eq_true_eq] at h2; rw [lo_s] at h1; exact (fit_s k x).mpr ⟨h2, h1.2⟩
    | r vs =>
      cases k with
      | zero => cases h2
      | succ k =>
        rw [fitsB] at h2
        simp only [Bool.and_eq_true, decide_eq_true_eq, List.all_eq_true] at h2
        obtain ⟨h3, h4⟩ := (lo_r d vs).mp h1
        exact (fit_r k vs).mpr ⟨h2.1, fun v hv => ih k v (h4 v hv) (h2.2 v hv)⟩
theorem allB_map {α : Type} (f : α → Bool) (xs : List α) : Fw.allB (xs.map fun x => PyData.bool (f x)) = some (xs.map f) := by
  induction xs with
  | nil => rfl
  | cons x xs ih => simp only [List.map_cons, Fw.allB, ih, Option.map_some]
theorem all_l {α : Type} (f : α → Bool) (xs : List α) : dAll (.list (xs.map fun x => PyData.bool (f x))) = .ok (.fro (.bool (xs.all f))) := by
  simp only [dAll, allB_map]
  rw [List.all_map]
  rfl
theorem fits_ok (n : Nat) : ∀ (d k : Nat) (v : Val) (a : Int), d < n → a + k = 4 → lo d v → Tells (m_law_fits n [.d v.toD, .d (.int a)]) (fun q => q = .fro (.bool (fitsB k v))) := by
  induction n with
  | zero => intro d k v a h; exact (Nat.not_lt_zero _ h).elim
  | succ n ih =>
    intro d k v a hd ha hv
    unfold m_law_fits
    cases v with
    | i j =>
      rw [fitsB_i]
      by_cases h1 : -1000000000000000000 ≤ j
      · by_cases h2 : j ≤ 1000000000000000000
        · simp (decide := true) -implicitDefEqProofs [h1, h2]
        · simp (decide := true) -implicitDefEqProofs [h1, h2]
      · simp (decide := true) -implicitDefEqProofs [h1]
    | s x =>
      rw [fitsB_s]
      have : decide ((x.length : Int) ≤ 20) = decide (x.length ≤ 20) := by simp only [decide_eq_decide]; omega
      rw [lo_s] at hv
      have hx := hv.1
      simp (decide := true) -implicitDefEqProofs (disch := first | (simp; done) | omega) [this]
    | r vs =>
      obtain ⟨d, rfl⟩ : ∃ d', d = d' + 1 := by
        cases d with
        | zero => cases hv
        | succ d => exact ⟨d, rfl⟩
      obtain ⟨h3, h4⟩ := (lo_r d vs).mp hv
      cases k with
      | zero =>
        have h5 : ¬ a < 4 := by omega
        simp (decide := true) -implicitDefEqProofs [h5, fitsB]
      | succ k =>
        have h5 : a < 4 := by omega
        by_cases h6 : vs.length ≤ 8
        · have h6' : (vs.length : Int) ≤ 8 := by omega
          have e := eLc_map vs Val.toD (fun v => .bool (fitsB k v)) (mi := iAny (eVar 0)) (b := bName 2) (tt := tYesM) (me := eFn (m_law_fits n) (aCons (eVar 2) (aCons (eBin dAdd (eVar 1) (eC (.int 1))) aNil))) (vs := [2])
            (Γ := [.d (.tuple (vs.map Val.toD)), .d (.int a), .no]) (Γ1 := [.d (.tuple (vs.map Val.toD)), .d (.int a), .no]) rfl (by omega) (by
              intro v hv
              obtain ⟨_, e1, rfl⟩ := (ih d k v (a + 1) (by omega) (by omega) (h4 v hv)).call
              refine ⟨_, [.d (.tuple (vs.map Val.toD)), .d (.int a), .d v.toD], .fro (.bool (fitsB k v)), rfl, rfl, by simp -implicitDefEqProofs [e1], rfl, by simp⟩)
          have hal := all_l (fitsB k) vs
          rw [fitsB, decide_eq_true h6]
          generalize (vs.map fun v => PyData.bool (fitsB k v)) = M at *
          simp (decide := true) -implicitDefEqProofs [h5, h6', e, hal]
        · have h6' : ¬ (vs.length : Int) ≤ 8 := by omega
          rw [fitsB, decide_eq_false h6]
          simp (decide := true) -implicitDefEqProofs [h5, h6']
end W

namespace W
open PySem L2 Fw PySem.Spec PyProof.Rows
inductive Lf where
  | got (j : Nat)
  | put (v : Val)
def Lf.toD : Lf → D
  | .got j => .tuple [.str "got", .int j]
  | .put v => .tuple [.str "put", v.toD]
inductive Ex where
  | lf (l : Lf)
  | many (l : Lf)
  | row (a b : Lf)
  | pair (w : Str) (a b : Lf)
def Ex.toD : Ex → D
  | .lf l => l.toD
  | .many l => .tuple [.str "many", l.toD]
  | .row a b => .tuple [.str "row", .tuple [a.toD, b.toD]]
  | .pair w a b => .tuple [.str w, a.toD, b.toD]
def Lf.ok (n : Nat) : Lf → Prop
  | .got j => j < n
  | .put v => fit 4 v
def Lf.val (g : List Val) : Lf → Val
  | .got j => g.getD j (.i 0)
  | .put v => v
def Ex.ok (n : Nat) : Ex → Prop
  | .lf l => l.ok n
  | .many l => l.ok n
  | .row a b => a.ok n ∧ b.ok n
  | .pair w a b => w ∈ (["sum", "join", "same", "part", "less"] : List Str) ∧ a.ok n ∧ b.ok n
inductive Tw where
  | val (v : Val)
  | bad (w : Str)
def vD (v : Val) : D := .tuple [.str "value", v.toD]
def bD (w : Str) : D := .tuple [.str "fails", .str w]
def Tw.toD : Tw → D
  | .val v => vD v
  | .bad w => bD w
def Tw.Ok : Tw → Prop
  | .val v => fit 4 v
  | .bad w => w.length ≤ 5
theorem val_fit {n : Nat} {l : Lf} {g : List Val} (h : l.ok n) (hn : n ≤ g.length) (hg : ∀ v ∈ g, fit 4 v) : fit 4 (l.val g) := by
  cases l with
  | got j =>
    have hj : j < n := h
    exact hg _ (getD_mem (by omega))
  | put v => exact h
def two (w : Str) (v u : Val) : Option Val :=
  if w = "same" then some (.i (if v.stamp = u.stamp then 1 else 0))
  else if w = "part" then (match v, u with
    | .r vs, .i k => some (if 0 ≤ k ∧ k < vs.length then vs.getD k.toNat (.i 0) else .r [])
    | _, _ => none)
  else if w = "join" then (match v, u with
    | .s x, .s y => some (.s (x ++ y))
    | .r a, .r b => some (.r (a ++ b))
    | _, _ => none)
  else (match v, u with
    | .i a, .i b => some (.i (if w = "sum" then a + b else if a < b then 1 else 0))
    | _, _ => none)
def opV : Option Val → D
  | none => .none
  | some v => v.toD
theorem two_same (v u : Val) (hv : fit 4 v) (hu : fit 4 u) : Tells (m_law_of_two [.d (.str "same"), .d v.toD, .d u.toD]) (fun q => q = .fro (opV (two "same" v u))) := by
  obtain ⟨_, s1, rfl⟩ := (stamp_ok 6 4 v (by omega) (by omega) hv).call
  obtain ⟨_, s2, rfl⟩ := (stamp_ok 6 4 u (by omega) (by omega) hu).call
  have ht : two "same" v u = some (.i (if v.stamp = u.stamp then 1 else 0)) := rfl
  rw [ht]
  unfold m_law_of_two b_law_of_two
  generalize v.stamp = S1 at *
  generalize u.stamp = S2 at *
  have hb : (if decide (S1 = S2) = true then (1 : Int) else 0) = if S1 = S2 then 1 else 0 := by simp
  cases v <;> cases u <;> simp (decide := true) -implicitDefEqProofs at s1 s2 <;> simp (decide := true) -implicitDefEqProofs [s1, s2, opV, hb]
theorem two_part (v u : Val) (hv : fit 4 v) (hu : fit 4 u) : Tells (m_law_of_two [.d (.str "part"), .d v.toD, .d u.toD]) (fun q => q = .fro (opV (two "part" v u))) := by
  unfold m_law_of_two b_law_of_two
  cases v with
  | r vs =>
    have hl : vs.length ≤ 8 := hv.1
    cases u with
    | i k =>
      have ht : two "part" (.r vs) (.i k) = some (if 0 ≤ k ∧ k < vs.length then vs.getD k.toNat (.i 0) else .r []) := rfl
      rw [ht]
      by_cases h1 : 0 ≤ k
      · by_cases h2 : k < vs.length
        · rw [if_pos ⟨h1, h2⟩]
          have hx : dIx (.tuple (vs.map Val.toD)) (.int k) = .ok (.fro (vs.getD k.toNat (.i 0)).toD) := by
            rw [ix_t ⟨h1, by rw [List.length_map]; exact h2⟩]
            exact congrArg (fun z => Res.ok (R.fro z)) (getD_map Val.toD _ _ .none (.i 0) (by omega))
          generalize hM : vs.map Val.toD = M at *
          have hM2 : M.length = vs.length := by rw [← hM, List.length_map]
          simp (decide := true) -implicitDefEqProofs [hM, h1, h2, hM2, hx, opV, -ix_t]
        · rw [if_neg fun z => h2 z.2]
          simp (decide := true) -implicitDefEqProofs [h1, h2, opV]
      · rw [if_neg fun z => h1 z.1]
        simp (decide := true) -implicitDefEqProofs [h1, opV]
    | s y => simp (decide := true) -implicitDefEqProofs [two, opV]
    | r y => simp (decide := true) -implicitDefEqProofs [two, opV]
  | s x => cases u <;> simp (decide := true) -implicitDefEqProofs [two, opV]
  | i x => cases u <;> simp (decide := true) -implicitDefEqProofs [two, opV]
theorem two_join (v u : Val) (hv : fit 4 v) (hu : fit 4 u) : Tells (m_law_of_two [.d (.str "join"), .d v.toD, .d u.toD]) (fun q => q = .fro (opV (two "join" v u))) := by
  unfold m_law_of_two b_law_of_two
  cases v with
  | r vs =>
    have hl : vs.length ≤ 8 := hv.1
    cases u with
    | r ws =>
      have hl2 : ws.length ≤ 8 := hu.1
      simp (decide := true) -implicitDefEqProofs (disch := first | (simp; done) | (simp; omega) | omega) [two, opV]
    | i y => simp (decide := true) -implicitDefEqProofs [two, opV]
    | s y => simp (decide := true) -implicitDefEqProofs [two, opV]
  | s x =>
    have hl : x.length ≤ 20 := ((fit_s 4 x).mp hv).1
    cases u with
    | s y =>
      have hl2 : y.length ≤ 20 := ((fit_s 4 y).mp hu).1
      simp (decide := true) -implicitDefEqProofs (disch := first | (simp; done) | (simp; omega) | omega) [two, opV]
    | i y => simp (decide := true) -implicitDefEqProofs [two, opV]
    | r y => simp (decide := true) -implicitDefEqProofs [two, opV]
  | i x => cases u <;> simp (decide := true) -implicitDefEqProofs [two, opV]
theorem two_num (w : Str) (hw : w = "sum" ∨ w = "less") (v u : Val) : Tells (m_law_of_two [.d (.str w), .d v.toD, .d u.toD]) (fun q => q = .fro (opV (two w v u))) := by
  have n1 : dNe (.list [.bool true, .bool true]) (.list [.bool true, .bool true]) = .ok (.fro (.bool false)) := by rfl
  have n2 : dNe (.list [.bool true, .bool false]) (.list [.bool true, .bool true]) = .ok (.fro (.bool true)) := by rfl
  have n3 : dNe (.list [.bool false, .bool true]) (.list [.bool true, .bool true]) = .ok (.fro (.bool true)) := by rfl
  have n4 : dNe (.list [.bool false, .bool false]) (.list [.bool true, .bool true]) = .ok (.fro (.bool true)) := by rfl
  unfold m_law_of_two b_law_of_two
  rcases hw with rfl | rfl
  · cases v <;> cases u <;> simp (decide := true) -implicitDefEqProofs [two, opV, n1, n2, n3, n4]
  · cases v with
    | i a =>
      cases u with
      | i b =>
        have hb : (if decide (a < b) = true then (1 : Int) else 0) = if a < b then 1 else 0 := by simp
        simp (decide := true) -implicitDefEqProofs [two, opV, n1, hb]
      | _ => simp (decide := true) -implicitDefEqProofs [two, opV, n1, n2, n3, n4]
    | _ => cases u <;> simp (decide := true) -implicitDefEqProofs [two, opV, n1, n2, n3, n4]
theorem two_lo (w : Str) (v u x : Val) (hv : fit 4 v) (hu : fit 4 u) (h : two w v u = some x) : lo 5 x := by
  unfold two at h
  split at h
  · cases h; simp
  · split at h
    · split at h
      · rename_i vs k
        cases h
        split
        · rename_i hk
          obtain ⟨h1, h2⟩ := (fit_r 3 vs).mp hv
          exact lo_up 4 _ (lo_up 3 _ (fit_lo 3 _ (h2 _ (getD_mem (by omega)))))
        · exact (lo_r 4 []).mpr ⟨by simp, by simp⟩
      · cases h
    · split at h
      · split at h
        · rename_i x y
          cases h
          have h1 := (fit_s 4 x).mp hv
          have h2 := (fit_s 4 y).mp hu
          rw [lo_s, len_app]
          refine ⟨by have := h1.1; have := h2.1; omega, ?_⟩
          intro c hc
          have hc : c ∈ (x.cps ++ y.cps).toList := hc
          rw [Array.toList_append] at hc
          rcases List.mem_append.mp hc with hc | hc
          · exact h1.2 c hc
          · exact h2.2 c hc
        · rename_i a b
          cases h
          obtain ⟨h1, h2⟩ := (fit_r 3 a).mp hv
          obtain ⟨h3, h4⟩ := (fit_r 3 b).mp hu
          refine (lo_r 4 _).mpr ⟨by rw [List.length_append]; omega, fun z hz => ?_⟩
          rcases List.mem_append.mp hz with hz | hz
          · exact lo_up 3 _ (fit_lo 3 _ (h2 z hz))
          · exact lo_up 3 _ (fit_lo 3 _ (h4 z hz))
        · cases h
      · split at h
        · cases h; simp
        · cases h
end W

namespace W
open PySem L2 Fw PySem.Spec PyProof.Rows
theorem leaf_told (n : Nat) (l : Lf) (g : List Val) (h : l.ok g.length) : Tells (m_law_told (n + 1) [.d l.toD, .d (.list (g.map Val.toD))]) (fun q => q = .fro (vD (l.val g))) := by
  unfold m_law_told
  cases l with
  | got j =>
    have hj : j < g.length := h
    have hx : dIx (.list (g.map Val.toD)) (.int (j : Int)) = .ok (.fro (g.getD j (.i 0)).toD) := by
      rw [ix_l ⟨by omega, by rw [List.length_map]; omega⟩]
      exact congrArg (fun z => Res.ok (R.fro z)) (getD_map Val.toD _ _ .none (.i 0) (by omega))
    generalize g.map Val.toD = G at *
    simp only [Lf.toD, Lf.val]
    generalize g.getD j (.i 0) = v at *
    generalize ((j : Nat) : Int) = z at *
    simp (decide := true) -implicitDefEqProofs [hx, vD, List.getD_cons_zero, List.getD_cons_succ, -ix_l]
  | put v =>
    simp only [Lf.toD, Lf.val]
    simp (decide := true) -implicitDefEqProofs [vD, List.getD_cons_zero, List.getD_cons_succ]
/-- the parts told, one by one -/
theorem parts_told (n : Nat) (A : D) (it : IM) (ls : List Lf) (g : List Val) (hl : ls.length ≤ 100) (h : ∀ l ∈ ls, l.ok g.length) (hit : ∀ s, it [.d A, .d (.list (g.map Val.toD)), s, .no, .no, .no] = .ok (ls.map Lf.toD, [.d A, .d (.list (g.map Val.toD)), s, .no, .no, .no])) :
    eLc it (bName 3) tYesM (eFn (m_law_told (n + 1)) (aCons (eVar 3) (aCons (eVar 1) aNil))) [3] [.d A, .d (.list (g.map Val.toD)), .no, .no, .no, .no] = .ok (.own (.lst (ls.map fun l => vD (l.val g))), [.d A, .d (.list (g.map Val.toD)), .no, .no, .no, .no]) ∧
    sFor (iAny (eVar 2)) (bName 3) l_law_told_0 [3] [.d A, .d (.list (g.map Val.toD)), .ow (.lst (ls.map fun l => vD (l.val g))), .no, .no, .no] = .ok (.nx [.d A, .d (.list (g.map Val.toD)), .d (.list (ls.map fun l => vD (l.val g))), .no, .no, .no]) ∧
    eLc (iAny (eVar 2)) (bName 3) tYesM (eIxN 3 (eC (.int 1))) [3] [.d A, .d (.list (g.map Val.toD)), .d (.list (ls.map fun l => vD (l.val g))), .no, .no, .no] = .ok (.own (.lst (ls.map fun l => (l.val g).toD)), [.d A, .d (.list (g.map Val.toD)), .d (.list (ls.map fun l => vD (l.val g))), .no, .no, .no]) := by
  have tl := fun l hl => (leaf_told n l g (h l hl)).call
  generalize PyData.list (g.map Val.toD) = G at *
  refine ⟨?_, ?_, ?_⟩
  · have := eLc_map ls Lf.toD (fun l => vD (l.val g)) (mi := it) (b := bName 3) (tt := tYesM) (me := eFn (m_law_told (n + 1)) (aCons (eVar 3) (aCons (eVar 1) aNil))) (vs := [3]) (Γ := [.d A, .d G, .no, .no, .no, .no]) (Γ1 := [.d A, .d G, .no, .no, .no, .no]) (hit _) (by omega) (by
      intro l hl
      obtain ⟨_, e, rfl⟩ := tl l hl
      exact ⟨_, [.d A, .d G, .no, .d l.toD, .no, .no], .fro (vD (l.val g)), rfl, rfl, by simp -implicitDefEqProofs [e], rfl, by simp⟩)
    rw [this]
    simp
  · obtain ⟨Γ1, e, rfl⟩ := sFor_inv ls (fun l => vD (l.val g)) (fun i Γ => Γ = [.d A, .d G, .d (.list (ls.map fun l => vD (l.val g))), .no, .no, .no]) (mi := iAny (eVar 2)) (b := bName 3) (body := l_law_told_0) (tmp := [3])
      (Γ := [.d A, .d G, .ow (.lst (ls.map fun l => vD (l.val g))), .no, .no, .no]) (Γ1 := [.d A, .d G, .d (.list (ls.map fun l => vD (l.val g))), .no, .no, .no]) (by simp -implicitDefEqProofs) rfl (by
        rintro i l _ hl rfl
        generalize PyData.list (ls.map fun l => vD (l.val g)) = M
        refine ⟨_, [.d A, .d G, .d M, .d (vD (l.val g)), .no, .no], rfl, .inl ?_, by simp⟩
        unfold l_law_told_0 vD
        simp (decide := true) -implicitDefEqProofs)
    exact e
  · have := eLc_map ls (fun l => vD (l.val g)) (fun l => (l.val g).toD) (mi := iAny (eVar 2)) (b := bName 3) (tt := tYesM) (me := eIxN 3 (eC (.int 1))) (vs := [3]) (Γ := [.d A, .d G, .d (.list (ls.map fun l => vD (l.val g))), .no, .no, .no]) (Γ1 := [.d A, .d G, .d (.list (ls.map fun l => vD (l.val g))), .no, .no, .no])
      (by simp -implicitDefEqProofs) (by omega) (by
        intro l hl
        generalize PyData.list (ls.map fun l => vD (l.val g)) = M
        exact ⟨_, [.d A, .d G, .d M, .d (vD (l.val g)), .no, .no], .fro (l.val g).toD, rfl, rfl, by unfold vD; simp (decide := true) -implicitDefEqProofs [List.getD_cons_zero, List.getD_cons_succ], rfl, by simp⟩)
    rw [this]
    simp
theorem told_ok (e : Ex) (g : List Val) (he : e.ok g.length) (hg : ∀ v ∈ g, fit 4 v) : Tells (m_law_told 6 [.d e.toD, .d (.list (g.map Val.toD))]) (fun q => ∃ t : Tw, q = .fro t.toD ∧ t.Ok) := by
  cases e with
  | lf l =>
    obtain ⟨r, g', e1, rfl⟩ := leaf_told 5 l g he
    exact ⟨_, g', e1, .val (l.val g), rfl, val_fit he (Nat.le_refl _) hg⟩
  | many l =>
    have hv := val_fit he (Nat.le_refl _) hg
    obtain ⟨e1, e2, e3⟩ := parts_told 4 (Ex.many l).toD (iAny (eIf (tVal (eBin dEq (eIxN 0 (eC (.int 0))) (eC (.str "row")))) (eIxN 0 (eC (.int 1))) (eSlN 0 (pSome (eC (.int 1))) pNone))) [l] g (by simp) (fun l' hl' => by rw [List.mem_singleton.mp hl']; exact he) (by
      intro s
      unfold Ex.toD
      generalize PyData.list (g.map Val.toD) = G
      generalize l.toD = L
      simp (decide := true) -implicitDefEqProofs)
    unfold m_law_told
    unfold Ex.toD at *
    generalize l.toD = L at *
    generalize PyData.list (g.map Val.toD) = G at *
    simp only [List.map_cons, List.map_nil] at e1 e2 e3
    generalize l.val g = v at *
    cases v with
    | i k =>
      simp (decide := true) -implicitDefEqProofs [e1, e2, e3]
      exact ⟨.bad "kind", rfl, by show (Str.ofString "kind").length ≤ 5; decide⟩
    | s x =>
      have hx := ((fit_s 4 x).mp hv).1
      simp (decide := true) -implicitDefEqProofs (disch := first | (simp; done) | omega) [e1, e2, e3]
      exact ⟨.val (.i x.length), rfl, (fit_i 4 _).mpr ⟨by omega, by omega⟩⟩
    | r vs =>
      have hx : vs.length ≤ 8 := hv.1
      simp (decide := true) -implicitDefEqProofs (disch := first | (simp; done) | omega) [e1, e2, e3]
      exact ⟨.val (.i vs.length), rfl, (fit_i 4 _).mpr ⟨by omega, by omega⟩⟩
  | row a b =>
    obtain ⟨ha, hb⟩ := he
    have hv := val_fit ha (Nat.le_refl _) hg
    have hu := val_fit hb (Nat.le_refl _) hg
    obtain ⟨e1, e2, e3⟩ := parts_told 4 (Ex.row a b).toD (iAny (eIf (tVal (eBin dEq (eIxN 0 (eC (.int 0))) (eC (.str "row")))) (eIxN 0 (eC (.int 1))) (eSlN 0 (pSome (eC (.int 1))) pNone))) [a, b] g (by simp) (by
      intro l hl
      simp only [List.mem_cons, List.not_mem_nil, or_false] at hl
      rcases hl with rfl | rfl
      · exact ha
      · exact hb) (by
      intro s
      unfold Ex.toD
      generalize PyData.list (g.map Val.toD) = G
      generalize a.toD = L
      generalize b.toD = L2
      simp (decide := true) -implicitDefEqProofs [List.getD_cons_zero, List.getD_cons_succ])
    have hlo : lo 5 (.r [a.val g, b.val g]) := (lo_r 4 _).mpr ⟨by simp, fun z hz => by
      simp only [List.mem_cons, List.not_mem_nil, or_false] at hz
      rcases hz with rfl | rfl
      · exact fit_lo 4 _ hv
      · exact fit_lo 4 _ hu⟩
    obtain ⟨_, f1, rfl⟩ := (fits_ok 8 5 4 (.r [a.val g, b.val g]) 0 (by omega) (by omega) hlo).call
    have hfit := fitsB_fit 5 4 _ hlo
    rw [Val.toD_r] at f1
    unfold m_law_told
    unfold Ex.toD at *
    generalize a.toD = L at *
    generalize b.toD = L2 at *
    generalize PyData.list (g.map Val.toD) = G at *
    simp only [List.map_cons, List.map_nil] at e1 e2 e3 f1
    generalize a.val g = v at *
    generalize b.val g = u at *
    cases hq : fitsB 4 (.r [v, u]) with
    | true =>
      rw [hq] at f1
      simp (decide := true) -implicitDefEqProofs [e1, e2, e3, f1]
      exact ⟨.val (.r [v, u]), by simp [Tw.toD, vD], hfit hq⟩
    | false =>
      rw [hq] at f1
      simp (decide := true) -implicitDefEqProofs [e1, e2, e3, f1]
      exact ⟨.bad "great", rfl, by show (Str.ofString "great").length ≤ 5; decide⟩
  | pair w a b =>
    obtain ⟨hw, ha, hb⟩ := he
    have hv := val_fit ha (Nat.le_refl _) hg
    have hu := val_fit hb (Nat.le_refl _) hg
    have wn : w ≠ "put" ∧ w ≠ "got" ∧ w ≠ "row" ∧ w ≠ "many" := by
      have : ∀ w ∈ (["sum", "join", "same", "part", "less"] : List Str), w ≠ "put" ∧ w ≠ "got" ∧ w ≠ "row" ∧ w ≠ "many" := by decide
      exact this w hw
    obtain ⟨w1, w2, w3, w4⟩ := wn
    obtain ⟨e1, e2, e3⟩ := parts_told 4 (Ex.pair w a b).toD (iAny (eIf (tVal (eBin dEq (eIxN 0 (eC (.int 0))) (eC (.str "row")))) (eIxN 0 (eC (.int 1))) (eSlN 0 (pSome (eC (.int 1))) pNone))) [a, b] g (by simp) (by
      intro l hl
      simp only [List.mem_cons, List.not_mem_nil, or_false] at hl
      rcases hl with rfl | rfl
      · exact ha
      · exact hb) (by
      intro s
      unfold Ex.toD
      generalize PyData.list (g.map Val.toD) = G
      generalize a.toD = L
      generalize b.toD = L2
      simp (decide := true) -implicitDefEqProofs [w3, List.getD_cons_zero, List.getD_cons_succ])
    have htwo : Tells (m_law_of_two [.d (.str w), .d (a.val g).toD, .d (b.val g).toD]) (fun q => q = .fro (opV (two w (a.val g) (b.val g)))) := by
      simp only [List.mem_cons, List.not_mem_nil, or_false] at hw
      rcases hw with rfl | rfl | rfl | rfl | rfl
      · exact two_num "sum" (.inl rfl) _ _
      · exact two_join _ _ hv hu
      · exact two_same _ _ hv hu
      · exact two_part _ _ hv hu
      · exact two_num "less" (.inr rfl) _ _
    obtain ⟨_, f0, rfl⟩ := htwo.call
    have hlo := fun x => two_lo w (a.val g) (b.val g) x hv hu
    unfold m_law_told
    unfold Ex.toD at *
    generalize a.toD = L at *
    generalize b.toD = L2 at *
    generalize PyData.list (g.map Val.toD) = G at *
    simp only [List.map_cons, List.map_nil] at e1 e2 e3
    generalize a.val g = v at *
    generalize b.val g = u at *
    have i0 : dIx (.list [v.toD, u.toD]) (.int 0) = .ok (.fro v.toD) := rfl
    have i1 : dIx (.list [v.toD, u.toD]) (.int 1) = .ok (.fro u.toD) := rfl
    cases ht : two w v u with
    | none =>
      rw [ht] at f0
      simp only [opV] at f0
      simp (decide := true) -implicitDefEqProofs [w1, w2, w3, w4, e1, e2, e3, i0, i1, f0, -ix_l]
      exact ⟨.bad "kind", rfl, by show (Str.ofString "kind").length ≤ 5; decide⟩
    | some x =>
      rw [ht] at f0
      simp only [opV] at f0
      have hx := hlo x ht
      obtain ⟨_, f1, rfl⟩ := (fits_ok 8 5 4 x 0 (by omega) (by omega) hx).call
      have hfit := fitsB_fit 5 4 x hx
      have hin : dIs x.toD .none = .ok (.fro (.bool false)) := by cases x <;> simp -implicitDefEqProofs
      have fin : ∀ g', Tells (.ok (if fitsB 4 x = true then R.fro (vD x) else R.fro (bD "great"), g')) (fun q => ∃ t : Tw, q = .fro t.toD ∧ t.Ok) := by
        intro g'
        refine ⟨_, g', rfl, ?_⟩
        cases hq : fitsB 4 x with
        | true => exact ⟨.val x, rfl, hfit hq⟩
        | false => exact ⟨.bad "great", rfl, by show (Str.ofString "great").length ≤ 5; decide⟩
      by_cases wp : w = "part"
      · subst wp
        cases v with
        | r vs =>
          cases u with
          | i k =>
            simp only [Val.toD_r, Val.toD_i] at i0 i1 f0 e1 e2 e3
            generalize hM : vs.map Val.toD = M at *
            by_cases h1 : 0 ≤ k
            · by_cases h2 : k < M.length
              · cases hq : fitsB 4 x with
                | true =>
                  rw [hq] at f1
                  simp (decide := true) -implicitDefEqProofs [e1, e2, e3, i0, i1, f0, hin, h1, h2, f1, -ix_l]
                  exact ⟨.val x, rfl, hfit hq⟩
                | false =>
                  rw [hq] at f1
                  simp (decide := true) -implicitDefEqProofs [e1, e2, e3, i0, i1, f0, hin, h1, h2, f1, -ix_l]
                  exact ⟨.bad "great", rfl, by show (Str.ofString "great").length ≤ 5; decide⟩
              · simp (decide := true) -implicitDefEqProofs [e1, e2, e3, i0, i1, f0, hin, h1, h2, -ix_l]
                exact ⟨.bad "part", rfl, by show (Str.ofString "part").length ≤ 5; decide⟩
            · simp (decide := true) -implicitDefEqProofs [e1, e2, e3, i0, i1, f0, hin, h1, -ix_l]
              exact ⟨.bad "part", rfl, by show (Str.ofString "part").length ≤ 5; decide⟩
          | s y => cases ht
          | r y => cases ht
        | s y => cases u <;> cases ht
        | i y => cases u <;> cases ht
      · cases hq : fitsB 4 x with
        | true =>
          rw [hq] at f1
          simp (decide := true) -implicitDefEqProofs [w1, w2, w3, w4, wp, e1, e2, e3, i0, i1, f0, hin, f1, -ix_l]
          exact ⟨.val x, rfl, hfit hq⟩
        | false =>
          rw [hq] at f1
          simp (decide := true) -implicitDefEqProofs [w1, w2, w3, w4, wp, e1, e2, e3, i0, i1, f0, hin, f1, -ix_l]
          exact ⟨.bad "great", rfl, by show (Str.ofString "great").length ≤ 5; decide⟩
end W

namespace W
open PySem L2 Fw PySem.Spec PyProof.Rows
inductive Rc where
  | say (e : Ex)
  | fail (w : Str)
  | want (e : Ex) (r : Rc)
  | when (e : Ex) (a b : Rc)
def Rc.toD : Rc → D
  | .say e => .tuple [.str "say", e.toD]
  | .fail w => .tuple [.str "fail", .str w]
  | .want e r => .tuple [.str "want", e.toD, r.toD]
  | .when e a b => .tuple [.str "when", e.toD, a.toD, b.toD]
def Rc.ok : Nat → Rc → Prop
  | n, .say e => e.ok n
  | _, .fail w => w.length ≤ 20
  | n, .want e r => e.ok n ∧ r.ok (n + 1)
  | n, .when e a b => e.ok n ∧ a.ok n ∧ b.ok n
def Rc.dep : Rc → Nat
  | .say _ => 0
  | .fail _ => 0
  | .want _ r => r.dep + 1
  | .when _ a b => max a.dep b.dep + 1
abbrev Bk := List (Str × Val)
def gl (G : Bk) (w : Str) : Option Val := (G.find? fun p => decide (p.1 = w)).map (·.2)
def isL (c : Nat) : Bool := decide (c ∈ letters.cps.toList)
def nameOf : Val → Option Str
  | .s x => if (decide (1 ≤ x.length) && (decide (x.length ≤ 8) && x.cps.toList.all isL)) = true then some x else none
  | _ => none
def nothing : Val → Bool
  | .i k => decide (k = 0)
  | .s x => decide (x = "")
  | .r vs => vs.isEmpty
def runS (f : Ex → List Val → Tw) (G : Bk) : Rc → List Val → List Pr × Pr
  | .say e, g => ([], match f e g with
    | .bad w => ("fails", w)
    | .val v => ("made", v.stamp))
  | .fail w, _ => ([], ("fails", w))
  | .want e r, g => match f e g with
    | .bad w => ([], ("fails", w))
    | .val v => (match nameOf v with
      | none => ([], ("fails", "name"))
      | some w => (match gl G w with
        | none => ([], ("wants", w))
        | some u => ((w, u.stamp) :: (runS f G r (g ++ [u])).1, (runS f G r (g ++ [u])).2)))
  | .when e a b, g => match f e g with
    | .bad w => ([], ("fails", w))
    | .val v => if nothing v = true then runS f G b g else runS f G a g
def BkOk (G : Bk) : Prop := ∀ p ∈ G, fit 4 p.2
theorem gl_fit {G : Bk} (h : BkOk G) {w : Str} {v : Val} (e : gl G w = some v) : fit 4 v := by
  unfold gl at e
  rw [Option.map_eq_some_iff] at e
  obtain ⟨p, h1, rfl⟩ := e
  exact h p (List.mem_of_find?_eq_some h1)
theorem stamp_eq {v u : Val} (hv : fit 4 v) (hu : fit 4 u) (h : v.stamp = u.stamp) : v = u := by
  have e : st v = st u := by unfold st; rw [h]
  exact (st_inj 4 v u [] [] ⟨hv, hu⟩ (by intro c hc; cases hc) (by intro c hc; cases hc) (by rw [e])).1
/-- two runs of one recipe are never at odds -/
theorem runs_even (f : Ex → List Val → Tw) {A B : Bk} (hA : BkOk A) (hB : BkOk B) : ∀ (r : Rc) (g : List Val), odds (runS f A r g).1 (runS f A r g).2 (runS f B r g).1 (runS f B r g).2 = false := by
  intro r
  induction r with
  | say e => intro g; exact odds_self _ _
  | fail w => intro g; exact odds_self _ _
  | want e r ih =>
    intro g
    simp only [runS]
    cases f e g with
    | bad w => exact odds_self _ _
    | val v =>
      simp only []
      cases nameOf v with
      | none => exact odds_self _ _
      | some w =>
        simp only []
        cases ha : gl A w with
        | none =>
          cases hb : gl B w with
          | none => exact odds_self _ _
          | some u => simp [odds]
        | some u =>
          cases hb : gl B w with
          | none => simp [odds]
          | some u' =>
            simp only [odds]
            by_cases q : ((w, u.stamp) : Pr) = (w, u'.stamp)
            · rw [if_pos q]
              have := stamp_eq (gl_fit hA ha) (gl_fit hB hb) (Prod.mk.inj q).2
              rw [this]
              exact ih _
            · rw [if_neg q]; simp
  | when e a b iha ihb =>
    intro g
    simp only [runS]
    cases f e g with
    | bad w => exact odds_self _ _
    | val v =>
      simp only []
      by_cases q : nothing v = true
      · rw [if_pos q, if_pos q]; exact ihb g
      · rw [if_neg q, if_neg q]; exact iha g
theorem run_len (f : Ex → List Val → Tw) (G : Bk) : ∀ (r : Rc) (g : List Val), (runS f G r g).1.length ≤ r.dep := by
  intro r
  induction r with
  | say e => intro g; exact Nat.zero_le _
  | fail w => intro g; exact Nat.zero_le _
  | want e r ih =>
    intro g
    simp only [runS, Rc.dep]
    cases f e g with
    | bad w => exact Nat.zero_le _
    | val v =>
      simp only []
      cases nameOf v with
      | none => exact Nat.zero_le _
      | some w =>
        simp only []
        cases gl G w with
        | none => exact Nat.zero_le _
        | some u => simp only [List.length_cons]; have := ih (g ++ [u]); omega
  | when e a b iha ihb =>
    intro g
    simp only [runS, Rc.dep]
    cases f e g with
    | bad w => exact Nat.zero_le _
    | val v =>
      simp only []
      by_cases q : nothing v = true
      · rw [if_pos q]; have := ihb g; omega
      · rw [if_neg q]; have := iha g; omega
theorem told_fn : ∃ f : Ex → List Val → Tw, ∀ (e : Ex) (g : List Val), e.ok g.length → (∀ v ∈ g, fit 4 v) → (f e g).Ok ∧ ∀ Γ, callRes (m_law_told 6 [.d e.toD, .d (.list (g.map Val.toD))]) Γ = .ok (.fro (f e g).toD, Γ) := by
  have h : ∀ (e : Ex) (g : List Val), ∃ t : Tw, e.ok g.length → (∀ v ∈ g, fit 4 v) → t.Ok ∧ ∀ Γ, callRes (m_law_told 6 [.d e.toD, .d (.list (g.map Val.toD))]) Γ = .ok (.fro t.toD, Γ) := by
    intro e g
    by_cases h : e.ok g.length ∧ ∀ v ∈ g, fit 4 v
    · obtain ⟨_, c, t, rfl, ht⟩ := (told_ok e g h.1 h.2).call
      exact ⟨t, fun _ _ => ⟨ht, c⟩⟩
    · exact ⟨.bad "", fun h1 h2 => (h ⟨h1, h2⟩).elim⟩
  exact ⟨fun e g => (h e g).choose, fun e g => (h e g).choose_spec⟩
end W

namespace W
open PySem L2 Fw PySem.Spec PyProof.Rows
theorem is_name_ok (v : Val) (h : fit 4 v) : Tells (m_law_is_name [.d v.toD]) (fun q => q = .fro (.bool (nameOf v).isSome)) := by
  unfold m_law_is_name b_law_is_name
  cases v with
  | s x =>
    have hx : x.length ≤ 20 := ((fit_s 4 x).mp h).1
    have hlt : (Str.ofString "abcdefghijklmnopqrstuvwxyz") = letters := rfl
    have hl : x.cps.toList.length = x.length := by rw [Array.length_toList]; rfl
    have e : eLc (iAny (eVar 0)) (bName 1) tYesM (eBinO dIn (oN 1) (oV (eC (.str letters)))) [1] [.d (.str x), .no] = .ok (.own (.lst (x.cps.toList.map fun c => .bool (isL c))), [.d (.str x), .no]) := by
      rw [eLc_map x.cps.toList (fun c => .str (sg c)) (fun c => .bool (isL c)) (Γ1 := [.d (.str x), .no]) rfl (by omega) ?_]
      · simp
      · intro c hc
        have e : strIn (sg c) letters = isL c := strIn_one c letters
        refine ⟨_, [.d (.str x), .d (.str (sg c))], .fro (.bool (isL c)), rfl, rfl, by simp [e], rfl, by simp⟩
    have hal := all_l isL x.cps.toList
    have hn : (nameOf (.s x)).isSome = (decide (1 ≤ x.length) && (decide (x.length ≤ 8) && x.cps.toList.all isL)) := by
      show (if (decide (1 ≤ x.length) && (decide (x.length ≤ 8) && x.cps.toList.all isL)) = true then some x else none).isSome = _
      generalize (decide (1 ≤ x.length) && (decide (x.length ≤ 8) && x.cps.toList.all isL)) = B
      cases B <;> rfl
    rw [hn]
    generalize (x.cps.toList.map fun c => PyData.bool (isL c)) = M at *
    generalize x.cps.toList.all isL = B at *
    by_cases h1 : 1 ≤ x.length
    · have h1' : (1 : Int) ≤ x.length := by omega
      by_cases h2 : x.length ≤ 8
      · have h2' : (x.length : Int) ≤ 8 := by omega
        simp -implicitDefEqProofs (disch := first | (simp; done) | omega) [hlt, e, hal, h1, h2, h1', h2']
      · have h2' : ¬ (x.length : Int) ≤ 8 := by omega
        simp -implicitDefEqProofs (disch := first | (simp; done) | omega) [h1, h2, h1', h2']
    · have h1' : ¬ (1 : Int) ≤ x.length := by omega
      simp -implicitDefEqProofs (disch := first | (simp; done) | omega) [h1, h1']
  | i k =>
    show Tells _ (fun q => q = .fro (.bool false))
    simp -implicitDefEqProofs
  | r vs =>
    show Tells _ (fun q => q = .fro (.bool false))
    simp -implicitDefEqProofs
mutual
theorem lay_val : ∀ (d : Nat) (v : Val), fit d v → v.toD.canLay0 = true
  | _, .i _, _ => rfl
  | d, .s x, h => by
    have h2 := ((fit_s d x).mp h).2
    rw [Val.toD_s, PyData.canLay0, PyData.strOk, ← Array.all_toList, List.all_eq_true]
    intro c hc
    have : ∀ c ∈ signs.cps.toList, c < 0x110000 := by decide
    exact decide_eq_true (this c (h2 c hc))
  | 0, .r _, h => by cases h
  | d + 1, .r vs, h => by
    rw [Val.toD_r, PyData.canLay0]
    exact lays_val d vs ((fit_r d vs).mp h).2
theorem lays_val : ∀ (d : Nat) (vs : List Val), (∀ v ∈ vs, fit d v) → PyData.canLayAll0 (vs.map Val.toD) = true
  | _, [], _ => rfl
  | d, v :: vs, h => by
    rw [List.map_cons, PyData.canLayAll0, lay_val d v (h v (by simp)), lays_val d vs fun w hw => h w (List.mem_cons_of_mem _ hw)]
    rfl
end
mutual
theorem dep_val : ∀ (d : Nat) (v : Val), fit d v → v.toD.depth ≤ d
  | d, .i _, _ => Nat.zero_le _
  | d, .s x, h => Nat.zero_le _
  | 0, .r _, h => by cases h
  | d + 1, .r vs, h => by
    rw [Val.toD_r, PyData.depth]
    have := deps_val d vs ((fit_r d vs).mp h).2
    omega
theorem deps_val : ∀ (d : Nat) (vs : List Val), (∀ v ∈ vs, fit d v) → PyData.depthAll (vs.map Val.toD) ≤ d
  | _, [], _ => Nat.zero_le _
  | d, v :: vs, h => by
    rw [List.map_cons, PyData.depthAll]
    have := dep_val d v (h v (by simp))
    have := deps_val d vs fun w hw => h w (List.mem_cons_of_mem _ hw)
    omega
end
theorem in_nothings {v : Val} (h : fit 4 v) : dIn v.toD (.tuple [.int 0, .str "", .tuple []]) = .ok (.fro (.bool (nothing v))) := by
  have hs : SeqAt.shaped v.toD = true := by
    unfold SeqAt.shaped
    have := dep_val 4 v h
    rw [lay_val 4 v h, decide_eq_true (show v.toD.depth ≤ 64 by omega)]
    rfl
  have hys : SeqAt.shaped (.list [.int 0, .str "", .tuple []]) = true := by decide +kernel
  have hm : memD v.toD [.int 0, .str "", .tuple []] = nothing v := by
    unfold memD nothing
    cases v with
    | i k => simp [PyData.eqv, Bool.beq_eq_decide_eq, eq_comm]
    | s x => simp [PyData.eqv, Bool.beq_eq_decide_eq, eq_comm]
    | r vs =>
      cases vs with
      | nil => simp [PyData.eqv, PyData.eqvAll]
      | cons u us => simp [PyData.eqv, PyData.eqvAll]
  have hi : inSeq v.toD [.int 0, .str "", .tuple []] = some (nothing v) := by
    unfold inSeq
    by_cases q : flatD v.toD = true ∧ ([.int 0, .str "", .tuple []] : List D).all flatD = true
    · rw [if_pos q, hm]
    · rw [if_neg q, if_pos ⟨hs, hys⟩, hm]
  unfold dIn inB
  simp only [hi]
  rfl
def gD (G : Bk) : D := .dict (G.map fun p => (.str p.1, p.2.toD))
theorem dGet_gl (G : Bk) (w : Str) : dGet (G.map fun p => (PyData.str p.1, p.2.toD)) (.str w) = (gl G w).map Val.toD := by
  unfold dGet gl
  induction G with
  | nil => rfl
  | cons p G ih =>
    have e : PyData.eqv (.str p.1) (.str w) = decide (p.1 = w) := by simp [PyData.eqv, Bool.beq_eq_decide_eq]
    rw [List.map_cons, List.find?_cons, List.find?_cons]
    simp only [e]
    by_cases q : p.1 = w
    · simp [q]
    · simp only [decide_eq_false q]
      exact ih
theorem notin_g (G : Bk) (w : Str) : dNotIn (.str w) (gD G) = .ok (.fro (.bool (gl G w).isNone)) := by
  unfold dNotIn inB gD
  simp only [isKey, if_true, dGet_gl]
  cases gl G w <;> rfl
theorem ix_g {G : Bk} {w : Str} {u : Val} (h : gl G w = some u) : dIx2 (gD G) (.str w) = .ok (.fro u.toD) := by
  unfold dIx2 gD
  simp only [isKey, if_true, dGet_gl, h]
  rfl
mutual
theorem pure_v : ∀ v : Val, pureD v.toD = true
  | .i _ => rfl
  | .s _ => rfl
  | .r vs => by rw [Val.toD_r]; exact pure_vs vs
theorem pure_vs : ∀ vs : List Val, pureDs (vs.map Val.toD) = true
  | [] => rfl
  | v :: vs => by rw [List.map_cons, pureDs, pure_v v, pure_vs vs]; rfl
end
theorem pure_tw (t : Tw) : pureD t.toD = true := by
  cases t with
  | val v => show (pureD (.str "value") && (pureD v.toD && true)) = true; rw [pure_v]; rfl
  | bad w => rfl
end W

namespace W
open PySem L2 Fw PySem.Spec PyProof.Rows
theorem ix_m1 (n : Nat) (h : 0 < n) : L2.ixN n (-1) = some (n - 1) := by
  unfold L2.ixN
  first
    | (rw [if_neg (by decide)]; simp; omega)
    | (simp; omega)
theorem ix_last (xs : List D) (d : D) : dIx (.list (xs ++ [d])) (.int (-1)) = .ok (.fro d) := by
  refine ixL ?_
  unfold atI
  rw [ix_m1 _ (by simp)]
  simp
abbrev SS (G : Bk) (r : Rc) (g : List Val) (rs : List Pr) : Gm := [.d r.toD, .d (gD G), .ow (.lst (g.map Val.toD)), .ow (.lst (rs.map pr)), .no]
theorem loan_told {f : Ex → List Val → Tw} (hf : ∀ (e : Ex) (g : List Val), e.ok g.length → (∀ v ∈ g, fit 4 v) → (f e g).Ok ∧ ∀ Γ, callRes (m_law_told 6 [.d e.toD, .d (.list (g.map Val.toD))]) Γ = .ok (.fro (f e g).toD, Γ))
    (A B : D) (e : Ex) (g : List Val) (M : List D) (he : e.ok g.length) (hg : ∀ v ∈ g, fit 4 v) (i1 : dIx A (.int 1) = .ok (.fro e.toD)) (hA : ∃ xs, A = .tuple xs) :
    eLoan [0, 2] (eFn (m_law_told 6) (aCons (eIxN 0 (eC (.int 1))) (aCons (eVar 2) aNil))) [.d A, .d B, .ow (.lst (g.map Val.toD)), .ow (.lst M), .no] = .ok (.fro (f e g).toD, [.d A, .d B, .ow (.lst (g.map Val.toD)), .ow (.lst M), .no]) := by
  have e1 := (hf e g he hg).2
  have hp : pureD (f e g).toD = true := pure_tw _
  obtain ⟨xs, rfl⟩ := hA
  unfold eLoan
  generalize (f e g).toD = T at *
  generalize e.toD = E at *
  simp only [loanG, loanS]
  simp (decide := true) -implicitDefEqProofs [i1, e1, loanK, pureR, hp, -ix_t]
end W

namespace W
open PySem L2 Fw PySem.Spec PyProof.Rows
theorem app_l {M : List D} {d : D} (h : M.length ≤ 100) : mAppend M [d] = some (.none, M ++ [d]) := by
  unfold mAppend
  exact if_pos (by unfold lim; omega)
theorem tw_cases (t : Tw) : (∃ v, t = .val v) ∨ ∃ w, t = .bad w := by cases t <;> simp
theorem name_s {v : Val} {w : Str} (h : nameOf v = some w) : v = .s w := by
  unfold nameOf at h
  split at h
  · split at h
    · cases h; rfl
    · cases h
  · cases h
/-- one turn of the run's loop at a want -/
theorem step_want {f : Ex → List Val → Tw} (hf : ∀ (e : Ex) (g : List Val), e.ok g.length → (∀ v ∈ g, fit 4 v) → (f e g).Ok ∧ ∀ Γ, callRes (m_law_told 6 [.d e.toD, .d (.list (g.map Val.toD))]) Γ = .ok (.fro (f e g).toD, Γ))
    (G : Bk) (hG : BkOk G) (e : Ex) (r : Rc) (g : List Val) (rs : List Pr) (he : e.ok g.length) (hg : ∀ v ∈ g, fit 4 v) (hgl : g.length ≤ 90) (hrl : rs.length ≤ 90) :
    (∃ w u, f e g = .val (.s w) ∧ nameOf (.s w) = some w ∧ gl G w = some u ∧ ∃ g', l_law_run_0 (SS G (.want e r) g rs) = .ok (.nx g') ∧ wipeG g' [4] = SS G r (g ++ [u]) (rs ++ [(w, u.stamp)])) ∨
    (∃ p, (runS f G (.want e r) g) = ([], p) ∧ ∃ g', l_law_run_0 (SS G (.want e r) g rs) = .ok (.rt (.fro (.tuple [.tuple (rs.map pr), pr p, .none])) g')) := by
  have lt := loan_told hf (Rc.want e r).toD (gD G) e g (rs.map pr) he hg rfl ⟨_, rfl⟩
  have hok := (hf e g he hg).1
  have i0 : dIx (Rc.want e r).toD (.int 0) = .ok (.fro (.str "want")) := rfl
  have i2 : dIx (Rc.want e r).toD (.int 2) = .ok (.fro r.toD) := rfl
  have tA : ∃ xs, (Rc.want e r).toD = .tuple xs := ⟨_, rfl⟩
  have tG : ∃ ps, gD G = .dict ps := ⟨_, rfl⟩
  unfold SS
  simp only [runS]
  unfold l_law_run_0
  generalize (eLoan [0, 2] (eFn (m_law_told 6) (aCons (eIxN 0 (eC (.int 1))) (aCons (eVar 2) aNil)))) = X at lt ⊢
  generalize (Rc.want e r).toD = A at *
  obtain ⟨A, rfl⟩ := tA
  rcases tw_cases (f e g) with ⟨v, hv⟩ | ⟨w, hw⟩
  · rw [hv] at lt hok
    have hv4 : fit 4 v := hok
    simp only [hv]
    obtain ⟨_, n1, rfl⟩ := (is_name_ok v hv4).call
    cases hn : nameOf v with
    | none =>
      rw [hn] at n1
      refine .inr ⟨("fails", "name"), rfl, ?_⟩
      simp only [Tw.toD, vD] at lt
      generalize v.toD = V at *
      generalize gD G = B at *
      simp (decide := true) -implicitDefEqProofs [lt, i0, n1, pr, List.getD_cons_zero, List.getD_cons_succ]
    | some w =>
      obtain rfl := name_s hn
      rw [hn] at n1
      have nin := notin_g G w
      dsimp only
      cases hgl2 : gl G w with
      | none =>
        rw [hgl2] at nin
        refine .inr ⟨("wants", w), rfl, ?_⟩
        simp only [Tw.toD, vD, Val.toD_s] at lt n1
        generalize gD G = B at *
        simp (decide := true) -implicitDefEqProofs [lt, i0, n1, nin, pr, List.getD_cons_zero, List.getD_cons_succ]
      | some u =>
        rw [hgl2] at nin
        have ixg := ix_g hgl2
        have hu := gl_fit hG hgl2
        obtain ⟨_, s1, rfl⟩ := (stamp_ok 6 4 u (by omega) (by omega) hu).call
        have a1 := app_l (M := g.map Val.toD) (d := u.toD) (by rw [List.length_map]; omega)
        have a2 := app_l (M := rs.map pr) (d := .tuple [.str w, .str u.stamp]) (by rw [List.length_map]; omega)
        have il := ix_last (g.map Val.toD) u.toD
        refine .inl ⟨w, u, rfl, hn, hgl2, ?_⟩
        simp only [Tw.toD, vD, Val.toD_s] at lt n1
        rw [List.map_append, List.map_cons, List.map_nil, List.map_append, List.map_cons, List.map_nil]
        simp only [pr] at a2 ⊢
        generalize gD G = B at *
        generalize g.map Val.toD = M at *
        generalize rs.map (fun p => PyData.tuple [.str p.1, .str p.2]) = N at *
        generalize u.toD = U at *
        generalize r.toD = RR at *
        simp (decide := true) -implicitDefEqProofs [lt, i0, i2, n1, nin, ixg, s1, a1, a2, il, List.getD_cons_zero, List.getD_cons_succ]
  · rw [hw] at lt
    simp only [hw]
    refine .inr ⟨("fails", w), rfl, ?_⟩
    simp only [Tw.toD, bD] at lt
    generalize gD G = B at *
    simp (decide := true) -implicitDefEqProofs [lt, i0, pr, List.getD_cons_zero, List.getD_cons_succ]
end W

namespace W
open PySem L2 Fw PySem.Spec PyProof.Rows
abbrev Tf (f : Ex → List Val → Tw) : Prop := ∀ (e : Ex) (g : List Val), e.ok g.length → (∀ v ∈ g, fit 4 v) → (f e g).Ok ∧ ∀ Γ, callRes (m_law_told 6 [.d e.toD, .d (.list (g.map Val.toD))]) Γ = .ok (.fro (f e g).toD, Γ)
theorem step_when {f : Ex → List Val → Tw} (hf : Tf f) (G : Bk) (e : Ex) (a b : Rc) (g : List Val) (rs : List Pr) (he : e.ok g.length) (hg : ∀ v ∈ g, fit 4 v) (hrl : rs.length ≤ 90) :
    (∃ r', (r' = a ∨ r' = b) ∧ runS f G (.when e a b) g = runS f G r' g ∧ ∃ g', l_law_run_0 (SS G (.when e a b) g rs) = .ok (.nx g') ∧ wipeG g' [4] = SS G r' g rs) ∨
    (∃ p, (runS f G (.when e a b) g) = ([], p) ∧ ∃ g', l_law_run_0 (SS G (.when e a b) g rs) = .ok (.rt (.fro (.tuple [.tuple (rs.map pr), pr p, .none])) g')) := by
  have lt := loan_told hf (Rc.when e a b).toD (gD G) e g (rs.map pr) he hg rfl ⟨_, rfl⟩
  have hok := (hf e g he hg).1
  have i0 : dIx (Rc.when e a b).toD (.int 0) = .ok (.fro (.str "when")) := rfl
  have i2 : dIx (Rc.when e a b).toD (.int 2) = .ok (.fro a.toD) := rfl
  have i3 : dIx (Rc.when e a b).toD (.int 3) = .ok (.fro b.toD) := rfl
  have tA : ∃ xs, (Rc.when e a b).toD = .tuple xs := ⟨_, rfl⟩
  unfold SS
  simp only [runS]
  unfold l_law_run_0
  generalize (eLoan [0, 2] (eFn (m_law_told 6) (aCons (eIxN 0 (eC (.int 1))) (aCons (eVar 2) aNil)))) = X at lt ⊢
  generalize (Rc.when e a b).toD = A at *
  obtain ⟨A, rfl⟩ := tA
  rcases tw_cases (f e g) with ⟨v, hv⟩ | ⟨w, hw⟩
  · rw [hv] at lt hok
    have hv4 : fit 4 v := hok
    simp only [hv]
    have nn := in_nothings hv4
    simp only [Tw.toD, vD] at lt
    by_cases q : nothing v = true
    · rw [q] at nn
      refine .inl ⟨b, .inr rfl, if_pos q, ?_⟩
      generalize v.toD = V at *
      generalize gD G = B at *
      generalize b.toD = RR at *
      generalize g.map Val.toD = M at *
      simp (decide := true) -implicitDefEqProofs [lt, i0, i2, i3, nn, List.getD_cons_zero, List.getD_cons_succ]
    · rw [eq_false_of_ne_true q] at nn
      refine .inl ⟨a, .inl rfl, if_neg q, ?_⟩
      generalize v.toD = V at *
      generalize gD G = B at *
      generalize a.toD = RR at *
      generalize g.map Val.toD = M at *
      simp (decide := true) -implicitDefEqProofs [lt, i0, i2, i3, nn, List.getD_cons_zero, List.getD_cons_succ]
  · rw [hw] at lt
    simp only [hw]
    refine .inr ⟨("fails", w), rfl, ?_⟩
    simp only [Tw.toD, bD] at lt
    generalize gD G = B at *
    simp (decide := true) -implicitDefEqProofs [lt, i0, pr, List.getD_cons_zero, List.getD_cons_succ]
theorem loan_told2 {f : Ex → List Val → Tw} (hf : Tf f)
    (A B Z : D) (e : Ex) (g : List Val) (M : List D) (he : e.ok g.length) (hg : ∀ v ∈ g, fit 4 v) (i1 : dIx A (.int 1) = .ok (.fro e.toD)) (hA : ∃ xs, A = .tuple xs) :
    eLoan [0, 2] (eFn (m_law_told 6) (aCons (eIxN 0 (eC (.int 1))) (aCons (eVar 2) aNil))) [.d A, .d B, .ow (.lst (g.map Val.toD)), .ow (.lst M), .d Z] = .ok (.fro (f e g).toD, [.d A, .d B, .ow (.lst (g.map Val.toD)), .ow (.lst M), .d Z]) := by
  have e1 := (hf e g he hg).2
  have hp : pureD (f e g).toD = true := pure_tw _
  obtain ⟨xs, rfl⟩ := hA
  unfold eLoan
  generalize (f e g).toD = T at *
  generalize e.toD = E at *
  simp only [loanG, loanS]
  simp (decide := true) -implicitDefEqProofs [i1, e1, loanK, pureR, hp, -ix_t]
theorem run_ok {f : Ex → List Val → Tw} (hf : Tf f) (G : Bk) (hG : BkOk G) (r0 : Rc) (hr0 : r0.ok 0) (hd0 : r0.dep ≤ 5) :
    Tells (m_law_run [.d r0.toD, .d (gD G)]) (fun q => ∃ X, q = .fro (.tuple [.tuple ((runS f G r0 []).1.map pr), pr (runS f G r0 []).2, X])) := by
  unfold m_law_run b_law_run
  have tt : ∀ w : Str, dNotIn (.str w) (.tuple [.str "say", .str "fail"]) = .ok (.fro (.bool !(decide (w ∈ ([Str.ofString "say", Str.ofString "fail"] : List Str))))) := fun w => notin_st w ["say", "fail"]
  have e1 : ∃ o, sWhile 8 (tVal (eBin dNotIn (eIxN 0 (eC (.int 0))) (eTup (aCons (eC (.str "say")) (aCons (eC (.str "fail")) aNil))))) l_law_run_0 [4] (SS G r0 [] []) = .ok o ∧
      ((∃ r g rs, o = .nx (SS G r g rs) ∧ r.ok g.length ∧ (∀ v ∈ g, fit 4 v) ∧ rs.length ≤ 80 ∧ ((∃ e, r = .say e) ∨ ∃ w, r = .fail w) ∧ rs ++ (runS f G r g).1 = (runS f G r0 []).1 ∧ (runS f G r g).2 = (runS f G r0 []).2) ∨
      ∃ g', o = .rt (.fro (.tuple [.tuple ((runS f G r0 []).1.map pr), pr (runS f G r0 []).2, .none])) g') := by
    refine sWhile_inv (fun k Γ => ∃ r g rs, Γ = SS G r g rs ∧ r.dep ≤ k ∧ r.ok g.length ∧ (∀ v ∈ g, fit 4 v) ∧ rs.length + k ≤ 50 ∧ g.length + k ≤ 50 ∧ rs ++ (runS f G r g).1 = (runS f G r0 []).1 ∧ (runS f G r g).2 = (runS f G r0 []).2) _ ?_ (k := r0.dep) (by omega)
      ⟨r0, [], [], rfl, Nat.le_refl _, hr0, by simp, by simp; omega, by simp; omega, by simp, rfl⟩
    rintro k _ ⟨r, g, rs, rfl, hk, hok, hg, l1, l2, q1, q2⟩
    cases r with
    | say e =>
      refine ⟨false, SS G (.say e) g rs, ?_, fun _ => .inl ⟨.say e, g, rs, rfl, hok, hg, by omega, .inl ⟨e, rfl⟩, q1, q2⟩, by simp⟩
      have t1 := tt "say"
      rw [show decide (Str.ofString "say" ∈ ([Str.ofString "say", Str.ofString "fail"] : List Str)) = true by decide] at t1
      unfold SS Rc.toD
      simp (decide := true) -implicitDefEqProofs [t1]
    | fail w =>
      refine ⟨false, SS G (.fail w) g rs, ?_, fun _ => .inl ⟨.fail w, g, rs, rfl, hok, hg, by omega, .inr ⟨w, rfl⟩, q1, q2⟩, by simp⟩
      have t1 := tt "fail"
      rw [show decide (Str.ofString "fail" ∈ ([Str.ofString "say", Str.ofString "fail"] : List Str)) = true by decide] at t1
      unfold SS Rc.toD
      simp (decide := true) -implicitDefEqProofs [t1]
    | want e r =>
      obtain ⟨he, hr⟩ := hok
      simp only [Rc.dep] at hk
      refine ⟨true, SS G (.want e r) g rs, ?_, by simp, fun _ => ?_⟩
      · have t1 := tt "want"
        rw [show decide (Str.ofString "want" ∈ ([Str.ofString "say", Str.ofString "fail"] : List Str)) = false by decide] at t1
        unfold SS Rc.toD
        simp (decide := true) -implicitDefEqProofs [t1]
      · rcases step_want hf G hG e r g rs he hg (by omega) (by omega) with ⟨w, u, h1, h2, h3, g', h4, h5⟩ | ⟨p, h1, g', h2⟩
        · have hrun : runS f G (.want e r) g = ((w, u.stamp) :: (runS f G r (g ++ [u])).1, (runS f G r (g ++ [u])).2) := by
            simp only [runS, h1, h2, h3]
          rw [hrun] at q1 q2
          refine ⟨_, h4, k - 1, by omega, r, g ++ [u], rs ++ [(w, u.stamp)], h5, by omega, by simpa using hr, ?_, by simp; omega, by simp; omega, by rw [← q1]; simp, q2⟩
          intro v hv
          rcases List.mem_append.mp hv with hv | hv
          · exact hg v hv
          · rw [List.mem_singleton.mp hv]; exact gl_fit hG h3
        · rw [h1] at q1 q2
          refine ⟨_, h2, .inr ⟨g', ?_⟩⟩
          rw [← q1, ← q2, List.append_nil]
    | when e a b =>
      obtain ⟨he, ha, hb⟩ := hok
      simp only [Rc.dep] at hk
      refine ⟨true, SS G (.when e a b) g rs, ?_, by simp, fun _ => ?_⟩
      · have t1 := tt "when"
        rw [show decide (Str.ofString "when" ∈ ([Str.ofString "say", Str.ofString "fail"] : List Str)) = false by decide] at t1
        unfold SS Rc.toD
        simp (decide := true) -implicitDefEqProofs [t1]
      · rcases step_when hf G e a b g rs he hg (by omega) with ⟨r', hr', h1, g', h4, h5⟩ | ⟨p, h1, g', h2⟩
        · rw [h1] at q1 q2
          refine ⟨_, h4, k - 1, by omega, r', g, rs, h5, ?_, ?_, hg, by omega, by omega, q1, q2⟩
          · rcases hr' with rfl | rfl <;> omega
          · rcases hr' with rfl | rfl
            · exact ha
            · exact hb
        · rw [h1] at q1 q2
          refine ⟨_, h2, .inr ⟨g', ?_⟩⟩
          rw [← q1, ← q2, List.append_nil]
  obtain ⟨o, e1, hpost⟩ := e1
  have e1' : sWhile 8 (tVal (eBin dNotIn (eIxN 0 (eC (.int 0))) (eTup (aCons (eC (.str "say")) (aCons (eC (.str "fail")) aNil))))) l_law_run_0 [4] [.d r0.toD, .d (gD G), .ow (.lst []), .ow (.lst []), .no] = .ok o := e1
  generalize (tVal (eBin dNotIn (eIxN 0 (eC (.int 0))) (eTup (aCons (eC (.str "say")) (aCons (eC (.str "fail")) aNil))))) = T at e1' ⊢
  rcases hpost with ⟨r, g, rs, rfl, hok, hg, hl, hr, q1, q2⟩ | ⟨g', rfl⟩
  · rcases hr with ⟨e, rfl⟩ | ⟨w, rfl⟩
    · have hok : e.ok g.length := hok
      have lt := loan_told2 hf (Rc.say e).toD (gD G) (.tuple [.str "fails", e.toD]) e g (rs.map pr) hok hg rfl ⟨_, rfl⟩
      have hok2 := (hf e g hok hg).1
      have i0 : dIx (Rc.say e).toD (.int 0) = .ok (.fro (.str "say")) := rfl
      have i1 : dIx (Rc.say e).toD (.int 1) = .ok (.fro e.toD) := rfl
      have tA : ∃ xs, (Rc.say e).toD = .tuple xs := ⟨_, rfl⟩
      rw [← q1, ← q2]
      simp only [runS, List.append_nil]
      unfold SS at e1'
      generalize (eLoan [0, 2] (eFn (m_law_told 6) (aCons (eIxN 0 (eC (.int 1))) (aCons (eVar 2) aNil)))) = X at lt ⊢
      generalize (Rc.say e).toD = A at *
      obtain ⟨A, rfl⟩ := tA
      generalize e.toD = E at *
      generalize gD G = B at *
      generalize g.map Val.toD = M at *
      rcases tw_cases (f e g) with ⟨v, hv⟩ | ⟨w, hw⟩
      · rw [hv] at lt hok2
        have hv4 : fit 4 v := hok2
        obtain ⟨_, s1, rfl⟩ := (stamp_ok 6 4 v (by omega) (by omega) hv4).call
        simp only [hv]
        simp only [Tw.toD, vD] at lt
        generalize v.toD = V at *
        simp (decide := true) -implicitDefEqProofs [e1', lt, i0, i1, s1, pr, List.getD_cons_zero, List.getD_cons_succ]
      · rw [hw] at lt
        simp only [hw]
        simp only [Tw.toD, bD] at lt
        simp (decide := true) -implicitDefEqProofs [e1', lt, i0, i1, pr, List.getD_cons_zero, List.getD_cons_succ]
    · rw [← q1, ← q2]
      simp only [runS, List.append_nil]
      rw [show SS G (.fail w) g rs = [.d (.tuple [.str "fail", .str w]), .d (gD G), .ow (.lst (g.map Val.toD)), .ow (.lst (rs.map pr)), .no] from rfl] at e1'
      generalize gD G = B at *
      generalize g.map Val.toD = M at *
      simp (decide := true) -implicitDefEqProofs [e1', pr, List.getD_cons_zero, List.getD_cons_succ]
  · simp (decide := true) -implicitDefEqProofs [e1']
end W

namespace W
open PySem L2 Fw PySem.Spec PyProof.Rows
def menu : List Str := ["a", "ab", "abc", "b", "told", "made", "say", "want", "wants", "ba", "zz", "x"]
def NmOk (xs : List Str) : Prop := 4 ≤ xs.length ∧ xs.length ≤ 7 ∧ ∀ x ∈ xs, PS x
theorem menu_ok : ∀ x ∈ menu, PS x := by unfold PS Of; decide
theorem names_ok (ns : List Int) (hl : ns.length ≤ 63) (k : Int) (hk : 0 ≤ k) (hk2 : k ≤ 10000) : Tells (m_law_names [.d (.list (ns.map .int)), .d (.int k)]) (fun q => ∃ xs : List Str, q = .own (.lst (xs.map .str)) ∧ NmOk xs) := by
  obtain ⟨_, d1, a, rfl, a1, a2⟩ := (draw_s ns hl k 12 (by omega) (by omega) (by omega) (by omega)).call
  obtain ⟨_, d2, b, rfl, b1, b2⟩ := (draw_s ns hl (k + 1) 4 (by omega) (by omega) (by omega) (by omega)).call
  obtain ⟨_, d3, c, rfl, c1, c2⟩ := (draw_s ns hl (k + 2) 4 (by omega) (by omega) (by omega) (by omega)).call
  generalize PyData.list (ns.map .int) = sc at *
  have x2 : dIx (.list [.int 1, .int 5, .int 7, .int 11]) (.int b) = .ok (.fro (.int (([1, 5, 7, 11] : List Int).getD b.toNat 0))) := by
    have hc : b = 0 ∨ b = 1 ∨ b = 2 ∨ b = 3 := by omega
    rcases hc with rfl | rfl | rfl | rfl <;> rfl
  have hs : 0 ≤ ([1, 5, 7, 11] : List Int).getD b.toNat 0 ∧ ([1, 5, 7, 11] : List Int).getD b.toNat 0 ≤ 11 := by
    have hc : b = 0 ∨ b = 1 ∨ b = 2 ∨ b = 3 := by omega
    rcases hc with rfl | rfl | rfl | rfl <;> decide
  generalize ([1, 5, 7, 11] : List Int).getD b.toNat 0 = s at *
  have e := eLc_map (List.range (4 + c).toNat) (fun i => .int ((i : Nat) : Int)) (fun i => .str (menu.getD ((a + s * ((i : Nat) : Int)) % 12).toNat "")) (mi := iR1 (aCons (eBin dAdd (eC (.int 4)) (eFn m_law_draw (aCons (eVar 0) (aCons (eBin dAdd (eVar 1) (eC (.int 2))) (aCons (eC (.int 4)) aNil))))) aNil)) (b := bName 5) (tt := tYesM) (me := eIxN 2 (eBin dMod (eBin dAdd (eVar 3) (eBin dMul2 (eVar 4) (eVar 5))) (eC (.int 12)))) (vs := [5])
    (Γ := [.d sc, .d (.int k), .ow (.lst (menu.map .str)), .d (.int a), .d (.int s), .no]) (Γ1 := [.d sc, .d (.int k), .ow (.lst (menu.map .str)), .d (.int a), .d (.int s), .no])
    (iR1_eq (n := 4 + c) (by simp -implicitDefEqProofs [d3]) (by omega)) (by simp; omega) (by
      intro i hi
      have h0 : 0 ≤ (a + s * ((i : Nat) : Int)) % 12 := Int.emod_nonneg _ (by omega)
      have h1 : (a + s * ((i : Nat) : Int)) % 12 < 12 := Int.emod_lt_of_pos _ (by omega)
      have x3 : dIx (.list (menu.map .str)) (.int ((a + s * ((i : Nat) : Int)) % 12)) = .ok (.fro (.str (menu.getD ((a + s * ((i : Nat) : Int)) % 12).toNat ""))) := ix_ls ⟨h0, h1⟩
      have hm : -18446744073709551616 < s ∧ s < 18446744073709551616 := by omega
      generalize menu.map PyData.str = M at *
      refine ⟨_, [.d sc, .d (.int k), .ow (.lst M), .d (.int a), .d (.int s), .d (.int i)], .fro (.str (menu.getD ((a + s * ((i : Nat) : Int)) % 12).toNat "")), rfl, rfl, ?_, rfl, by simp⟩
      generalize menu.getD ((a + s * ((i : Nat) : Int)) % 12).toNat "" = y at *
      simp (decide := true) -implicitDefEqProofs (disch := first | (simp; done) | omega) [x3, -ix_l, -ix_ls])
  unfold m_law_names b_law_names
  simp only [menu, List.map_cons, List.map_nil] at e
  simp (decide := true) -implicitDefEqProofs [d1, d2, x2, e, -ix_l, -ix_ls]
  refine ⟨(List.range (4 + c).toNat).map fun i => menu.getD ((a + s * ((i : Nat) : Int)) % 12).toNat "", ?_, by simp; omega, by simp; omega, ?_⟩
  · simp [menu]
  · intro x hx
    obtain ⟨i, _, rfl⟩ := List.mem_map.mp hx
    have h0 : 0 ≤ (a + s * ((i : Nat) : Int)) % 12 := Int.emod_nonneg _ (by omega)
    have h1 : (a + s * ((i : Nat) : Int)) % 12 < 12 := Int.emod_lt_of_pos _ (by omega)
    exact menu_ok _ (getD_mem (by show _ < 12; omega))
def vmenu : List Val := [.i 0, .i 1, .i 2, .i (-3), .s "", .s "a", .s "-0", .r [], .r [.i 1, .s "b"], .r [.s "a", .r [.i 0]], .i 1000000000000000000, .i 1, .i 0]
theorem vmenu_ok : ∀ v ∈ vmenu, fit 4 v := by
  have s1 : PS "" := by unfold PS Of; decide
  have s2 : PS "a" := by unfold PS Of; decide
  have s3 : PS "-0" := by unfold PS Of; decide
  have s4 : PS "b" := by unfold PS Of; decide
  intro v hv
  simp only [vmenu, List.mem_cons, List.not_mem_nil, or_false] at hv
  rcases hv with rfl | rfl | rfl | rfl | rfl | rfl | rfl | rfl | rfl | rfl | rfl | rfl | rfl
  all_goals first
    | exact (fit_i 4 _).mpr ⟨by decide, by decide⟩
    | exact (fit_s 4 _).mpr (by assumption)
    | skip
  · exact ⟨by simp, by simp⟩
  · refine ⟨by simp, fun v hv => ?_⟩
    simp only [List.mem_cons, List.not_mem_nil, or_false] at hv
    rcases hv with rfl | rfl
    · exact (fit_i 3 _).mpr ⟨by decide, by decide⟩
    · exact (fit_s 3 _).mpr s4
  · refine ⟨by simp, fun v hv => ?_⟩
    simp only [List.mem_cons, List.not_mem_nil, or_false] at hv
    rcases hv with rfl | rfl
    · exact (fit_s 3 _).mpr s2
    · refine ⟨by simp, fun v hv => ?_⟩
      rw [List.mem_singleton.mp hv]
      exact (fit_i 2 _).mpr ⟨by decide, by decide⟩
theorem value_ok (ns : List Int) (hl : ns.length ≤ 63) (k : Int) (hk : 0 ≤ k) (hk2 : k ≤ 10000) (xs : List Str) (hx : NmOk xs) : Tells (m_law_value [.d (.list (ns.map .int)), .d (.int k), .d (.list (xs.map .str))]) (fun q => ∃ v : Val, q = .fro v.toD ∧ fit 4 v) := by
  obtain ⟨h1, h2, h3⟩ := hx
  obtain ⟨_, d1, r, rfl, r1, r2⟩ := (draw_s ns hl k (13 + xs.length) (by omega) (by omega) (by omega) (by omega)).call
  generalize PyData.list (ns.map .int) = sc at *
  have hall : ∀ v ∈ vmenu ++ xs.map Val.s, fit 4 v := by
    intro v hv
    rcases List.mem_append.mp hv with hv | hv
    · exact vmenu_ok v hv
    · obtain ⟨x, hx, rfl⟩ := List.mem_map.mp hv
      exact (fit_s 4 x).mpr (h3 x hx)
  have hlen : (vmenu ++ xs.map Val.s).length = 13 + xs.length := by rw [List.length_append, List.length_map]; rfl
  have hm : (vmenu ++ xs.map Val.s).getD r.toNat (.i 0) ∈ vmenu ++ xs.map Val.s := getD_mem (by omega)
  have hi : dIx (.list ((vmenu ++ xs.map Val.s).map Val.toD)) (.int r) = .ok (.fro ((vmenu ++ xs.map Val.s).getD r.toNat (.i 0)).toD) := by
    rw [ix_l ⟨r1, by rw [List.length_map]; omega⟩]
    exact congrArg (fun z => Res.ok (R.fro z)) (getD_map Val.toD _ _ .none (.i 0) (by omega))
  generalize (vmenu ++ xs.map Val.s).getD r.toNat (.i 0) = v at hm hi
  have hmap : (vmenu ++ xs.map Val.s).map Val.toD = vmenu.map Val.toD ++ xs.map .str := by
    rw [List.map_append, List.map_map]; rfl
  have hM : (xs.map PyData.str).length = xs.length := List.length_map ..
  rw [hmap] at hi
  simp only [vmenu, List.map_cons, List.map_nil, Val.toD_i, Val.toD_s, Val.toD_r, List.cons_append, List.nil_append] at hi
  unfold m_law_value b_law_value
  have hlen2 : (13 : Int) + xs.length = xs.length + 13 := by omega
  generalize xs.map PyData.str = M at *
  rw [← hM] at d1
  have d1' : ∀ Γ, callRes (m_law_draw [.d sc, .d (.int k), .d (.int ((M.length : Int) + 1 + 1 + 1 + 1 + 1 + 1 + 1 + 1 + 1 + 1 + 1 + 1 + 1))]) Γ = .ok (.fro (.int r), Γ) := by rw [show (M.length : Int) + 1 + 1 + 1 + 1 + 1 + 1 + 1 + 1 + 1 + 1 + 1 + 1 + 1 = 13 + M.length by omega]; exact d1
  simp (decide := true) -implicitDefEqProofs (disch := first | (simp; done) | (simp; omega) | omega) [d1, d1', hi, -ix_l, -ix_ls]
  exact ⟨v, rfl, hall v hm⟩
end W

namespace W
open PySem L2 Fw PySem.Spec PyProof.Rows
def exs (v : Val) : List Ex := [.lf (.got 0), .pair "sum" (.got 0) (.put (.i 1)), .pair "join" (.got 0) (.put (.s "a")), .many (.got 0), .pair "same" (.got 0) (.put v), .row (.got 0) (.put v), .pair "part" (.got 0) (.put (.i 0)), .pair "less" (.got 0) (.put (.i 1)), .many (.got 0), .lf (.got 0)]
theorem exs_ok {v : Val} (hv : fit 4 v) : ∀ e ∈ exs v, e.ok 1 := by
  have g0 : (Lf.got 0).ok 1 := Nat.zero_lt_one
  have i0 : (Lf.put (.i 0)).ok 1 := (fit_i 4 0).mpr ⟨by decide, by decide⟩
  have i1 : (Lf.put (.i 1)).ok 1 := (fit_i 4 1).mpr ⟨by decide, by decide⟩
  have sa : (Lf.put (.s "a")).ok 1 := (fit_s 4 "a").mpr (by unfold PS Of; decide)
  have vv : (Lf.put v).ok 1 := hv
  intro e he
  simp only [exs, List.mem_cons, List.not_mem_nil, or_false] at he
  rcases he with rfl | rfl | rfl | rfl | rfl | rfl | rfl | rfl | rfl | rfl
  · exact g0
  · exact ⟨by decide, g0, i1⟩
  · exact ⟨by decide, g0, sa⟩
  · exact g0
  · exact ⟨by decide, g0, vv⟩
  · exact ⟨g0, vv⟩
  · exact ⟨by decide, g0, i0⟩
  · exact ⟨by decide, g0, i1⟩
  · exact g0
  · exact g0
theorem expr_ok (ns : List Int) (hl : ns.length ≤ 63) (k : Int) (hk : 0 ≤ k) (hk2 : k ≤ 9000) (xs : List Str) (hx : NmOk xs) : Tells (m_law_expr [.d (.list (ns.map .int)), .d (.int k), .d (.list (xs.map .str))]) (fun q => ∃ e : Ex, q = .fro e.toD ∧ e.ok 1) := by
  obtain ⟨_, d1, v, rfl, hv⟩ := (value_ok ns hl (k + 1) (by omega) (by omega) xs hx).call
  obtain ⟨_, d2, r, rfl, r1, r2⟩ := (draw_s ns hl k 10 (by omega) (by omega) (by omega) (by omega)).call
  generalize PyData.list (ns.map .int) = sc at *
  have hm : (exs v).getD r.toNat (.lf (.got 0)) ∈ exs v := getD_mem (by show _ < 10; omega)
  have hi : dIx (.list ((exs v).map Ex.toD)) (.int r) = .ok (.fro ((exs v).getD r.toNat (.lf (.got 0))).toD) := by
    rw [ix_l ⟨r1, by rw [List.length_map]; show r < 10; omega⟩]
    exact congrArg (fun z => Res.ok (R.fro z)) (getD_map Ex.toD _ _ .none (.lf (.got 0)) (by show _ < 10; omega))
  generalize (exs v).getD r.toNat (.lf (.got 0)) = e at hm hi
  have he := exs_ok hv e hm
  simp only [exs, List.map_cons, List.map_nil, Ex.toD, Lf.toD, Val.toD_i, Val.toD_s] at hi
  unfold m_law_expr b_law_expr
  generalize PyData.list (xs.map .str) = M at *
  generalize v.toD = V at *
  rw [show (((0 : Nat) : Int)) = 0 from rfl] at hi
  simp (decide := true) -implicitDefEqProofs (disch := first | (simp; done) | (simp; omega) | omega) [d1, d2, hi, -ix_l, -ix_ls]
  exact ⟨e, rfl, he⟩
end W

namespace W
open PySem L2 Fw PySem.Spec PyProof.Rows
def twos : List Ex := [.row (.got 0) (.got 1), .pair "same" (.got 0) (.got 1), .pair "sum" (.got 1) (.got 0)]
theorem twos_ok : ∀ e ∈ twos, e.ok 2 := by
  have g0 : (Lf.got 0).ok 2 := (by decide : 0 < 2)
  have g1 : (Lf.got 1).ok 2 := (by decide : 1 < 2)
  intro e he
  simp only [twos, List.mem_cons, List.not_mem_nil, or_false] at he
  rcases he with rfl | rfl | rfl
  · exact ⟨g0, g1⟩
  · exact ⟨by decide, g0, g1⟩
  · exact ⟨by decide, g1, g0⟩
def nmX (x : Str) : Ex := .lf (.put (.s x))
def rcs (a b c : Str) (v : Val) (e t : Ex) : List Rc := [.say (.lf (.put v)), .want (nmX a) (.say e), .want (nmX a) (.want (nmX b) (.say t)), .want (nmX a) (.say e), .want (nmX a) (.when e (.want (nmX b) (.say (.lf (.got 1)))) (.say (.lf (.put v)))),
  .want (nmX a) (.want (.lf (.got 0)) (.say (.lf (.got 1)))), .fail c, .want (nmX a) (.want (nmX a) (.say t))]
theorem rcs_ok {a b c : Str} {v : Val} {e t : Ex} (ha : PS a) (hb : PS b) (hc : PS c) (hv : fit 4 v) (he : e.ok 1) (ht : t.ok 2) : ∀ r ∈ rcs a b c v e t, r.ok 0 ∧ r.dep ≤ 5 := by
  have xa : ∀ n, (nmX a).ok n := fun n => (fit_s 4 a).mpr ha
  have xb : ∀ n, (nmX b).ok n := fun n => (fit_s 4 b).mpr hb
  have vv : ∀ n, (Ex.lf (.put v)).ok n := fun n => hv
  have g0 : (Ex.lf (.got 0)).ok 1 := (by decide : 0 < 1)
  have g1 : (Ex.lf (.got 1)).ok 2 := (by decide : 1 < 2)
  intro r hr
  simp only [rcs, List.mem_cons, List.not_mem_nil, or_false] at hr
  rcases hr with rfl | rfl | rfl | rfl | rfl | rfl | rfl | rfl
  · exact ⟨vv 0, by simp [Rc.dep]⟩
  · exact ⟨⟨xa 0, he⟩, by simp [Rc.dep]⟩
  · exact ⟨⟨xa 0, xb 1, ht⟩, by simp [Rc.dep]⟩
  · exact ⟨⟨xa 0, he⟩, by simp [Rc.dep]⟩
  · exact ⟨⟨xa 0, he, ⟨xb 1, g1⟩, vv 1⟩, by simp [Rc.dep]⟩
  · exact ⟨⟨xa 0, g0, g1⟩, by simp [Rc.dep]⟩
  · exact ⟨hc.1, by simp [Rc.dep]⟩
  · exact ⟨⟨xa 0, xa 1, ht⟩, by simp [Rc.dep]⟩
theorem recipe_ok (ns : List Int) (hl : ns.length ≤ 63) (k : Int) (hk : 0 ≤ k) (hk2 : k ≤ 8000) (xs : List Str) (hx : NmOk xs) : Tells (m_law_recipe [.d (.list (ns.map .int)), .d (.int k), .d (.list (xs.map .str)), .d (.int 8)]) (fun q => ∃ r : Rc, q = .fro r.toD ∧ r.ok 0 ∧ r.dep ≤ 5) := by
  have h123 := hx
  obtain ⟨h1, h2, h3⟩ := hx
  obtain ⟨_, d0, r0, rfl, r01, r02⟩ := (draw_s ns hl k xs.length (by omega) (by omega) (by omega) (by omega)).call
  obtain ⟨_, d1, r1, rfl, r11, r12⟩ := (draw_s ns hl (k + 1) xs.length (by omega) (by omega) (by omega) (by omega)).call
  obtain ⟨_, d6, r6, rfl, r61, r62⟩ := (draw_s ns hl (k + 6) xs.length (by omega) (by omega) (by omega) (by omega)).call
  obtain ⟨_, d2, v, rfl, hv⟩ := (value_ok ns hl (k + 2) (by omega) (by omega) xs h123).call
  obtain ⟨_, d3, e, rfl, he⟩ := (expr_ok ns hl (k + 3) (by omega) (by omega) xs h123).call
  obtain ⟨_, d5, r5, rfl, r51, r52⟩ := (draw_s ns hl (k + 5) 3 (by omega) (by omega) (by omega) (by omega)).call
  obtain ⟨_, d7, r7, rfl, r71, r72⟩ := (draw_s ns hl (k + 7) 8 (by omega) (by omega) (by omega) (by omega)).call
  generalize PyData.list (ns.map .int) = sc at *
  have nx : ∀ r : Int, 0 ≤ r → r < xs.length → dIx (.list (xs.map .str)) (.int r) = .ok (.fro (.str (xs.getD r.toNat ""))) ∧ PS (xs.getD r.toNat "") := fun r q1 q2 => ⟨ix_ls ⟨q1, q2⟩, h3 _ (getD_mem (by omega))⟩
  obtain ⟨i0, p0⟩ := nx r0 r01 r02
  obtain ⟨i1, p1⟩ := nx r1 r11 r12
  obtain ⟨i6, p6⟩ := nx r6 r61 r62
  generalize xs.getD r0.toNat "" = a at *
  generalize xs.getD r1.toNat "" = b at *
  generalize xs.getD r6.toNat "" = c at *
  have hmt : twos.getD r5.toNat (.lf (.got 0)) ∈ twos := getD_mem (by show _ < 3; omega)
  have i5 : dIx (.list (twos.map Ex.toD)) (.int r5) = .ok (.fro (twos.getD r5.toNat (.lf (.got 0))).toD) := by
    rw [ix_l ⟨r51, by rw [List.length_map]; show r5 < 3; omega⟩]
    exact congrArg (fun z => Res.ok (R.fro z)) (getD_map Ex.toD _ _ .none (.lf (.got 0)) (by show _ < 3; omega))
  generalize twos.getD r5.toNat (.lf (.got 0)) = t at hmt i5
  have ht := twos_ok t hmt
  have hmr : (rcs a b c v e t).getD r7.toNat (.fail "") ∈ rcs a b c v e t := getD_mem (by show _ < 8; omega)
  have i7 : ∀ more : List D, dIx (.list ((rcs a b c v e t).map Rc.toD ++ more)) (.int r7) = .ok (.fro ((rcs a b c v e t).getD r7.toNat (.fail "")).toD) := by
    intro more
    have hlen : ((rcs a b c v e t).map Rc.toD).length = 8 := rfl
    rw [ix_l ⟨r71, by rw [List.length_append, hlen]; omega⟩]
    refine congrArg (fun z => Res.ok (R.fro z)) ?_
    rw [List.getD_eq_getElem?_getD, List.getElem?_append_left (by rw [hlen]; omega), ← List.getD_eq_getElem?_getD]
    exact getD_map Rc.toD _ _ .none (.fail "") (by show _ < 8; omega)
  generalize (rcs a b c v e t).getD r7.toNat (.fail "") = r at hmr i7
  obtain ⟨k1, k2⟩ := rcs_ok p0 p1 p6 hv he ht r hmr
  have hm2 : twos.map Ex.toD = [.tuple [.str "row", .tuple [.tuple [.str "got", .int 0], .tuple [.str "got", .int 1]]], .tuple [.str "same", .tuple [.str "got", .int 0], .tuple [.str "got", .int 1]], .tuple [.str "sum", .tuple [.str "got", .int 1], .tuple [.str "got", .int 0]]] := rfl
  rw [hm2] at i5
  clear hm2
  have hmap : (rcs a b c v e t).map Rc.toD = [.tuple [.str "say", .tuple [.str "put", v.toD]], .tuple [.str "want", .tuple [.str "put", .str a], .tuple [.str "say", e.toD]], .tuple [.str "want", .tuple [.str "put", .str a], .tuple [.str "want", .tuple [.str "put", .str b], .tuple [.str "say", t.toD]]], .tuple [.str "want", .tuple [.str "put", .str a], .tuple [.str "say", e.toD]], .tuple [.str "want", .tuple [.str "put", .str a], .tuple [.str "when", e.toD, .tuple [.str "want", .tuple [.str "put", .str b], .tuple [.str "say", .tuple [.str "got", .int 1]]], .tuple [.str "say", .tuple [.str "put", v.toD]]]], .tuple [.str "want", .tuple [.str "put", .str a], .tuple [.str "want", .tuple [.str "got", .int 0], .tuple [.str "say", .tuple [.str "got", .int 1]]]], .tuple [.str "fail", .str c], .tuple [.str "want", .tuple [.str "put", .str a], .tuple [.str "want", .tuple [.str "put", .str a], .tuple [.str "say", t.toD]]]] := rfl
  simp only [hmap, List.cons_append, List.nil_append] at i7
  clear hmap
  unfold m_law_recipe b_law_recipe
  have hM : (xs.map PyData.str).length = xs.length := List.length_map ..
  rw [← hM] at d0 d1 d6
  generalize xs.map PyData.str = M at *
  generalize v.toD = V at *
  generalize e.toD = E at *
  generalize t.toD = TT at *
  simp (decide := true) -implicitDefEqProofs (disch := first | (simp; done) | (simp; omega) | omega) [d0, d1, d2, d3, d5, d6, d7, i0, i1, i5, i6, i7, -ix_l, -ix_ls]
  exact ⟨r, rfl, k1, k2⟩
end W

namespace W
open PySem L2 Fw PySem.Spec PyProof.Rows
def cK (p : Str × Val) : Key × D := (Sum.inr p.1, p.2.toD)
def putG (G : Bk) (w : Str) (v : Val) : Bk := if (G.any fun p => decide (p.1 = w)) = true then G.map (fun p => if p.1 = w then (p.1, v) else p) else G ++ [(w, v)]
theorem put_eq (G : Bk) (w : Str) (v : Val) : Fw.putD (G.map cK) (Sum.inr w) v.toD = (putG G w v).map cK := by
  have h1 : ((G.map cK).any fun kv => decide (kv.1 = Sum.inr w)) = G.any fun p => decide (p.1 = w) := by
    rw [List.any_map]
    congr 1
    funext p
    simp [cK]
  unfold Fw.putD putG
  rw [h1]
  by_cases q : (G.any fun p => decide (p.1 = w)) = true
  · rw [if_pos q, if_pos q, List.map_map, List.map_map]
    refine List.map_congr_left fun p _ => ?_
    by_cases z : p.1 = w <;> simp [cK, z]
  · rw [if_neg q, if_neg q, List.map_append]
    rfl
theorem put_ok {G : Bk} {w : Str} {v : Val} (hG : BkOk G) (hv : fit 4 v) : BkOk (putG G w v) ∧ (putG G w v).length ≤ G.length + 1 := by
  unfold putG
  by_cases q : (G.any fun p => decide (p.1 = w)) = true
  · rw [if_pos q]
    refine ⟨fun p hp => ?_, by simp⟩
    obtain ⟨p', h1, rfl⟩ := List.mem_map.mp hp
    by_cases z : p'.1 = w
    · rw [if_pos z]; exact hv
    · rw [if_neg z]; exact hG p' h1
  · rw [if_neg q]
    refine ⟨fun p hp => ?_, by simp⟩
    rcases List.mem_append.mp hp with hp | hp
    · exact hG p hp
    · rw [List.mem_singleton.mp hp]; exact hv
theorem good_ok (ns : List Int) (hl : ns.length ≤ 63) (k : Int) (hk : 0 ≤ k) (hk2 : k ≤ 8000) (xs : List Str) (hx : NmOk xs) : Tells (m_law_good_by [.d (.list (ns.map .int)), .d (.int k), .d (.list (xs.map .str))]) (fun q => ∃ G : Bk, q = .own (.dct (G.map cK)) ∧ BkOk G) := by
  have hx' := hx
  obtain ⟨h1, h2, h3⟩ := hx'
  have vo := fun k h1 h2 => (value_ok ns hl k h1 h2 xs hx).call
  have dr := fun k h1 h2 => (draw_s ns hl k 4 h1 h2 (by omega) (by omega)).call
  generalize PyData.list (ns.map .int) = sc at *
  unfold m_law_good_by b_law_good_by
  obtain ⟨Γ1, e1, G, rfl, hG, _⟩ := sFor_inv (List.range xs.length) (fun i => PyData.int ((i : Nat) : Int)) (fun i Γ => ∃ G : Bk, Γ = [.d sc, .d (.int k), .d (.list (xs.map .str)), .ow (.dct (G.map cK)), .no] ∧ BkOk G ∧ G.length ≤ i)
    (mi := iR1 (aCons (eUnO dLen (oN 2)) aNil)) (b := bName 4) (body := l_law_good_by_0) (tmp := [4]) (Γ := [.d sc, .d (.int k), .d (.list (xs.map .str)), .ow (.dct []), .no])
    (iR1_eq (n := xs.length) (Γ1 := [.d sc, .d (.int k), .d (.list (xs.map .str)), .ow (.dct []), .no]) (by simp -implicitDefEqProofs) (by omega)) ⟨[], rfl, (by intro p hp; cases hp), Nat.le_refl _⟩ (by
      rintro i x _ hi ⟨G, rfl, hG, hGl⟩
      obtain ⟨hi2, hx3⟩ := List.getElem?_eq_some_iff.mp hi
      rw [List.length_range] at hi2
      rw [List.getElem_range] at hx3
      subst hx3
      obtain ⟨_, d1, r, rfl, r1, r2⟩ := dr (k + 2 * (i : Int)) (by omega) (by omega)
      obtain ⟨_, d2, v, rfl, hv⟩ := vo (k + 1 + 2 * (i : Int)) (by omega) (by omega)
      have ix : dIx (.list (xs.map .str)) (.int (i : Int)) = .ok (.fro (.str (xs.getD i ""))) := by
        have := ix_ls (xs := xs) (i := (i : Int)) ⟨by omega, by omega⟩
        rwa [Int.toNat_natCast] at this
      have hp : putC (.dct (G.map cK)) (.str (xs.getD i "")) v.toD = some (.dct ((putG G (xs.getD i "") v).map cK)) := by
        unfold putC keyOf
        simp only [Option.map_some, put_eq]
        exact if_pos (by rw [List.length_map]; unfold lim; omega)
      obtain ⟨k1, k2⟩ := put_ok (w := xs.getD i "") hG hv
      unfold l_law_good_by_0
      generalize xs.getD i "" = w at *
      generalize xs.map PyData.str = M at *
      generalize hC : G.map cK = C at *
      by_cases hr : 0 < r
      · refine ⟨[.d sc, .d (.int k), .d (.list M), .ow (.dct C), .d (.int i)], [.d sc, .d (.int k), .d (.list M), .ow (.dct ((putG G w v).map cK)), .d (.int i)], by simp, .inl ?_, putG G w v, by simp, k1, by omega⟩
        generalize (putG G w v).map cK = C2 at *
        generalize v.toD = V at *
        simp (decide := true) -implicitDefEqProofs [d1, d2, ix, hp, hr, -ix_l, -ix_ls]
      · refine ⟨[.d sc, .d (.int k), .d (.list M), .ow (.dct C), .d (.int i)], [.d sc, .d (.int k), .d (.list M), .ow (.dct C), .d (.int i)], by simp, .inl ?_, G, ?_, hG, by omega⟩
        · simp (decide := true) -implicitDefEqProofs [d1, hr]
        · rw [hC]; simp)
  simp (decide := true) -implicitDefEqProofs [e1]
  exact ⟨G, rfl, hG⟩
end W

namespace W
open PySem L2 Fw PySem.Spec PyProof.Rows
theorem pairs_turn (ns : List Int) (hl : ns.length ≤ 63) (x : Nat) (hx : x ≤ 20) (Z : Gm) (hZ : Z = [.no, .no, .no, .no, .no]) : ∃ g', l_law_0 ([.d (.list (ns.map .int)), .d (.int x), .no] ++ Z) = .ok (.nx g') ∧ wipeG g' [1, 2] = [.d (.list (ns.map .int)), .no, .no] ++ Z := by
  subst hZ
  obtain ⟨_, d1, l, rfl, h1⟩ := (one_line_ok ns hl (10 + 30 * (x : Int)) (by omega) (by omega)).call
  obtain ⟨_, d2, l', rfl, h2⟩ := (bent_ok ns hl (20 + 30 * (x : Int)) (by omega) (by omega) l h1).call
  have hp := pair_ok l l' (by omega) (by omega)
  generalize PyData.list (ns.map .int) = sc at *
  unfold l_law_0
  generalize l.toD = A at *
  generalize l'.toD = B at *
  simp (decide := true) -implicitDefEqProofs [d1, d2, hp]
theorem doing_ok (ns : List Int) (hl : ns.length ≤ 63) {f : Ex → List Val → Tw} (hf : Tf f) (xs : List Str) (hx : NmOk xs) (r : Rc) (hr : r.ok 0) (hd : r.dep ≤ 5) (ds : List D) (hds : ds.length ≤ 50) (x : Nat) (hxx : x ≤ 20) :
    ∃ (G : Bk) (g' : Gm), BkOk G ∧ l_law_1 [.d (.list (ns.map .int)), .no, .no, .d (.list (xs.map .str)), .d r.toD, .ow (.lst ds), .d (.int x), .no] = .ok (.nx g') ∧
      wipeG g' [6] = [.d (.list (ns.map .int)), .no, .no, .d (.list (xs.map .str)), .d r.toD, .ow (.lst (ds ++ [Ln.toD ⟨"x", (runS f G r []).1, (runS f G r []).2⟩])), .no, .no] := by
  obtain ⟨_, d1, G, rfl, hG⟩ := (good_ok ns hl (330 + 20 * (x : Int)) (by omega) (by omega) xs hx).call
  obtain ⟨_, d2, X, rfl⟩ := (run_ok hf G hG r hr hd).call
  have hg : (G.map cK).map pD = G.map fun p => (PyData.str p.1, p.2.toD) := by rw [List.map_map]; rfl
  have d2' : ∀ Γ, callRes (m_law_run [.d r.toD, .d (.dict ((G.map cK).map pD))]) Γ = .ok (.fro (.tuple [.tuple ((runS f G r []).1.map pr), pr (runS f G r []).2, X]), Γ) := by rw [hg]; exact d2
  refine ⟨G, ?_⟩
  have hm := app_l (M := ds) (d := Ln.toD ⟨"x", (runS f G r []).1, (runS f G r []).2⟩) (by omega)
  simp only [Ln.toD] at hm ⊢
  generalize PyData.list (ns.map .int) = sc at *
  generalize PyData.list (xs.map .str) = M at *
  generalize r.toD = RR at *
  generalize PyData.tuple ((runS f G r []).1.map pr) = R1 at *
  generalize pr (runS f G r []).2 = R2 at *
  unfold l_law_1
  have hc : Fw.cutD [R1, R2, X] none (some 2) = [R1, R2] := rfl
  generalize (G.map cK) = C at *
  simp (decide := true) -implicitDefEqProofs [d1, d2', hc, hm, hG]
end W

namespace W
open PySem L2 Fw PySem.Spec PyProof.Rows
def dl (f : Ex → List Val → Tw) (r : Rc) (G : Bk) : Ln := ⟨"x", (runS f G r []).1, (runS f G r []).2⟩
theorem law_true : ∀ ns : List Int, ns.length ≤ 63 → ∃ g, m_law [.d (.list (ns.map .int))] = .ok (.fro (.bool true), g) := by
  intro ns hl
  obtain ⟨f, hf⟩ := told_fn
  have hf : Tf f := hf
  obtain ⟨_, d0, m, rfl, m1, m2⟩ := (draw_s ns hl 0 8 (by omega) (by omega) (by omega) (by omega)).call
  obtain ⟨_, d3, xs, rfl, hx⟩ := (names_ok ns hl 300 (by omega) (by omega)).call
  obtain ⟨_, d4, r, rfl, hr, hd⟩ := (recipe_ok ns hl 310 (by omega) (by omega) xs hx).call
  have pt := fun x hx => pairs_turn ns hl x hx [.no, .no, .no, .no, .no] rfl
  have dt := fun ds hds x hx2 => doing_ok ns hl hf xs hx r hr hd ds hds x hx2
  generalize PyData.list (ns.map .int) = sc at *
  obtain ⟨Γ1, e1, rfl⟩ := sFor_inv (List.range (1 + m).toNat) (fun i => PyData.int ((i : Nat) : Int)) (fun i Γ => Γ = [.d sc, .no, .no, .no, .no, .no, .no, .no]) (mi := iR1 (aCons (eBin dAdd (eC (.int 1)) (eFn m_law_draw (aCons (eVar 0) (aCons (eC (.int 0)) (aCons (eC (.int 8)) aNil))))) aNil)) (b := bName 1) (body := l_law_0) (tmp := [1, 2]) (Γ := [.d sc, .no, .no, .no, .no, .no, .no, .no])
    (iR1_eq (n := 1 + m) (Γ1 := [.d sc, .no, .no, .no, .no, .no, .no, .no]) (by simp -implicitDefEqProofs [d0]) (by omega)) rfl (by
      rintro i x _ hi rfl
      obtain ⟨hi2, hx3⟩ := List.getElem?_eq_some_iff.mp hi
      rw [List.length_range] at hi2
      rw [List.getElem_range] at hx3
      subst hx3
      obtain ⟨g', e, hg⟩ := pt i (by omega)
      exact ⟨[.d sc, .d (.int i), .no, .no, .no, .no, .no, .no], g', rfl, .inl e, hg⟩)
  obtain ⟨Γ2, e2, Gs, rfl, hG, hGl⟩ := sFor_inv (List.range 3) (fun i => PyData.int ((i : Nat) : Int)) (fun i Γ => ∃ Gs : List Bk, Γ = [.d sc, .no, .no, .d (.list (xs.map .str)), .d r.toD, .ow (.lst (Gs.map fun G => (dl f r G).toD)), .no, .no] ∧ (∀ G ∈ Gs, BkOk G) ∧ Gs.length = i)
    (mi := iR1 (aCons (eC (.int 3)) aNil)) (b := bName 6) (body := l_law_1) (tmp := [6]) (Γ := [.d sc, .no, .no, .d (.list (xs.map .str)), .d r.toD, .ow (.lst []), .no, .no])
    (iR1_eq (n := 3) rfl (by omega)) ⟨[], rfl, (by intro G h; cases h), rfl⟩ (by
      rintro i x _ hi ⟨Gs, rfl, hG, hGl⟩
      obtain ⟨hi2, hx3⟩ := List.getElem?_eq_some_iff.mp hi
      rw [List.length_range] at hi2
      rw [List.getElem_range] at hx3
      subst hx3
      obtain ⟨G, g', hb, e, hg⟩ := dt (Gs.map fun G => (dl f r G).toD) (by rw [List.length_map]; omega) i (by omega)
      refine ⟨_, g', rfl, .inl e, Gs ++ [G], ?_, ?_, by simp; omega⟩
      · rw [hg, List.map_append]; rfl
      · intro G' h
        rcases List.mem_append.mp h with h | h
        · exact hG G' h
        · rw [List.mem_singleton.mp h]; exact hb)
  have len : ∀ G, (dl f r G).rs.length ≤ 6 := fun G => Nat.le_trans (run_len f G r []) (by omega)
  have inner : ∀ A ∈ Gs, ∀ L, L = (PyData.list (Gs.map fun G => (dl f r G).toD)) → sFor (iAny (eVar 5)) (bName 7) l_law_2 [7] [.d sc, .no, .d (dl f r A).toD, .d (.list (xs.map .str)), .d r.toD, .d L, .no, .no] = .ok (.nx [.d sc, .no, .d (dl f r A).toD, .d (.list (xs.map .str)), .d r.toD, .d L, .no, .no]) := by
    rintro A hA L rfl
    obtain ⟨Γ3, e, rfl⟩ := sFor_inv Gs (fun G => (dl f r G).toD) (fun i Γ => Γ = [.d sc, .no, .d (dl f r A).toD, .d (.list (xs.map .str)), .d r.toD, .d (.list (Gs.map fun G => (dl f r G).toD)), .no, .no]) (mi := iAny (eVar 5)) (b := bName 7) (body := l_law_2) (tmp := [7]) (Γ := [.d sc, .no, .d (dl f r A).toD, .d (.list (xs.map .str)), .d r.toD, .d (.list (Gs.map fun G => (dl f r G).toD)), .no, .no]) (Γ1 := [.d sc, .no, .d (dl f r A).toD, .d (.list (xs.map .str)), .d r.toD, .d (.list (Gs.map fun G => (dl f r G).toD)), .no, .no])
      (by simp -implicitDefEqProofs) rfl (by
        rintro i B _ hB rfl
        have hB := List.mem_of_getElem? hB
        have ev := runs_even f (hG A hA) (hG B hB) r []
        obtain ⟨_, o1, rfl⟩ := (lodds_ok (dl f r A) (dl f r B) (by have := len A; omega) (by have := len B; omega)).call
        obtain ⟨_, o2, rfl⟩ := (said_ok (dl f r A) (dl f r B) false (len A) (len B)).call
        have ev : odds (dl f r A).rs (dl f r A).e (dl f r B).rs (dl f r B).e = false := ev
        rw [ev] at o1 o2
        rw [decide_eq_true rfl] at o2
        generalize PyData.list (Gs.map fun G => (dl f r G).toD) = L
        refine ⟨_, [.d sc, .no, .d (dl f r A).toD, .d (.list (xs.map .str)), .d r.toD, .d L, .no, .d (dl f r B).toD], rfl, .inl ?_, by simp⟩
        unfold l_law_2
        simp (decide := true) -implicitDefEqProofs [o1, o2])
    exact e
  obtain ⟨Γ4, e3, rfl⟩ := sFor_inv Gs (fun G => (dl f r G).toD) (fun i Γ => Γ = [.d sc, .no, .no, .d (.list (xs.map .str)), .d r.toD, .d (.list (Gs.map fun G => (dl f r G).toD)), .no, .no]) (mi := iAny (eVar 5)) (b := bName 2) (body := l_law_3) (tmp := [2, 7]) (Γ := [.d sc, .no, .no, .d (.list (xs.map .str)), .d r.toD, .ow (.lst (Gs.map fun G => (dl f r G).toD)), .no, .no]) (Γ1 := [.d sc, .no, .no, .d (.list (xs.map .str)), .d r.toD, .d (.list (Gs.map fun G => (dl f r G).toD)), .no, .no])
    (by simp -implicitDefEqProofs) rfl (by
      rintro i A _ hA rfl
      have hA := List.mem_of_getElem? hA
      exact ⟨_, _, rfl, .inl (inner A hA _ rfl), by simp⟩)
  have key : Tells (m_law [.d sc]) (fun q => q = .fro (.bool true)) := by
    unfold m_law b_law
    simp (decide := true) -implicitDefEqProofs [e1, d3, d4, e2, e3]
  obtain ⟨r, g, e, rfl⟩ := key
  exact ⟨g, e⟩
end W

open PySem PySem.W PyProof.Rows
set_option maxRecDepth 100000 in
set_option maxHeartbeats 0 in
theorem PySem.Challenge.cw_redo_k74_at_odds_holds : PySem.Challenge.rw_redo_k74_at_odds.Holds := by
  w_on; o_law; k_head; (case hw => w_witness2)
  k_fill
  refine Fw.walk_fw (l := PySem.Challenge.rw_redo_k74_at_odds) (k := 16) (x := "law") (m := W.m_law) (p := "_law_script") rfl rfl ⟨rfl, by decide, by decide⟩ (fun w h Y => PySem.W.kIn_of Y) rfl W.law_true ?F
  case F =>
    intro w mg h KX G
    refine W.ok_law (P := _) (w := w) ?T
    apply W.tx_mk KX G
    (case z_all => k_is)
    (case z_bool => k_is)
    (case z_int => k_is)
    (case z_isinstance => k_is)
    (case z_len => k_is)
    (case z_min => k_is)
    (case z_range => k_is)
    (case z_str => k_is)
    (case z_tuple => k_is)
    (case z_zip => k_is)
    (case a_next_step => k_is)
    (case l_next_step => k_is)
    (case c_next_step => k_is)
    (case k_next_step => k_is)
    (case a_at_odds => k_is)
    (case l_at_odds => k_is)
    (case c_at_odds => k_is)
    (case k_at_odds => k_is)
    (case a_law_draw => k_is)
    (case l_law_draw => k_is)
    (case c_law_draw => k_is)
    (case k_law_draw => k_is)
    (case a_law_stamp => k_is)
    (case l_law_stamp => k_is)
    (case c_law_stamp => k_is)
    (case k_law_stamp => k_is)
    (case a_law_names => k_is)
    (case l_law_names => k_is)
    (case c_law_names => k_is)
    (case k_law_names => k_is)
    (case a_law_value => k_is)
    (case l_law_value => k_is)
    (case c_law_value => k_is)
    (case k_law_value => k_is)
    (case a_law_expr => k_is)
    (case l_law_expr => k_is)
    (case c_law_expr => k_is)
    (case k_law_expr => k_is)
    (case a_law_recipe => k_is)
    (case l_law_recipe => k_is)
    (case c_law_recipe => k_is)
    (case k_law_recipe => k_is)
    (case a_law_fits => k_is)
    (case l_law_fits => k_is)
    (case c_law_fits => k_is)
    (case k_law_fits => k_is)
    (case a_law_of_two => k_is)
    (case l_law_of_two => k_is)
    (case c_law_of_two => k_is)
    (case k_law_of_two => k_is)
    (case a_law_told => k_is)
    (case l_law_told => k_is)
    (case c_law_told => k_is)
    (case k_law_told => k_is)
    (case a_law_is_name => k_is)
    (case l_law_is_name => k_is)
    (case c_law_is_name => k_is)
    (case k_law_is_name => k_is)
    (case a_law_run => k_is)
    (case l_law_run => k_is)
    (case c_law_run => k_is)
    (case k_law_run => k_is)
    (case a_law_one_line => k_is)
    (case l_law_one_line => k_is)
    (case c_law_one_line => k_is)
    (case k_law_one_line => k_is)
    (case a_law_steps => k_is)
    (case l_law_steps => k_is)
    (case c_law_steps => k_is)
    (case k_law_steps => k_is)
    (case a_law_odds => k_is)
    (case l_law_odds => k_is)
    (case c_law_odds => k_is)
    (case k_law_odds => k_is)
    (case a_law_bent => k_is)
    (case l_law_bent => k_is)
    (case c_law_bent => k_is)
    (case k_law_bent => k_is)
    (case a_law_said => k_is)
    (case l_law_said => k_is)
    (case c_law_said => k_is)
    (case k_law_said => k_is)
    (case a_law_pair_right => k_is)
    (case l_law_pair_right => k_is)
    (case c_law_pair_right => k_is)
    (case k_law_pair_right => k_is)
    (case a_law_good_by => k_is)
    (case l_law_good_by => k_is)
    (case c_law_good_by => k_is)
    (case k_law_good_by => k_is)
    (case a_law => k_is)
    (case l_law => k_is)
    (case c_law => k_is)
    (case k_law => k_is)
