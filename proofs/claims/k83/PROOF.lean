import PyProof.Rows.All
import Wide.All
import OpenK.AllK
import Wide.FinOn
import HandS.ForMost
import HandS.Flow
import HandS.TupAny
import HandS.Exc
import HandS.RaiseMore
import KE.DataIsa
import KE.DataAny
import KE.DatumIndex
import PyProof.Rows.SeqMore
import PySem.Challenge.RW_redo_k83_reports
set_option Elab.async false
set_option linter.all false
set_option maxRecDepth 100000
set_option maxHeartbeats 4000000
namespace Fw
open PySem L2

/-! ## data, results -/
abbrev D := PyData
def kD : Key → D
  | .inl i => .int i
  | .inr x => .str x
def pD (p : Key × D) : D × D := (kD p.1, p.2)

inductive Cell where
  | lst (xs : List D)
  | dct (kvs : List (Key × D))
def Cell.toD : Cell → D
  | .lst xs => .list xs
  | .dct kvs => .dict (kvs.map pD)
inductive R where
  | fro (d : D)
  | own (c : Cell)
def R.dat : R → D
  | .fro d => d
  | .own c => c.toD
inductive SV where
  | no
  | d (d : D)
  | ow (c : Cell)
  | io (c : Cell)
abbrev Gm := List SV
def R.sv : R → SV
  | .fro d => .d d
  | .own c => .ow c
structure Ex where
  cls : Str
  arg : Option D
inductive Res (α : Type) where
  | ok (a : α)
  | er (x : Ex) (g : Gm)
  | no
namespace Res
variable {α β : Type}
def bind (r : Res α) (f : α → Res β) : Res β := match r with
  | .ok a => f a
  | .er x g => .er x g
  | .no => .no
def good (r : Res α) (k : α → Prop) (kx : Ex → Gm → Prop) : Prop := match r with
  | .ok a => k a
  | .er x g => kx x g
  | .no => False
@[simp] theorem bind_ok (a : α) (f : α → Res β) : (Res.ok a).bind f = f a := rfl
@[simp] theorem bind_er (x : Ex) (g : Gm) (f : α → Res β) : (Res.er x g).bind f = .er x g := rfl
@[simp] theorem bind_no (f : α → Res β) : (Res.no).bind f = .no := rfl
@[simp] theorem good_ok (a : α) (k : α → Prop) (kx : Ex → Gm → Prop) : (Res.ok a).good k kx = k a := rfl
@[simp] theorem good_er (x : Ex) (g : Gm) (k : α → Prop) (kx : Ex → Gm → Prop) : (Res.er x g).good k kx = kx x g := rfl
@[simp] theorem good_no (k : α → Prop) (kx : Ex → Gm → Prop) : (Res.no : Res α).good k kx = False := rfl
theorem good_bind (r : Res α) (f : α → Res β) (k : β → Prop) (kx : Ex → Gm → Prop) : (r.bind f).good k kx = r.good (fun a => (f a).good k kx) kx := by
  cases r <;> rfl
theorem good.mono {r : Res α} {k k' : α → Prop} {kx kx' : Ex → Gm → Prop} (h : r.good k kx) (h1 : ∀ a, k a → k' a) (h2 : ∀ x g, kx x g → kx' x g) : r.good k' kx' := by
  cases r with
  | ok a => exact h1 a h
  | er x g => exact h2 x g h
  | no => exact h
end Res

/-! ## representation -/
mutual
inductive Rp (K : PySem.W.Frag) (F : Hp) : V → D → Prop
  | non : Rp K F .non .none
  | bl (b : Bool) : Rp K F (.bl b) (.bool b)
  | int (i : Int) : Rp K F (.int i) (.int i)
  | str (x : Str) : Rp K F (.str x) (.str x)
  | lst {a : Addr} {xs : List V} {ds : List D} : SqL K F a xs → RpAll K F xs ds → Rp K F (.ref a) (.list ds)
  | tup {a : Addr} {xs : List V} {ds : List D} : SqT K F a xs → RpAll K F xs ds → Rp K F (.ref a) (.tuple ds)
  | dct {a : Addr} {kvs : List (Key × V)} {es : List (Key × D)} {ps : List (D × D)} : F a = some (.dK kvs) → RpKv K F kvs es → ps = es.map pD → Rp K F (.ref a) (.dict ps)
inductive RpAll (K : PySem.W.Frag) (F : Hp) : List V → List D → Prop
  | nil : RpAll K F [] []
  | cons {v : V} {vs : List V} {d : D} {ds : List D} : Rp K F v d → RpAll K F vs ds → RpAll K F (v :: vs) (d :: ds)
inductive RpKv (K : PySem.W.Frag) (F : Hp) : List (Key × V) → List (Key × D) → Prop
  | nil : RpKv K F [] []
  | cons {k : Key} {v : V} {vs : List (Key × V)} {d : D} {ds : List (Key × D)} : Rp K F v d → RpKv K F vs ds → RpKv K F ((k, v) :: vs) ((k, d) :: ds)
end
def Sub (F F' : Hp) : Prop := ∀ a o, F a = some o → F' a = some o
theorem Sub.refl (F : Hp) : Sub F F := fun _ _ h => h
theorem Sub.trans {F F1 F2 : Hp} (a : Sub F F1) (b : Sub F1 F2) : Sub F F2 := fun x o h => b x o (a x o h)
theorem Sub.rd {F F' : Hp} {a : Addr} {u : HO} (e : Sub F F') (h : Rd F a u) : Rd F' a u := by
  rcases h with h | ⟨o, h⟩
  · exact .inl (e a _ h)
  · exact .inr ⟨o, e a _ h⟩
theorem Sub.l {K : PySem.W.Frag} {F F' : Hp} {a : Addr} {xs : List V} (e : Sub F F') (h : SqL K F a xs) : SqL K F' a xs := by
  rcases h with h | h
  · exact .inl (e.rd h)
  · exact .inr h
theorem Sub.t {K : PySem.W.Frag} {F F' : Hp} {a : Addr} {xs : List V} (e : Sub F F') (h : SqT K F a xs) : SqT K F' a xs := by
  rcases h with h | h
  · exact .inl (e.rd h)
  · exact .inr h
theorem Sub.ne {F F' : Hp} {a : Addr} (e : Sub F F') (h : F' a = none) : F a = none := by
  cases q : F a with
  | none => rfl
  | some o => rw [e a o q] at h; cases h
section
variable {K : PySem.W.Frag} {F F' : Hp}
theorem Rp.mono (e : Sub F F') {v : V} {d : D} (h : Rp K F v d) : Rp K F' v d :=
  Rp.rec (motive_1 := fun v d _ => Rp K F' v d) (motive_2 := fun vs ds _ => RpAll K F' vs ds) (motive_3 := fun vs ds _ => RpKv K F' vs ds)
    .non (fun b => .bl b) (fun i => .int i) (fun x => .str x) (fun h _ r => .lst (e.l h) r) (fun h _ r => .tup (e.t h) r) (fun h _ q r => .dct (e _ _ h) r q)
    .nil (fun _ _ h t => .cons h t) .nil (fun _ _ h t => .cons h t) h
theorem RpAll.mono (e : Sub F F') {v : List V} {d : List D} (h : RpAll K F v d) : RpAll K F' v d :=
  RpAll.rec (motive_1 := fun v d _ => Rp K F' v d) (motive_2 := fun vs ds _ => RpAll K F' vs ds) (motive_3 := fun vs ds _ => RpKv K F' vs ds)
    .non (fun b => .bl b) (fun i => .int i) (fun x => .str x) (fun h _ r => .lst (e.l h) r) (fun h _ r => .tup (e.t h) r) (fun h _ q r => .dct (e _ _ h) r q)
    .nil (fun _ _ h t => .cons h t) .nil (fun _ _ h t => .cons h t) h
theorem RpKv.mono (e : Sub F F') {v : List (Key × V)} {d : List (Key × D)} (h : RpKv K F v d) : RpKv K F' v d :=
  RpKv.rec (motive_1 := fun v d _ => Rp K F' v d) (motive_2 := fun vs ds _ => RpAll K F' vs ds) (motive_3 := fun vs ds _ => RpKv K F' vs ds)
    .non (fun b => .bl b) (fun i => .int i) (fun x => .str x) (fun h _ r => .lst (e.l h) r) (fun h _ r => .tup (e.t h) r) (fun h _ q r => .dct (e _ _ h) r q)
    .nil (fun _ _ h t => .cons h t) .nil (fun _ _ h t => .cons h t) h
theorem RpAll.length {vs : List V} {ds : List D} (h : RpAll K F vs ds) : vs.length = ds.length := by
  induction ds generalizing vs with
  | nil => cases h; rfl
  | cons d ds ih => cases h with
    | cons h t => rw [List.length_cons, List.length_cons, ih t]
theorem RpAll.append {vs ws : List V} {ds es : List D} (h : RpAll K F vs ds) (k : RpAll K F ws es) : RpAll K F (vs ++ ws) (ds ++ es) := by
  induction ds generalizing vs with
  | nil => cases h; exact k
  | cons d ds ih => cases h with
    | cons h t => exact .cons h (ih t)
theorem RpAll.get {vs : List V} {ds : List D} {i : Nat} {d : D} (h : RpAll K F vs ds) (e : ds[i]? = some d) : ∃ v, vs[i]? = some v ∧ Rp K F v d := by
  induction ds generalizing vs i with
  | nil => cases e
  | cons d' ds ih => cases h with
    | cons h t =>
      cases i with
      | zero => simp at e; subst e; exact ⟨_, rfl, h⟩
      | succ i => exact ih (i := i) t (by simpa using e)
theorem RpAll.get' {vs : List V} {ds : List D} {i : Nat} {v : V} (h : RpAll K F vs ds) (e : vs[i]? = some v) : ∃ d, ds[i]? = some d ∧ Rp K F v d := by
  induction ds generalizing vs i with
  | nil => cases h; cases e
  | cons d' ds ih => cases h with
    | cons h t =>
      cases i with
      | zero => simp at e; subst e; exact ⟨_, rfl, h⟩
      | succ i => exact ih (i := i) t (by simpa using e)
theorem RpAll.take {vs : List V} {ds : List D} (h : RpAll K F vs ds) (n : Nat) : RpAll K F (vs.take n) (ds.take n) := by
  induction ds generalizing vs n with
  | nil => cases h; simp; exact .nil
  | cons d ds ih => cases h with
    | cons h t =>
      cases n with
      | zero => exact .nil
      | succ n => exact .cons h (ih t n)
theorem RpAll.drop {vs : List V} {ds : List D} (h : RpAll K F vs ds) (n : Nat) : RpAll K F (vs.drop n) (ds.drop n) := by
  induction ds generalizing vs n with
  | nil => cases h; simp; exact .nil
  | cons d ds ih => cases h with
    | cons h t =>
      cases n with
      | zero => exact .cons h t
      | succ n => exact ih t n
theorem RpAll.set {vs : List V} {ds : List D} {v : V} {d : D} (h : RpAll K F vs ds) (k : Rp K F v d) (n : Nat) : RpAll K F (vs.set n v) (ds.set n d) := by
  induction ds generalizing vs n with
  | nil => cases h; exact .nil
  | cons d' ds ih => cases h with
    | cons h t =>
      cases n with
      | zero => exact .cons k t
      | succ n => exact .cons h (ih t n)
end

/-! what represented data reads as in the heap -/
section
variable {X : Cx} {pins : List (Addr × Obj)} {σ : St} {H : Hp} {s : Shared}
theorem readsKey {k : Key} {v : Value} (h : keyIs k v = true) : ∃ as, Reads s.heap v (kD k) as := by
  rcases keyIs_shape h with ⟨i, t, rfl, rfl⟩ | ⟨x, t, rfl, rfl⟩
  · exact ⟨_, .int i t⟩
  · exact ⟨_, .str x t⟩
theorem Rp.reads (I : Inv X pins σ H s) {v : V} {d : D} (h : Rp X.K H v d) : ∀ u, RelV v u → ∃ as, Reads s.heap u d as :=
  Rp.rec (motive_1 := fun v d _ => ∀ u, RelV v u → ∃ as, Reads s.heap u d as) (motive_2 := fun vs ds _ => ∀ us, Vals vs us → ∃ as, ReadsAll s.heap us ds as)
    (motive_3 := fun kvs es _ => ∀ (ws : List (Key × Value)) (ents : List DictEntry), KV kvs ws → Pairs (mixKind X.prog X.w) ents ws → (∃ as, ReadsAll s.heap (ents.map (·.key)) ((es.map pD).map (·.1)) as) ∧ ∃ as, ReadsAll s.heap (ents.map (·.val)) ((es.map pD).map (·.2)) as)
    (fun u r => by cases (show u = Value.none from r); exact ⟨_, .none⟩) (fun b u r => by cases (show u = Value.bool b from r); exact ⟨_, .bool b⟩)
    (fun i u r => by obtain ⟨t, rfl⟩ := (show ∃ t, u = Value.int i t from r); exact ⟨_, .int i t⟩) (fun x u r => by obtain ⟨t, rfl⟩ := (show ∃ t, u = Value.str x t from r); exact ⟨_, .str x t⟩)
    (fun {a xs ds} h _ ih u r => by
      cases (show u = Value.ref a from r)
      obtain ⟨its, rv, ⟨o, n, ho, hc, hdn, hdt⟩, hlen⟩ := I.list h
      obtain ⟨as, q⟩ := ih its rv
      exact ⟨_, .list ho hc hdt q⟩)
    (fun {a xs ds} h _ ih u r => by
      cases (show u = Value.ref a from r)
      obtain ⟨its, rv, ⟨o, ho, hc, n, hdt⟩, hlen⟩ := I.tuple h
      obtain ⟨as, q⟩ := ih its rv
      exact ⟨_, .tuple ho hc hdt q⟩)
    (fun {a kvs es ps} h _ e ih u r => by
      cases (show u = Value.ref a from r)
      obtain ⟨_, _, vs, kv, o, ents, ep, h1, h2, h3, h4, h5, h6⟩ := I.hok a _ h
      obtain ⟨⟨as, q1⟩, ⟨bs, q2⟩⟩ := ih vs ents.toList kv h5
      subst e
      exact ⟨_, .dict h1 h2.1 h3 q1 q2⟩)
    (fun us r => by cases r; exact ⟨_, .nil⟩)
    (fun _ _ ih1 ih2 us r => by
      cases r with
      | cons r1 r2 =>
        obtain ⟨as, q1⟩ := ih1 _ r1
        obtain ⟨bs, q2⟩ := ih2 _ r2
        exact ⟨_, .cons q1 q2⟩)
    (fun ws ents r p => by
      cases r
      cases p
      exact ⟨⟨_, .nil⟩, ⟨_, .nil⟩⟩)
    (fun {k v vs d ds} _ _ ih1 ih2 ws ents r p => by
      cases r with
      | cons r1 r2 =>
        cases p with
        | cons p1 p2 p3 =>
          obtain ⟨⟨as, q1⟩, ⟨bs, q2⟩⟩ := ih2 _ _ r2 p3
          obtain ⟨e1, rv⟩ := r1
          obtain ⟨cs, q3⟩ := ih1 _ rv
          obtain ⟨ds', q4⟩ := readsKey (s := s) (k := k) (show keyIs k _ = true by rw [show k = _ from e1]; exact p1)
          refine ⟨⟨_, .cons q4 q1⟩, ⟨_, .cons (Eq.mpr (congrArg (fun z => Reads s.heap z d cs) p2) q3) q2⟩⟩) h
end

/-! ## the frame of a def: what is frozen, what is owned -/
structure Bd where
  U : Hp
  F0 : Hp
  π : List (Option Addr)
  n : Nat
def CellAt (K : PySem.W.Frag) (F H : Hp) (a : Addr) : Cell → Prop
  | .lst xs => ∃ vs, H a = some (.lst vs) ∧ RpAll K F vs xs
  | .dct kvs => ∃ es, H a = some (.dK es) ∧ RpKv K F es kvs
theorem CellAt.some {K : PySem.W.Frag} {F H : Hp} {a : Addr} {c : Cell} (h : CellAt K F H a c) : ∃ o, H a = some o := by
  cases c with
  | lst xs => obtain ⟨vs, h, _⟩ := h; exact ⟨_, h⟩
  | dct kvs => obtain ⟨vs, h, _⟩ := h; exact ⟨_, h⟩
theorem CellAt.mono {K : PySem.W.Frag} {F F' H H' : Hp} {a : Addr} {c : Cell} (h : CellAt K F H a c) (e : Sub F F') (eh : H' a = H a) : CellAt K F' H' a c := by
  cases c with
  | lst xs => obtain ⟨vs, h, r⟩ := h; exact ⟨vs, eh.trans h, r.mono e⟩
  | dct kvs => obtain ⟨vs, h, r⟩ := h; exact ⟨vs, eh.trans h, r.mono e⟩
def SlotOk (K : PySem.W.Frag) (F H : Hp) (p : Option Addr) (v : Option V) : SV → Prop
  | .no => True
  | .d d => ∃ x, v = some x ∧ Rp K F x d
  | .ow c => ∃ a, v = some (.ref a) ∧ CellAt K F H a c
  | .io c => ∃ a, p = some a ∧ v = some (.ref a) ∧ CellAt K F H a c
def SV.owned : SV → Bool
  | .ow _ => true
  | .io _ => true
  | _ => false
def Owns (σ : St) (Γ : Gm) (i : Nat) (a : Addr) : Prop := (∃ sv, Γ[i]? = some sv ∧ sv.owned = true) ∧ σ[i]? = some (some (.ref a))
structure Rel (B : Bd) (K : PySem.W.Frag) (F H : Hp) (σ : St) (Γ : Gm) : Prop where
  lσ : σ.length = B.n
  lΓ : Γ.length = B.n
  uh : Sub B.U H
  fh : Sub F H
  f0 : Sub B.F0 F
  nw : ∀ a o, F a = some o → B.F0 a ≠ none ∨ B.U a = none
  sl : ∀ i sv, Γ[i]? = some sv → SlotOk K F H (B.π.getD i none) (σ.getD i none) sv
  inj : ∀ i j a, Owns σ Γ i a → Owns σ Γ j a → i = j
  ofr : ∀ i a, Owns σ Γ i a → F a = none ∧ B.U a = none
theorem Rel.len {B : Bd} {K : PySem.W.Frag} {F H : Hp} {σ : St} {Γ : Gm} (r : Rel B K F H σ Γ) : σ.length = Γ.length := r.lσ.trans r.lΓ.symm
def RR (B : Bd) (K : PySem.W.Frag) (F H : Hp) (σ : St) (Γ : Gm) (v : V) : R → Prop
  | .fro d => Rp K F v d
  | .own c => ∃ a, v = .ref a ∧ F a = none ∧ B.U a = none ∧ (∀ i, ¬ Owns σ Γ i a) ∧ CellAt K F H a c
/-- a step that touches nothing that stood -/
structure Grow (F H F' H' : Hp) : Prop where
  hh : Sub H H'
  ff : Sub F F'
  fh : Sub F' H'
  nw : ∀ a o, F' a = some o → F a ≠ none ∨ H a = none
theorem Grow.refl {F H : Hp} (h : Sub F H) : Grow F H F H := ⟨Sub.refl _, Sub.refl _, h, fun a o e => .inl (by rw [e]; simp)⟩
theorem Grow.trans {F H F1 H1 F2 H2 : Hp} (a : Grow F H F1 H1) (b : Grow F1 H1 F2 H2) : Grow F H F2 H2 where
  hh := a.hh.trans b.hh
  ff := a.ff.trans b.ff
  fh := b.fh
  nw := fun c o e => by
    rcases b.nw c o e with q | q
    · cases q1 : F1 c with
      | none => exact absurd q1 q
      | some u => exact a.nw c u q1
    · exact .inr (a.hh.ne q)
/-- a new object is laid and frozen -/
theorem Grow.laid {F H : Hp} {p : Addr} {o : HO} (h : Sub F H) (hp : H p = none) : Grow F H (upd F p o) (upd H p o) where
  hh := fun a u e => by rw [upd_ne (ne_of_none e hp)]; exact e
  ff := fun a u e => by rw [upd_ne (ne_of_none e (h.ne hp))]; exact e
  fh := fun a u e => by
    by_cases q : a = p
    · subst q; rw [upd_same] at e ⊢; exact e
    · rw [upd_ne q] at e ⊢; exact h a u e
  nw := fun a u e => by
    by_cases q : a = p
    · subst q; exact .inr hp
    · rw [upd_ne q] at e; exact .inl (by rw [e]; simp)
/-- a new object is laid, not frozen -/
theorem Grow.new {F H : Hp} {p : Addr} {o : HO} (h : Sub F H) (hp : H p = none) : Grow F H F (upd H p o) where
  hh := fun a u e => by rw [upd_ne (ne_of_none e hp)]; exact e
  ff := Sub.refl _
  fh := fun a u e => by rw [upd_ne (ne_of_none (h a u e) hp)]; exact h a u e
  nw := fun a u e => .inl (by rw [e]; simp)
section
variable {B : Bd} {K : PySem.W.Frag} {F H F' H' : Hp} {σ : St} {Γ : Gm}
theorem Owns.cell (r : Rel B K F H σ Γ) {i : Nat} {a : Addr} (h : Owns σ Γ i a) : ∃ c, (Γ[i]? = some (.ow c) ∨ Γ[i]? = some (.io c)) ∧ CellAt K F H a c := by
  obtain ⟨⟨sv, e, o⟩, e2⟩ := h
  have q := r.sl i sv e
  have e3 : σ.getD i none = some (.ref a) := by rw [List.getD_eq_getElem?_getD, e2]; rfl
  rw [e3] at q
  cases sv with
  | no => cases o
  | d d => cases o
  | ow c =>
    obtain ⟨b, e4, q⟩ := q
    cases e4
    exact ⟨c, .inl e, q⟩
  | io c =>
    obtain ⟨b, _, e4, q⟩ := q
    cases e4
    exact ⟨c, .inr e, q⟩
theorem Owns.some (r : Rel B K F H σ Γ) {i : Nat} {a : Addr} (h : Owns σ Γ i a) : ∃ o, H a = some o := by
  obtain ⟨c, _, q⟩ := h.cell r
  exact q.some
theorem SlotOk.mono {p : Option Addr} {v : Option V} {sv : SV} (h : SlotOk K F H p v sv) (ff : Sub F F') (hh : sv.owned = true → ∀ a, v = Option.some (.ref a) → H' a = H a) : SlotOk K F' H' p v sv := by
  cases sv with
  | no => trivial
  | d d => obtain ⟨x, e, q⟩ := h; exact ⟨x, e, q.mono ff⟩
  | ow c => obtain ⟨a, e, q⟩ := h; exact ⟨a, e, q.mono ff (hh rfl a e)⟩
  | io c => obtain ⟨a, e0, e, q⟩ := h; exact ⟨a, e0, e, q.mono ff (hh rfl a e)⟩
theorem Rel.grow (r : Rel B K F H σ Γ) (g : Grow F H F' H') : Rel B K F' H' σ Γ where
  lσ := r.lσ
  lΓ := r.lΓ
  uh := r.uh.trans g.hh
  fh := g.fh
  f0 := r.f0.trans g.ff
  nw := fun a o e => by
    rcases g.nw a o e with q | q
    · cases q1 : F a with
      | none => exact absurd q1 q
      | some u => exact r.nw a u q1
    · exact .inr (r.uh.ne q)
  sl := fun i sv e => (r.sl i sv e).mono g.ff fun o a ea => by
    have ow : Owns σ Γ i a := ⟨⟨sv, e, o⟩, by
      rw [List.getD_eq_getElem?_getD] at ea
      cases q : σ[i]? with
      | none => rw [q] at ea; cases ea
      | some w => rw [q] at ea; exact congrArg Option.some ea⟩
    obtain ⟨u, hu⟩ := ow.some r
    rw [hu, g.hh a u hu]
  inj := r.inj
  ofr := fun i a o => by
    obtain ⟨f, u⟩ := r.ofr i a o
    refine ⟨?_, u⟩
    cases q : F' a with
    | none => rfl
    | some w =>
      rcases g.nw a w q with q1 | q1
      · exact absurd f q1
      · obtain ⟨z, hz⟩ := o.some r
        rw [hz] at q1; cases q1
/-- what the result of a value step is -/
def NR (K : PySem.W.Frag) (F' H H' : Hp) (v : V) : R → Prop
  | .fro d => Rp K F' v d
  | .own c => ∃ a, v = .ref a ∧ H a = none ∧ F' a = none ∧ CellAt K F' H' a c
theorem NR.rr (r : Rel B K F H σ Γ) {v : V} {q : R} (h : NR K F' H H' v q) : RR B K F' H' σ Γ v q := by
  cases q with
  | fro d => exact h
  | own c =>
    obtain ⟨a, e, n, f, k⟩ := h
    refine ⟨a, e, f, r.uh.ne n, fun i o => ?_, k⟩
    obtain ⟨u, hu⟩ := o.some r
    rw [hu] at n; cases n
theorem RR.grow (r : Rel B K F H σ Γ) {v : V} {q : R} (h : RR B K F H σ Γ v q) (g : Grow F H F' H') : RR B K F' H' σ Γ v q := by
  cases q with
  | fro d => exact Rp.mono g.ff h
  | own c =>
    obtain ⟨a, e, f, u, n, k⟩ := h
    obtain ⟨o, ho⟩ := k.some
    refine ⟨a, e, ?_, u, n, k.mono g.ff (by rw [ho, g.hh a o ho])⟩
    cases q : F' a with
    | none => rfl
    | some w =>
      rcases g.nw a w q with q1 | q1
      · exact absurd f q1
      · rw [ho] at q1; cases q1
/-- a result is frozen -/
theorem RR.freeze (r : Rel B K F H σ Γ) {v : V} {q : R} (h : RR B K F H σ Γ v q) : ∃ F', Rel B K F' H σ Γ ∧ Sub F F' ∧ Rp K F' v q.dat := by
  cases q with
  | fro d => exact ⟨F, r, Sub.refl _, h⟩
  | own c =>
    obtain ⟨a, e, f, u, n, k⟩ := h
    obtain ⟨o, ho⟩ := k.some
    have ff : Sub F (upd F a o) := fun b w q => by rw [upd_ne (ne_of_none q f)]; exact q
    refine ⟨upd F a o, ⟨r.lσ, r.lΓ, r.uh, ?_, r.f0.trans ff, ?_, ?_, r.inj, ?_⟩, ff, ?_⟩
    · intro b w q
      by_cases e1 : b = a
      · subst e1; rw [upd_same] at q; cases q; exact ho
      · rw [upd_ne e1] at q; exact r.fh b w q
    · intro b w q
      by_cases e1 : b = a
      · subst e1; exact .inr u
      · rw [upd_ne e1] at q; exact r.nw b w q
    · intro i sv e1
      exact (r.sl i sv e1).mono ff fun _ _ _ => rfl
    · intro i b o1
      obtain ⟨f1, u1⟩ := r.ofr i b o1
      refine ⟨?_, u1⟩
      rw [upd_ne (fun e1 => n i (by rw [← e1]; exact o1))]
      exact f1
    · subst e
      cases c with
      | lst xs =>
        obtain ⟨vs, h1, h2⟩ := k
        rw [h1] at ho; cases ho
        exact .lst (SqL.of upd_same) (h2.mono ff)
      | dct kvs =>
        obtain ⟨vs, h1, h2⟩ := k
        rw [h1] at ho; cases ho
        exact .dct upd_same (h2.mono ff) rfl
/-- a slot gets a value -/
theorem Rel.set (r : Rel B K F H σ Γ) {i : Nat} {v : V} {q : R} (h : RR B K F H σ Γ v q) : Rel B K F H (σ.set i (some v)) (Γ.set i q.sv) := by
  have other : ∀ j a, j ≠ i → Owns (σ.set i (some v)) (Γ.set i q.sv) j a → Owns σ Γ j a := by
    rintro j a hj ⟨⟨sv, e, o⟩, e2⟩
    rw [List.getElem?_set_ne (fun z => hj z.symm)] at e e2
    exact ⟨⟨sv, e, o⟩, e2⟩
  have own : ∀ a, Owns (σ.set i (some v)) (Γ.set i q.sv) i a → (F a = none ∧ B.U a = none) ∧ ∀ j, ¬ Owns σ Γ j a := by
    rintro a ⟨⟨sv, e, o⟩, e2⟩
    have hi : i < Γ.length := by
      have := (List.getElem?_eq_some_iff.mp e).1
      simpa using this
    rw [List.getElem?_set_self hi] at e
    rw [List.getElem?_set_self (by rw [r.len]; exact hi)] at e2
    cases e2
    cases q with
    | fro d => cases e; cases o
    | own c =>
      obtain ⟨b, e4, f, u, n, k⟩ := h
      cases e4
      exact ⟨⟨f, u⟩, n⟩
  refine ⟨by rw [List.length_set]; exact r.lσ, by rw [List.length_set]; exact r.lΓ, r.uh, r.fh, r.f0, r.nw, ?_, ?_, ?_⟩
  · intro j sv e
    by_cases hj : j = i
    · subst hj
      have hi : j < Γ.length := by
        have := (List.getElem?_eq_some_iff.mp e).1
        simpa using this
      rw [List.getElem?_set_self hi] at e
      have ev : (σ.set j (some v)).getD j none = some v := by rw [List.getD_eq_getElem?_getD, List.getElem?_set_self (by rw [r.len]; exact hi)]; rfl
      rw [ev]
      cases e
      cases q with
      | fro d => exact ⟨v, rfl, h⟩
      | own c =>
        obtain ⟨b, e4, f, u, n, k⟩ := h
        exact ⟨b, by rw [e4], k⟩
    · rw [List.getElem?_set_ne (fun z => hj z.symm)] at e
      have ev : (σ.set i (some v)).getD j none = σ.getD j none := by rw [List.getD_eq_getElem?_getD, List.getElem?_set_ne (fun z => hj z.symm), ← List.getD_eq_getElem?_getD]
      rw [ev]
      exact r.sl j sv e
  · intro j k a h1 h2
    by_cases hj : j = i
    · subst hj
      by_cases hk : k = j
      · exact hk.symm
      · exact absurd (other k a hk h2) ((own a h1).2 k)
    · by_cases hk : k = i
      · subst hk
        exact absurd (other j a hj h1) ((own a h2).2 j)
      · exact r.inj j k a (other j a hj h1) (other k a hk h2)
  · intro j a h1
    by_cases hj : j = i
    · subst hj; exact (own a h1).1
    · exact r.ofr j a (other j a hj h1)
/-- slots are forgotten -/
def Weak (Γ Γ' : Gm) : Prop := Γ.length = Γ'.length ∧ ∀ (i : Nat) (sv : SV), Γ'[i]? = some sv → sv = SV.no ∨ Γ[i]? = some sv
theorem Rel.weak (r : Rel B K F H σ Γ) {Γ' : Gm} (w : Weak Γ Γ') : Rel B K F H σ Γ' := by
  have own : ∀ j a, Owns σ Γ' j a → Owns σ Γ j a := by
    rintro j a ⟨⟨sv, e, o⟩, e2⟩
    rcases w.2 j sv e with q | q
    · subst q; cases o
    · exact ⟨⟨sv, q, o⟩, e2⟩
  refine ⟨r.lσ, w.1.symm.trans r.lΓ, r.uh, r.fh, r.f0, r.nw, ?_, fun i j a h1 h2 => r.inj i j a (own i a h1) (own j a h2), fun i a h => r.ofr i a (own i a h)⟩
  intro i sv e
  rcases w.2 i sv e with q | q
  · subst q; trivial
  · exact r.sl i sv q
theorem Weak.setNo (Γ : Gm) (i : Nat) : Weak Γ (Γ.set i SV.no) := by
  refine ⟨by rw [List.length_set], fun j sv e => ?_⟩
  by_cases hj : j = i
  · subst hj
    have hi : j < Γ.length := by
      have := (List.getElem?_eq_some_iff.mp e).1
      simpa using this
    rw [List.getElem?_set_self hi] at e
    cases e
    exact .inl rfl
  · rw [List.getElem?_set_ne (fun z => hj z.symm)] at e
    exact .inr e
end
end Fw

namespace Fw
open PySem L2 PySem.Spec PyProof.Rows

/-! ## a def that keeps its promise where no repr is under way -/
structure GOk (P : Program) (w : World) (K : PySem.W.Frag) (mg : Str → Option Value) (base : Heap) (CX : CXT) (k : Nat) (f : Addr) (fd : FuncData) (ps : List Str) (sp : Sp) : Prop where
  len : ∀ vs H Q E, sp vs H Q E → vs.length = ps.length
  run : ∀ (A : Around) (outer : List PySem.Env) (s : Shared) (H : Hp) (args : Args) (us : List Value) (vs : List V) (Q : VK) (E : XK), A.guards = some [] → Room k A →
    Env0 P w K mg base A outer s H → BindsTo s fd args (ps.zip us) → Vals vs us → sp vs H Q E → codeAny (model P w) A (.call (.ref f) args) (CR CX outer P w H s Q E) s
section
variable {P : Program} {w : World} {K : PySem.W.Frag} {mg : Str → Option Value} {base : Heap} {CX : CXT} {k : Nat} {f : Addr} {fd : FuncData} {ps : List Str} {sp : Sp}
theorem GOk.mono {j : Nat} (G : GOk P w K mg base CX j f fd ps sp) (h : j ≤ k) : GOk P w K mg base CX k f fd ps sp where
  len := G.len
  run := fun A outer s H args us vs Q E hg hr => G.run A outer s H args us vs Q E hg (hr.mono h)
theorem GOk.none (h : ∀ vs H Q E, ¬ sp vs H Q E) : GOk P w K mg base CX k f fd ps sp where
  len := fun vs H Q E z => (h vs H Q E z).elim
  run := fun _ _ _ H _ _ vs Q E _ _ _ _ _ z => (h vs H Q E z).elim
theorem GOk.of {name qual : Str} {st : Stmt} {N : List Str} (F : Fun K name qual st f fd) (S : FnScope N ps (defScope st)) (len : ∀ vs H Q E, sp vs H Q E → vs.length = ps.length)
    (body : ∀ (cdv : Value) (A : Around) (outer : List PySem.Env) (s : Shared) (H : Hp) (vs : List V) (Q : VK) (E : XK), A.guards = some [] → Room k (A.deeper (envOfC qual (defScope st) s.heap.objs.size f cdv)) → sp vs H Q E →
      ∃ t, PSs (cxOf CX P w K mg base N qual (defScope st) f cdv A outer s H E) (defBody st) t ∧ t { nx := fun _ H' => Q .non H', rt := Q } (start N vs) H) : GOk P w K mg base CX (k + 1) f fd ps sp := by
  obtain ⟨oc, od, kV, doc, pm, an, cdv, ct, osl, efd, lk, hcd⟩ := F.ex
  subst efd
  constructor
  · exact len
  intro A outer s H args us vs Q E hg hr e0 bnd rel hsp
  have inb : ∀ b o, base.get? b = some o → s.heap.get? b = some o := fun b o e => (e0.bs b o e).1
  have KX : K.In s.heap := e0.mod.kin.keeps inb
  refine codeAny_call_function hr.depth (KX _ _ lk) rfl S.co S.gen rfl (PySem.W.codeRec_of KX hcd) (bnd _ _ _ _ ?_)
  have hk : ∀ y ∈ ps.zip us, (defScope st).names.lookup y.1 = some .local ∨ ((defScope st).names.lookup y.1 = some .cell ∧ ((cellsFrom (s.heap.objs.size + 1) (defScope st).names []).lookup y.1).isSome = true) := by
    intro y hy
    have hp : y.1 ∈ ps := (List.of_mem_zip (a := y.1) (b := y.2) hy).1
    exact (S.par y.1 hp).imp id fun q => ⟨q, PySem.W.cellsFrom_some _ _ _ (.inl q)⟩
  refine wpAny_newFunctionEnv_cells S.kind hk ?_
  intro env he s1 x
  subst he
  refine ⟨(e0.mod.nolimit.keeps inb).keeps x.toInCall.keep, codeAny_func ?_⟩
  obtain ⟨t, ht, hq⟩ := body cdv A outer s H vs Q E hg (hr.deeper _) hsp
  have I : Inv (cxOf CX P w K mg base N qual (defScope st) f cdv A outer s H E) [] (start N vs) H s1 := inv_start S hr.hd e0 (len _ _ _ _ hsp) rel x
  refine wpAny_mono (ht.run [] s1 (start N vs) H _ I hq) ?_ fun e s' z => z
  intro fl s' z
  cases fl with
  | ret u => obtain ⟨v, σ', H', J, rv, q⟩ := z; exact ⟨v, H', J.os, J.bare, J.base, J.hok, rv, q⟩
  | next => obtain ⟨σ', H', J, q⟩ := z; exact ⟨.non, H', J.os, J.bare, J.base, J.hok, rfl, q⟩
  | brk => obtain ⟨_, _, _, q⟩ := z; cases q
  | cont => obtain ⟨_, _, _, q⟩ := z; cases q
end
section
variable {X : Cx} {CX : CXT} {k : Nat} {f : Addr} {fd : FuncData} {ps : List Str} {sp : Sp} {E : XK} {x : Str} {p pos : Pos} {e : Expr} {es : List Expr} {t : TA}
theorem GOk.here (G : GOk X.prog X.w X.K X.mg X.base CX k f fd ps sp) (hgd : X.A.guards = some []) (hr : Room k X.A) (hb : Binds X.K fd ps []) (hx : Passes CX X E) {pins : List (Addr × Obj)} {σ : L2.St} {H : Hp} {s : Shared} {Q : VK} {us : List Value} {vs : List V}
    (I : Inv X pins σ H s) (r : Vals vs us) (h : sp vs H Q E) : wpAny (model X.prog X.w) X.A (call (.ref f) us) (EP X pins σ Q) X.xe s := by
  have hl : (us ++ ([] : List Value)).length = ps.length := by rw [List.append_nil, ← r.length]; exact G.len _ _ _ _ h
  have hz := hb s us I.kIn hl
  rw [List.append_nil] at hz
  refine wpAny_call (codeAny_mono (G.run X.A X.stack s H ⟨us, []⟩ us vs Q E hgd hr I.env0 hz r h) ?_)
  intro r s' z
  cases r with
  | error e => exact hx _ _ _ _ _ _ I z
  | ok fl => cases fl with
    | ret u => exact I.after z
    | next => cases z
    | brk => cases z
    | cont => cases z
def gCall (sp : Sp) (E : XK) (t : TA) : TE := fun σ H Q => t σ H fun vs H1 => sp vs H1 Q E
theorem ge_call (G : GOk X.prog X.w X.K X.mg X.base CX k f fd ps sp) (hgd : X.A.guards = some []) (hr : Room k X.A) (hb : Binds X.K fd ps []) (hx : Passes CX X E) (hg : Gl X x) (hm : X.mg x = some (.ref f)) (hk : PySem.W.keepIn X.K (.ref f) = true)
    (ha : PA X (e :: es) t) (hdb : (x == ("__debug__" : Str)) = false := by decide) (he : starEach (e :: es) X.env = (false, eval e X.env) :: starEach es X.env := by rfl) (hpl : (backTo pos (starEach es X.env)).any (·.1) = false := by rfl) :
    PE X (.Call (.Name x p) (e :: es) [] pos) (gCall sp E t) := by
  constructor
  intro pins s σ H Q I h
  apply wpAny_Call_Name_kw
  refine ld_glob I hg hm (PySem.W.callWith_K (h₀ := X.base) I.ok.mod.kin hk (thn (ha.run pos pins s σ H _ I h) ?_) he hpl) hdb
  rintro us s1 ⟨vs, H1, I1, r, q⟩
  exact ⟨I1.kIn, G.here hgd hr hb hx I1 r q⟩
theorem ge_call0 (G : GOk X.prog X.w X.K X.mg X.base CX k f fd ps sp) (hgd : X.A.guards = some []) (hr : Room k X.A) (hb : Binds X.K fd ps []) (hx : Passes CX X E) (hg : Gl X x) (hm : X.mg x = some (.ref f)) (hk : PySem.W.keepIn X.K (.ref f) = true)
    (hdb : (x == ("__debug__" : Str)) = false := by decide) : PE X (.Call (.Name x p) [] [] pos) (gCall sp E tNil) := by
  constructor
  intro pins s σ H Q I h
  apply wpAny_Call_Name_kw
  exact ld_glob I hg hm (PySem.W.callWith_K0 I.kIn hk (G.here (us := []) hgd hr hb hx I .nil h)) hdb
end
/-! ## the law's own call -/
theorem law_run {P : Program} {w : World} {K : PySem.W.Frag} {mg mb : Str → Option Value} {CX : CXT} {k : Nat} {fa a : Addr} {fd : FuncData} {x : Str} {sp : Sp} {s₁ : Shared} {vs : List Value} {ns : List Int}
    (KX : K.In s₁.heap) (hns : s₁.heap.Ns mainGlobals mg) (hb : s₁.heap.Ns builtinsNs mb) (hbb : ∀ x : Str, x ≠ "__name__" → mb x = bootBuiltins x) (hlim : s₁.heap.NoLimit) (hg : s₁.gens = #[])
    (ha : s₁.heap.get? a = some { cls := .type "list", data := .seq vs.toArray }) (hi : IntsAre vs ns) (hl : ns.length ≤ sizeLine) (hr : Room k callerA)
    (G : ∀ base : Heap, K.In base → base.Ns mainGlobals mg → GOk P w K mg base CX k fa fd [x] sp) (hbind : Binds K fd [x] [])
    (hsp : ∀ H : Hp, Only H → SqL K H a (ns.map V.int) → sp [.ref a] H (fun v _ => v = .bl true) fun _ _ _ => False)
    (hCX : ∀ H e s', CX [] H s₁ (fun _ _ _ => False) e s' → False) :
    codeAny (model P w) callerA (.call (.ref fa) ⟨[.ref a], []⟩) (fun r s' => r = .ok (.ret (.bool true)) ∧ OldK s₁.heap s'.heap ∧ s'.os = s₁.os ∧ AllBare s'.gens) s₁ := by
  have rv : Vals (ns.map V.int) vs := vals_ints hi
  have lv : ns.length = vs.length := by have := rv.length; rwa [List.length_map] at this
  /- the script is tracked, if it is not the module's own -/
  suffices main : ∀ H : Hp, Only H → SqL K H a (ns.map V.int) → HOk P w H s₁.heap → (∀ b, H b ≠ none → b = a ∧ K.lookup a = none) →
      codeAny (model P w) callerA (.call (.ref fa) ⟨[.ref a], []⟩) (fun r s' => r = .ok (.ret (.bool true)) ∧ OldK s₁.heap s'.heap ∧ s'.os = s₁.os ∧ AllBare s'.gens) s₁ by
    cases hk : K.lookup a with
    | some o =>
      have e := (KX a o hk).symm.trans ha
      cases e
      refine main (fun _ => none) (fun _ => Or.inl rfl) ?_ (fun b u z => nomatch (show (none : Option HO) = some u from z)) (fun b z => (z rfl).elim)
      exact Or.inr ⟨_, vs.toArray, _, hk, rfl, rfl, rfl, by rw [List.size_toArray, ← lv]; exact hl, by simpa using rv⟩
    | none =>
      have there : (fun b => if b = a then some (HO.frz { cls := .type "list", data := .seq vs.toArray } (.lst (ns.map V.int))) else none : Hp) a = some (HO.frz { cls := .type "list", data := .seq vs.toArray } (.lst (ns.map V.int))) := if_pos rfl
      refine main (fun b => if b = a then some (HO.frz { cls := .type "list", data := .seq vs.toArray } (.lst (ns.map V.int))) else none) ?_ (Or.inl (Or.inr ⟨_, there⟩)) ?_ ?_
      · intro b
        by_cases q : b = a
        · exact Or.inr ⟨_, _, if_pos q⟩
        · exact Or.inl (if_neg q)
      · intro b u z
        by_cases q : b = a
        · subst q
          rw [there] at z
          cases z
          exact ⟨ha, by rw [List.length_map]; exact hl, vs, _, rv, ha⟩
        · have z' := (if_neg q).symm.trans z
          cases z'
      · intro b z
        by_cases q : b = a
        · exact ⟨q, hk⟩
        · exact (z (if_neg q)).elim
  intro H hO hS hok hA
  have nA : ∀ {b : Addr}, (b = a → False) → H b = none := by
    intro b hb
    cases q : H b with
    | none => rfl
    | some u => exact (hb (hA b (by rw [q]; intro z; cases z)).1).elim
  have bs : ∀ {b : Addr} {o : Obj}, s₁.heap.get? b = some o → (∃ es ep, o.data = .dict es ep) → (hidT s₁.heap H).get? b = some o := by
    rintro b o e ⟨es, ep, d⟩
    refine hidT_get e (nA fun q => ?_)
    subst q
    rw [ha] at e
    cases e
    cases d
  have ns' : ∀ {b : Addr} {m : Str → Option Value}, s₁.heap.Ns b m → (hidT s₁.heap H).Ns b m := by
    rintro b m ⟨o, es, ep, e, d, r⟩
    exact ⟨o, es, ep, bs e ⟨es, ep, d⟩, d, r⟩
  have kin : K.In (hidT s₁.heap H) := by
    intro b o e
    refine hidT_get (KX b o e) ?_
    cases q : H b with
    | none => rfl
    | some u =>
      obtain ⟨q1, q2⟩ := hA b (by rw [q]; intro z; cases z)
      rw [q1, q2] at e
      cases e
  obtain ⟨mc, l1, l2⟩ := hlim
  have e0 : Env0 P w K mg (hidT s₁.heap H) callerA [] s₁ H :=
    ⟨rfl, ⟨kin, ns' hns, ⟨mb, ns' hb, hbb⟩, ⟨mc, ns' l1, l2⟩⟩, fun b o e => of_hidT e, by rw [hidT_size]; exact Nat.le_refl _, trivial, (fun b z => absurd z (List.not_mem_nil)), hok, .of_eq hg⟩
  refine codeAny_mono ((G _ kin (ns' hns)).run callerA [] s₁ H ⟨[.ref a], []⟩ [.ref a] [.ref a] _ _ rfl hr e0 (hbind s₁ [.ref a] KX rfl) (.cons rfl .nil) (hsp H hO hS)) ?_
  intro r s' z
  cases r with
  | error e => exact (hCX H e s' z).elim
  | ok fl => cases fl with
    | next => cases z
    | brk => cases z
    | cont => cases z
    | ret u =>
      obtain ⟨v, H', os, bare, un, hok', r', q⟩ := z
      have q' : v = .bl true := q
      subst q'
      obtain rfl : u = Value.bool true := r'
      refine ⟨rfl, OldK.of_keep fun b o e => ?_, os, bare⟩
      rcases hO b with n | ⟨ob', xs, n⟩
      · exact un.keep b o e n (fun z => absurd z (List.not_mem_nil)) (fun z => absurd z (List.not_mem_nil))
      · have e1 := (hok b _ n).1
        rw [e] at e1
        cases e1
        exact (hok' b _ (un.frzs b _ _ n)).1
theorem walk_g {l : PySem.W.OpenLaw} {n k : Nat} {q : Program} {loose : List Str} {XP : (Str → Option Value) → Heap → Prop} {YP : World → Heap → Prop} {d : DefRec} {K : Params → PySem.W.Frag} {CX : World → CXT} {sp : World → Sp} {x : Str}
    (hn : l.most = some n) (hn2 : n ≤ sizeLine) (hdf : d.params.defaults = []) (hr : Room k callerA) (hY : ∀ (w : World) (h : Heap), YP w h → (K w.params).In h)
    (F : ∀ (w : World) (mg : Str → Option Value) (fa : Addr) (h : Heap), (K w.params).In h → h.Ns mainGlobals mg → mg d.name = some (.ref fa) →
      (∀ (H : Hp) (a : Addr) (ns : List Int), ns.length ≤ n → Only H → SqL (K w.params) H a (ns.map V.int) → sp w [.ref a] H (fun v _ => v = .bl true) fun _ _ _ => False) ∧
      ∃ fd : FuncData, Binds (K w.params) fd [x] [] ∧
        ∀ base : Heap, (K w.params).In base → base.Ns mainGlobals mg → GOk l.prog w (K w.params) mg base (CX w) k fa fd [x] (sp w))
    (hCX : ∀ (w : World) (H : Hp) (s : Shared) (e : Value) (s' : Shared), CX w [] H s (fun _ _ _ => False) e s' → False) :
    PySem.W.WalkO q loose XP YP l.row.toRowW d [] (fun f vs => PySem.call f vs) := by
  refine Att.attach_call hn hdf ?_
  intro w s₀ s₁ mg mb fa o pm cd doc a vs ns G Y ho hd hcd hmg hobj hints hlen hg
  obtain ⟨hsp, fd, hb, hF⟩ := F w mg fa _ (hY w _ Y) G.T.g hmg
  exact law_run (hY w _ Y) G.T.g G.T.b G.T.builtins G.T.nolimit hg hobj hints (Nat.le_trans hlen hn2) hr hF hb (fun H hO hS => hsp H a ns hlen hO hS) fun H e s' => hCX w H s₁ e s'
end Fw

namespace Fw
open PySem L2 PySem.Spec PyProof.Rows

/-! ## mirrors -/
abbrev EM := Gm → Res (R × Gm)
abbrev TM := Gm → Res (Bool × Gm)
abbrev AM := Gm → Res (List D × Gm)
inductive Out where
  | nx (g : Gm)
  | rt (r : R) (g : Gm)
  | bk (g : Gm)
  | ct (g : Gm)
abbrev SM := Gm → Res Out
abbrev Fn := List SV → Res (R × List SV)

/-! ## judgements -/
def argOk (K : PySem.W.Frag) (F' H' : Hp) (od : Option Addr) : Option D → Prop
  | none => True
  | some d => ∃ p v f, od = some p ∧ H' p = some (.xd [(f, v)]) ∧ Rp K F' v d
def XP (K : PySem.W.Frag) (mg : Str → Option Value) (B : Bd) (F : Hp) (E : XK) (x : Ex) (g : Gm) : Prop :=
  ∀ σ Cv od F' H', Rel B K F' H' σ g → Sub F F' → mg x.cls = some Cv → argOk K F' H' od x.arg → E Cv od H'
theorem XP.mono {K : PySem.W.Frag} {mg : Str → Option Value} {B : Bd} {F F1 : Hp} {E : XK} {x : Ex} {g : Gm} (h : XP K mg B F E x g) (e : Sub F F1) : XP K mg B F1 E x g :=
  fun σ Cv od F' H' r s => h σ Cv od F' H' r (e.trans s)
abbrev XPx (X : Cx) (B : Bd) (F : Hp) (E : XK) : Ex → Gm → Prop := XP X.K X.mg B F E
def Den (X : Cx) (E : XK) (t : TE) (m : EM) : Prop := ∀ (B : Bd) (F H : Hp) (σ : L2.St) (Γ : Gm) (Q : VK), Rel B X.K F H σ Γ →
  (m Γ).good (fun p => ∀ v F' H', Rel B X.K F' H' σ p.2 → Sub F F' → RR B X.K F' H' σ p.2 v p.1 → Q v H') (XPx X B F E) → t σ H Q
def DE (X : Cx) (E : XK) (e : Expr) (m : EM) : Prop := ∃ t, PE X e t ∧ Den X E t m
def DenT (X : Cx) (E : XK) (t : TT) (m : TM) : Prop := ∀ (B : Bd) (F H : Hp) (σ : L2.St) (Γ : Gm) (Q : Bool → Hp → Prop), Rel B X.K F H σ Γ →
  (m Γ).good (fun p => ∀ F' H', Rel B X.K F' H' σ p.2 → Sub F F' → Q p.1 H') (XPx X B F E) → t σ H Q
def DT (X : Cx) (E : XK) (e : Expr) (m : TM) : Prop := ∃ t, PT X e t ∧ DenT X E t m
def DW (X : Cx) (E : XK) (e : Expr) (m : TM) : Prop := ∃ t, PW X e t ∧ DenT X E t m
def DenA (X : Cx) (E : XK) (n : Nat) (t : TA) (m : AM) : Prop := ∀ (B : Bd) (F H : Hp) (σ : L2.St) (Γ : Gm) (Q : List V → Hp → Prop), Rel B X.K F H σ Γ →
  (m Γ).good (fun p => ∀ vs F' H', Rel B X.K F' H' σ p.2 → Sub F F' → RpAll X.K F' vs p.1 → vs.length = n → Q vs H') (XPx X B F E) → t σ H Q
def DA (X : Cx) (E : XK) (es : List Expr) (m : AM) : Prop := ∃ t, PA X es t ∧ DenA X E es.length t m
def OutOk (B : Bd) (K : PySem.W.Frag) (F : Hp) (De : Ends) : Out → Prop
  | .nx g => ∀ σ' F' H', Rel B K F' H' σ' g → Sub F F' → De.nx σ' H'
  | .rt r g => ∀ v σ' F' H', Rel B K F' H' σ' g → Sub F F' → RR B K F' H' σ' g v r → De.rt v H'
  | .bk g => ∀ σ' F' H', Rel B K F' H' σ' g → Sub F F' → De.bk σ' H'
  | .ct g => ∀ σ' F' H', Rel B K F' H' σ' g → Sub F F' → De.ct σ' H'
def DenS (X : Cx) (E : XK) (t : TS) (m : SM) : Prop := ∀ (B : Bd) (F H : Hp) (σ : L2.St) (Γ : Gm) (De : Ends), Rel B X.K F H σ Γ →
  (m Γ).good (OutOk B X.K F De) (XPx X B F E) → t De σ H
def DS (X : Cx) (E : XK) (st : Stmt) (m : SM) : Prop := ∃ t, PS X st t ∧ DenS X E t m
def DSs (X : Cx) (E : XK) (st : List Stmt) (m : SM) : Prop := ∃ t, PSs X st t ∧ DenS X E t m

/-! ## operands -/
def opd {β : Type} (m : EM) (k : D → Gm → Res β) : Gm → Res β := fun Γ => (m Γ).bind fun p => k p.1.dat p.2
section
variable {X : Cx} {E : XK} {B : Bd} {F H : Hp} {σ : L2.St} {Γ : Gm}
theorem Den.opd {β : Type} {t : TE} {m : EM} {k : D → Gm → Res β} {kk : β → Prop} {Q : VK} (h : Den X E t m) (r : Rel B X.K F H σ Γ) (g : (opd m k Γ).good kk (XPx X B F E))
    (c : ∀ v d Γ1 F1 H1, Rel B X.K F1 H1 σ Γ1 → Sub F F1 → Rp X.K F1 v d → (k d Γ1).good kk (XPx X B F1 E) → Q v H1) : t σ H Q := by
  refine h B F H σ Γ Q r ?_
  unfold Fw.opd at g
  rw [Res.good_bind] at g
  refine g.mono ?_ fun _ _ z => z
  intro p hp v F' H' r' s' rr
  obtain ⟨F2, r2, s2, rp⟩ := rr.freeze r'
  exact c v _ _ _ _ r2 (s'.trans s2) rp (hp.mono (fun _ z => z) fun _ _ z => z.mono (s'.trans s2))
theorem Den.raw {β : Type} {t : TE} {m : EM} {k : R × Gm → Res β} {kk : β → Prop} {Q : VK} (h : Den X E t m) (r : Rel B X.K F H σ Γ) (g : ((m Γ).bind k).good kk (XPx X B F E))
    (c : ∀ v q Γ1 F1 H1, Rel B X.K F1 H1 σ Γ1 → Sub F F1 → RR B X.K F1 H1 σ Γ1 v q → (k (q, Γ1)).good kk (XPx X B F1 E) → Q v H1) : t σ H Q := by
  refine h B F H σ Γ Q r ?_
  rw [Res.good_bind] at g
  refine g.mono ?_ fun _ _ z => z
  intro p hp v F' H' r' s' rr
  exact c v _ _ _ _ r' s' rr (hp.mono (fun _ z => z) fun _ _ z => z.mono s')
theorem DenA.raw {β : Type} {t : TA} {m : AM} {k : List D × Gm → Res β} {kk : β → Prop} {Q : List V → Hp → Prop} {n : Nat} (h : DenA X E n t m) (r : Rel B X.K F H σ Γ) (g : ((m Γ).bind k).good kk (XPx X B F E))
    (c : ∀ vs ds Γ1 F1 H1, Rel B X.K F1 H1 σ Γ1 → Sub F F1 → RpAll X.K F1 vs ds → vs.length = n → (k (ds, Γ1)).good kk (XPx X B F1 E) → Q vs H1) : t σ H Q := by
  refine h B F H σ Γ Q r ?_
  rw [Res.good_bind] at g
  refine g.mono ?_ fun _ _ z => z
  intro p hp v F' H' r' s' rr hn
  exact c v _ _ _ _ r' s' rr hn (hp.mono (fun _ z => z) fun _ _ z => z.mono s')
theorem DenT.raw {β : Type} {t : TT} {m : TM} {k : Bool × Gm → Res β} {kk : β → Prop} {Q : Bool → Hp → Prop} (h : DenT X E t m) (r : Rel B X.K F H σ Γ) (g : ((m Γ).bind k).good kk (XPx X B F E))
    (c : ∀ b Γ1 F1 H1, Rel B X.K F1 H1 σ Γ1 → Sub F F1 → (k (b, Γ1)).good kk (XPx X B F1 E) → Q b H1) : t σ H Q := by
  refine h B F H σ Γ Q r ?_
  rw [Res.good_bind] at g
  refine g.mono ?_ fun _ _ z => z
  intro p hp F' H' r' s'
  exact c _ _ _ _ r' s' (hp.mono (fun _ z => z) fun _ _ z => z.mono s')
end

/-! ## names and constants -/
def eC (d : D) : EM := fun Γ => .ok (.fro d, Γ)
/-- a name whose list or dict is frozen by being read -/
def eVar (i : Nat) : EM := fun Γ => match Γ[i]? with
  | some (.d d) => .ok (.fro d, Γ)
  | some (.ow c) => .ok (.fro c.toD, Γ.set i (.d c.toD))
  | _ => .no
/-- a name that is given away -/
def eMove (i : Nat) : EM := fun Γ => match Γ[i]? with
  | some (.d d) => .ok (.fro d, Γ)
  | some (.ow c) => .ok (.own c, Γ.set i .no)
  | _ => .no
section
variable {X : Cx} {E : XK} {B : Bd} {K : PySem.W.Frag} {F H : Hp} {σ : L2.St} {Γ : Gm}
theorem Rel.at (r : Rel B K F H σ Γ) {i : Nat} {d : D} (e : Γ[i]? = some (.d d)) : ∃ v, σ[i]? = some (some v) ∧ Rp K F v d := by
  obtain ⟨v, h1, h2⟩ := r.sl i _ e
  have hi : i < σ.length := by rw [r.len]; exact (List.getElem?_eq_some_iff.mp e).1
  refine ⟨v, ?_, h2⟩
  rw [List.getD_eq_getElem?_getD, List.getElem?_eq_getElem hi] at h1
  rw [List.getElem?_eq_getElem hi]
  exact congrArg some h1
theorem Rel.take (r : Rel B K F H σ Γ) {i : Nat} {c : Cell} (e : Γ[i]? = some (.ow c)) : ∃ a, σ[i]? = some (some (.ref a)) ∧ Rel B K F H σ (Γ.set i .no) ∧ RR B K F H σ (Γ.set i .no) (.ref a) (.own c) := by
  obtain ⟨a, h1, h2⟩ := r.sl i _ e
  have hi : i < σ.length := by rw [r.len]; exact (List.getElem?_eq_some_iff.mp e).1
  have hs : σ[i]? = some (some (.ref a)) := by
    rw [List.getD_eq_getElem?_getD, List.getElem?_eq_getElem hi] at h1
    rw [List.getElem?_eq_getElem hi]
    exact congrArg some h1
  have ow : Owns σ Γ i a := ⟨⟨_, e, rfl⟩, hs⟩
  have w := r.weak (Weak.setNo Γ i)
  refine ⟨a, hs, w, a, rfl, (r.ofr i a ow).1, (r.ofr i a ow).2, ?_, h2⟩
  rintro j ⟨⟨sv, e1, o⟩, e2⟩
  by_cases hj : j = i
  · subst hj
    rw [List.getElem?_set_self (by rw [← r.len]; exact hi)] at e1
    cases e1
    cases o
  · rw [List.getElem?_set_ne (fun z => hj z.symm)] at e1
    exact hj (r.inj j i a ⟨⟨sv, e1, o⟩, e2⟩ ow)
theorem set_same {α : Type} {l : List α} {i : Nat} {x : α} (h : l[i]? = some x) : l.set i x = l := by
  obtain ⟨hi, e⟩ := List.getElem?_eq_some_iff.mp h
  subst e
  exact List.set_getElem_self hi
theorem Rel.put (r : Rel B K F H σ Γ) {i : Nat} {v : V} {q : R} (h : RR B K F H σ Γ v q) (hs : σ[i]? = some (some v)) : Rel B K F H σ (Γ.set i q.sv) := by
  have z := r.set (i := i) h
  rwa [set_same hs] at z
theorem Den.c {v : V} {d : D} (h : ∀ K F, Rp K F v d) : Den X E (tC v) (eC d) := fun B F H σ Γ Q r g => g v F H r (Sub.refl _) (h _ _)
theorem Den.var {i : Nat} : Den X E (tVar i) (eVar i) := by
  intro B F H σ Γ Q r g
  unfold eVar at g
  split at g
  · rename_i d e
    obtain ⟨v, h1, h2⟩ := r.at e
    exact ⟨v, h1, g v F H r (Sub.refl _) h2⟩
  · rename_i c e
    obtain ⟨a, h1, h2, h3⟩ := r.take e
    obtain ⟨F', r', s', rp⟩ := h3.freeze h2
    refine ⟨.ref a, h1, g _ F' H ?_ s' rp⟩
    have z := r'.put (q := .fro c.toD) rp h1
    rwa [List.set_set] at z
  · cases g
theorem Den.move {i : Nat} : Den X E (tVar i) (eMove i) := by
  intro B F H σ Γ Q r g
  unfold eMove at g
  split at g
  · rename_i d e
    obtain ⟨v, h1, h2⟩ := r.at e
    exact ⟨v, h1, g v F H r (Sub.refl _) h2⟩
  · rename_i c e
    obtain ⟨a, h1, h2, h3⟩ := r.take e
    exact ⟨.ref a, h1, g _ F H h2 (Sub.refl _) h3⟩
  · cases g
theorem de_var (i : Nat) {x : Str} {pos : Pos} (hN : X.N[i]? = some x := by rfl) (hv : Vis X.env.scope x := by first | exact Or.inl rfl | exact Or.inr (Or.inl rfl) | exact Or.inr (Or.inr rfl)) (hd : (x == ("__debug__" : Str)) = false := by decide)
    (hcd : (x == ("__classdict__" : Str)) = false := by decide) : DE X E (.Name x pos) (eVar i) := ⟨_, pe_var hN hv hd hcd, Den.var⟩
theorem de_move (i : Nat) {x : Str} {pos : Pos} (hN : X.N[i]? = some x := by rfl) (hv : Vis X.env.scope x := by first | exact Or.inl rfl | exact Or.inr (Or.inl rfl) | exact Or.inr (Or.inr rfl)) (hd : (x == ("__debug__" : Str)) = false := by decide)
    (hcd : (x == ("__classdict__" : Str)) = false := by decide) : DE X E (.Name x pos) (eMove i) := ⟨_, pe_var hN hv hd hcd, Den.move⟩
theorem de_int {i : Int} {j : Nat} {pos : Pos} : DE X E (.Constant (.int i) j pos) (eC (.int i)) := ⟨_, pe_int, .c fun _ _ => .int i⟩
theorem de_str {x : Str} {j : Nat} {pos : Pos} : DE X E (.Constant (.str x) j pos) (eC (.str x)) := ⟨_, pe_str, .c fun _ _ => .str x⟩
theorem de_bl {b : Bool} {j : Nat} {pos : Pos} : DE X E (.Constant (.bool b) j pos) (eC (.bool b)) := ⟨_, pe_bl, .c fun _ _ => .bl b⟩
theorem de_non {j : Nat} {pos : Pos} : DE X E (.Constant .none j pos) (eC .none) := ⟨_, pe_non, .c fun _ _ => .non⟩
/-- a number or a text of the module -/
theorem de_globI {x : Str} {i : Int} {t : Tok} {pos : Pos} (hm : X.mg x = some (.int i t)) (hg : Gl X x := by rfl) (hd : (x == ("__debug__" : Str)) = false := by decide) : DE X E (.Name x pos) (eC (.int i)) :=
  ⟨_, pe_glob (v := .int i) hg hm ⟨t, rfl⟩ hd, .c fun _ _ => .int i⟩
theorem de_globS {x : Str} {i : Str} {t : Tok} {pos : Pos} (hm : X.mg x = some (.str i t)) (hg : Gl X x := by rfl) (hd : (x == ("__debug__" : Str)) = false := by decide) : DE X E (.Name x pos) (eC (.str i)) :=
  ⟨_, pe_glob (v := .str i) hg hm ⟨t, rfl⟩ hd, .c fun _ _ => .str i⟩
end

/-! ## argument lists, displays -/
def aNil : AM := fun Γ => .ok ([], Γ)
def aCons (m : EM) (ms : AM) : AM := opd m fun d Γ => (ms Γ).bind fun p => .ok (d :: p.1, p.2)
abbrev lim : Nat := 16000000
theorem lim_le {n : Nat} (h : n ≤ lim) : n ≤ sizeLine := Nat.le_trans h (by decide)
def eTup (ms : AM) : EM := fun Γ => (ms Γ).bind fun p => .ok (.fro (.tuple p.1), p.2)
def eLst (ms : AM) : EM := fun Γ => (ms Γ).bind fun p => .ok (.own (.lst p.1), p.2)
section
variable {X : Cx} {E : XK}
theorem da_nil : DA X E [] aNil := ⟨_, pa_nil, fun B F H σ Γ Q r g => g [] F H r (Sub.refl _) .nil rfl⟩
theorem da_cons {e : Expr} {es : List Expr} {m : EM} {ms : AM} (he : DE X E e m) (hs : DA X E es ms) (hst : starEach (e :: es) X.env = (false, eval e X.env) :: starEach es X.env := by rfl) : DA X E (e :: es) (aCons m ms) := by
  obtain ⟨t, p, h⟩ := he
  obtain ⟨ts, ps, hs⟩ := hs
  refine ⟨_, pa_cons p ps hst, ?_⟩
  intro B F H σ Γ Q r g
  refine h.opd r g ?_
  intro v d Γ1 F1 H1 r1 s1 rp g1
  refine hs.raw r1 g1 ?_
  intro vs ds Γ2 F2 H2 r2 s2 rps hn g2
  exact g2 _ F2 H2 r2 (s1.trans s2) (.cons (rp.mono s2) rps) (by rw [List.length_cons, hn, List.length_cons])
theorem mono_sub {B : Bd} {K : PySem.W.Frag} {F F1 : Hp} {De : Ends} {o : Out} (h : OutOk B K F De o) (s : Sub F F1) : OutOk B K F1 De o := by
  cases o with
  | nx g => exact fun σ' F' H' r s' => h σ' F' H' r (s.trans s')
  | rt q g => exact fun v σ' F' H' r s' => h v σ' F' H' r (s.trans s')
  | bk g => exact fun σ' F' H' r s' => h σ' F' H' r (s.trans s')
  | ct g => exact fun σ' F' H' r s' => h σ' F' H' r (s.trans s')

theorem de_tup {es : List Expr} {ms : AM} {x1} {pos : Pos} (hs : DA X E es ms) (hn : es.length ≤ 1000 := by decide) : DE X E (.Tuple es x1 pos) (eTup ms) := by
  obtain ⟨t, p, h⟩ := hs
  refine ⟨_, pe_tup p, ?_⟩
  intro B F H σ Γ Q r g
  refine h.raw r g ?_
  intro vs ds Γ1 F1 H1 r1 s1 rps hl g1
  refine ⟨by rw [hl]; exact Nat.le_trans hn (by decide), fun q hq => ?_⟩
  have gr := Grow.laid (o := .tup vs) r1.fh hq
  exact g1 _ _ _ (r1.grow gr) (s1.trans gr.ff) (.tup (SqT.of upd_same) (rps.mono gr.ff))
theorem de_lst {es : List Expr} {ms : AM} {pos : Pos} (hs : DA X E es ms) (hn : es.length ≤ 1000 := by decide) : DE X E (.List es pos) (eLst ms) := by
  obtain ⟨t, p, h⟩ := hs
  refine ⟨_, pe_lst p, ?_⟩
  intro B F H σ Γ Q r g
  refine h.raw r g ?_
  intro vs ds Γ1 F1 H1 r1 s1 rps hl g1
  refine ⟨by rw [hl]; exact Nat.le_trans hn (by decide), fun q hq => ?_⟩
  have gr := Grow.new (o := .lst vs) r1.fh hq
  exact g1 _ _ _ (r1.grow gr) s1 (NR.rr r1 (q := .own (.lst ds)) ⟨q, rfl, hq, r1.fh.ne hq, vs, upd_same, rps⟩)
end

/-! ## operations on data -/
/-- what a step by values does with represented data -/
def rD (K : PySem.W.Frag) (f : List D → Res R) : List V → Hp → VK → Prop := fun vs H Q => ∃ F ds, Sub F H ∧ RpAll K F vs ds ∧
  (f ds).good (fun q => ∀ z F' H', Grow F H F' H' → NR K F' H H' z q → Q z H') (fun _ _ => False)
def two (f : D → D → Res R) : List D → Res R
  | [a, b] => f a b
  | _ => .no
def one (f : D → Res R) : List D → Res R
  | [a] => f a
  | _ => .no
def rD2 (K : PySem.W.Frag) (f : D → D → Res R) : R2 := fun x y => rD K (two f) [x, y]
def rDM (K : PySem.W.Frag) (f : List D → Res R) : V → List V → Hp → VK → Prop := fun x xs => rD K f (x :: xs)
def lift (r : Res R) (Γ : Gm) : Res (R × Gm) := match r with
  | .ok q => .ok (q, Γ)
  | _ => .no
@[simp] theorem lift_ok (q : R) (Γ : Gm) : lift (.ok q) Γ = .ok (q, Γ) := rfl
@[simp] theorem lift_no (Γ : Gm) : lift .no Γ = .no := rfl
def eBin (f : D → D → Res R) (ma mb : EM) : EM := opd ma fun x => opd mb fun y Γ => lift (f x y) Γ
def eUn (f : D → Res R) (ma : EM) : EM := opd ma fun x Γ => lift (f x) Γ
def eCall (f : List D → Res R) (ms : AM) : EM := fun Γ => (ms Γ).bind fun p => lift (f p.1) p.2
def eMeth (f : List D → Res R) (m : EM) (ms : AM) : EM := opd m fun x Γ => (ms Γ).bind fun p => lift (f (x :: p.1)) p.2
section
variable {X : Cx} {E : XK} {B : Bd} {F H : Hp} {σ : L2.St} {Γ : Gm}
theorem lift_good {K : PySem.W.Frag} {mg : Str → Option Value} {F F1 H1 : Hp} {q : Res R} {Q : VK} {kx : Ex → Gm → Prop} (r1 : Rel B K F1 H1 σ Γ) (s : Sub F F1)
    (g : (lift q Γ).good (fun p => ∀ v F' H', Rel B K F' H' σ p.2 → Sub F F' → RR B K F' H' σ p.2 v p.1 → Q v H') kx) :
    q.good (fun q => ∀ z F' H', Grow F1 H1 F' H' → NR K F' H1 H' z q → Q z H') (fun _ _ => False) := by
  cases q with
  | ok q => exact fun z F' H' gr nr => g z F' H' (r1.grow gr) (s.trans gr.ff) (nr.rr r1)
  | er x g' => exact g
  | no => exact g
theorem de_bin {op : Operator} {f : D → D → Res R} {a b : Expr} {ma mb : EM} {pos : Pos} (ho : OpR X (binaryOp op) (rD2 X.K f)) (ha : DE X E a ma) (hb : DE X E b mb) : DE X E (.BinOp a op b pos) (eBin f ma mb) := by
  obtain ⟨ta, pa, ha⟩ := ha
  obtain ⟨tb, pb, hb⟩ := hb
  refine ⟨_, pe_op ho pa pb, ?_⟩
  intro B F H σ Γ Q r g
  refine ha.opd r g ?_
  intro v d Γ1 F1 H1 r1 s1 rp g1
  refine hb.opd r1 g1 ?_
  intro w e Γ2 F2 H2 r2 s2 rq g2
  exact ⟨F2, [d, e], r2.fh, .cons (rp.mono s2) (.cons rq .nil), lift_good (mg := X.mg) r2 (s1.trans s2) g2⟩
theorem de_cmp {op : CmpOp} {f : D → D → Res R} {a b : Expr} {ma mb : EM} {pos : Pos} (ho : OpR X (compareOp op) (rD2 X.K f)) (ha : DE X E a ma) (hb : DE X E b mb) (hm : behindInMarks op b = false := by first | exact nomark _ | rfl) :
    DE X E (.Compare a [op] [b] pos) (eBin f ma mb) := by
  obtain ⟨ta, pa, ha⟩ := ha
  obtain ⟨tb, pb, hb⟩ := hb
  refine ⟨_, pe_cmpR ho pa pb hm, ?_⟩
  intro B F H σ Γ Q r g
  refine ha.opd r g ?_
  intro v d Γ1 F1 H1 r1 s1 rp g1
  refine hb.opd r1 g1 ?_
  intro w e Γ2 F2 H2 r2 s2 rq g2
  exact ⟨F2, [d, e], r2.fh, .cons (rp.mono s2) (.cons rq .nil), lift_good (mg := X.mg) r2 (s1.trans s2) g2⟩
theorem de_un {op : UnaryOp} {f : D → Res R} {a : Expr} {ma : EM} {pos : Pos} (ho : UnR X (unaryOp op) (fun x => rD X.K (one f) [x])) (ha : DE X E a ma) : DE X E (.UnaryOp op a pos) (eUn f ma) := by
  obtain ⟨ta, pa, ha⟩ := ha
  refine ⟨_, pe_un ho pa, ?_⟩
  intro B F H σ Γ Q r g
  refine ha.opd r g ?_
  intro v d Γ1 F1 H1 r1 s1 rp g1
  exact ⟨F1, [d], r1.fh, .cons rp .nil, lift_good (mg := X.mg) r1 s1 g1⟩
theorem de_ix {f : D → D → Res R} {a b : Expr} {ma mb : EM} {pos : Pos} (ho : IxR X (rD2 X.K f)) (ha : DE X E a ma) (hb : DE X E b mb) (hs : PlainIx b := by exact fun _ _ => rfl) : DE X E (.Subscript a b pos) (eBin f ma mb) := by
  obtain ⟨ta, pa, ha⟩ := ha
  obtain ⟨tb, pb, hb⟩ := hb
  refine ⟨_, pe_ix ho pa pb hs, ?_⟩
  intro B F H σ Γ Q r g
  refine ha.opd r g ?_
  intro v d Γ1 F1 H1 r1 s1 rp g1
  refine hb.opd r1 g1 ?_
  intro w e Γ2 F2 H2 r2 s2 rq g2
  exact ⟨F2, [d, e], r2.fh, .cons (rp.mono s2) (.cons rq .nil), lift_good (mg := X.mg) r2 (s1.trans s2) g2⟩
theorem Den.call {t : TA} {n : Nat} {f : List D → Res R} {ms : AM} (h : DenA X E n t ms) : Den X E (tCB (rD X.K f) t) (eCall f ms) := by
  intro B F H σ Γ Q r g
  refine h.raw r g ?_
  intro vs ds Γ1 F1 H1 r1 s1 rps hl g1
  exact ⟨F1, ds, r1.fh, rps, lift_good (mg := X.mg) r1 s1 g1⟩
theorem de_callB {id : String} {f : List D → Res R} {x : Str} {e : Expr} {es : List Expr} {ms : AM} {p pos : Pos} (hc : CallR X (.builtin id) (rD X.K f)) (ha : DA X E (e :: es) ms) (hm : X.mg x = none) (hv : bootBuiltins x = some (.builtin id))
    (hg : Gl X x := by rfl) (hn : x ≠ "__name__" := by decide) (hdb : (x == ("__debug__" : Str)) = false := by decide) (he : starEach (e :: es) X.env = (false, eval e X.env) :: starEach es X.env := by rfl)
    (hpl : (backTo pos (starEach es X.env)).any (·.1) = false := by rfl) : DE X E (.Call (.Name x p) (e :: es) [] pos) (eCall f ms) := by
  obtain ⟨t, pa, h⟩ := ha
  exact ⟨_, pe_callB hc hg hm hv pa hn hdb he hpl, Den.call h⟩
theorem de_callTy {T : String} {f : List D → Res R} {x : Str} {e : Expr} {es : List Expr} {ms : AM} {p pos : Pos} (hc : CallR X (.type T) (rD X.K f)) (ha : DA X E (e :: es) ms) (hm : X.mg x = none) (hv : bootBuiltins x = some (.type T))
    (hg : Gl X x := by rfl) (hn : x ≠ "__name__" := by decide) (hdb : (x == ("__debug__" : Str)) = false := by decide) (he : starEach (e :: es) X.env = (false, eval e X.env) :: starEach es X.env := by rfl)
    (hpl : (backTo pos (starEach es X.env)).any (·.1) = false := by rfl) : DE X E (.Call (.Name x p) (e :: es) [] pos) (eCall f ms) := by
  obtain ⟨t, pa, h⟩ := ha
  exact ⟨_, pe_callTy hc hg hm hv pa hn hdb he hpl, Den.call h⟩
end
end Fw

namespace Fw
open PySem L2 PySem.Spec PyProof.Rows

/-! ## operations on data: what they tell -/
def fr (d : D) : Res R := .ok (.fro d)
@[simp] theorem fr_eq (d : D) : fr d = .ok (.fro d) := rfl
def dAdd : D → D → Res R
  | .int i, .int j => fr (.int (i + j))
  | .str x, .str y => if x.length + y.length ≤ lim then fr (.str (x ++ y)) else .no
  | .tuple xs, .tuple ys => if xs.length + ys.length ≤ lim then fr (.tuple (xs ++ ys)) else .no
  | .list xs, .list ys => if xs.length + ys.length ≤ lim then .ok (.own (.lst (xs ++ ys))) else .no
  | _, _ => .no
def dSub : D → D → Res R
  | .int i, .int j => fr (.int (i - j))
  | _, _ => .no
def dMul : D → D → Res R
  | .int i, .int j => if (-(2 ^ 64) < i ∧ i < 2 ^ 64) ∨ (-(2 ^ 64) < j ∧ j < 2 ^ 64) then fr (.int (i * j)) else .no
  | _, _ => .no
def dDiv : D → D → Res R
  | .int i, .int j => if 0 < j ∧ j < 1073741824 then fr (.int (i / j)) else .no
  | _, _ => .no
def dMod : D → D → Res R
  | .int i, .int j => if 0 < j then fr (.int (i % j)) else .no
  | _, _ => .no
def dPow : D → D → Res R
  | .int i, .int j => if 0 ≤ j ∧ j ≤ 1000000 ∧ i.natAbs < 2 ^ 64 then fr (.int (i ^ j.toNat)) else .no
  | _, _ => .no
def dShr : D → D → Res R
  | .int i, .int j => if 0 ≤ j then fr (.int (i / 2 ^ j.toNat)) else .no
  | _, _ => .no
def dNeg : D → Res R
  | .int i => fr (.int (-i))
  | _ => .no
def dEqB : D → D → Option Bool
  | .int i, .int j => some (decide (i = j))
  | .str x, .str y => some (decide (x = y))
  | d, e => if d.plain = true ∧ e.plain = true ∧ d.depth ≤ 60 then some (PyData.eqv d e) else none
def dEq (d e : D) : Res R := match dEqB d e with
  | some b => fr (.bool b)
  | none => .no
def dNe (d e : D) : Res R := match dEqB d e with
  | some b => fr (.bool !b)
  | none => .no
def dLt : D → D → Res R
  | .int i, .int j => fr (.bool (decide (i < j)))
  | _, _ => .no
def dLe : D → D → Res R
  | .int i, .int j => fr (.bool (decide (i ≤ j)))
  | _, _ => .no
def dGt : D → D → Res R
  | .int i, .int j => fr (.bool (decide (j < i)))
  | _, _ => .no
def dGe : D → D → Res R
  | .int i, .int j => fr (.bool (decide (j ≤ i)))
  | _, _ => .no
def isNone : D → Bool
  | .none => true
  | _ => false
def dIsN (d : D) : Res R := fr (.bool (isNone d))
def dNotN (d : D) : Res R := fr (.bool !(isNone d))
def dIx : D → D → Res R
  | .list xs, .int i => match atI xs i with
    | some d => fr d
    | none => .no
  | .tuple xs, .int i => match atI xs i with
    | some d => fr d
    | none => .no
  | .str z, .int i => if z.length ≤ lim then (match atI z.cps.toList i with
    | some c => fr (.str ⟨#[c]⟩)
    | none => .no) else .no
  | _, _ => .no
def isT : String → D → Option Bool
  | "int", d => some d.isInt
  | "bool", d => some d.isBool
  | "str", d => some d.isStr
  | "tuple", d => some d.isTuple
  | "list", d => some d.isList
  | "dict", d => some d.isDict
  | _, _ => none
def dIsi (T : String) (d : D) : Res R := match isT T d with
  | some b => fr (.bool b)
  | none => .no
def dLen : D → Res R
  | .str z => if z.length ≤ lim then fr (.int z.length) else .no
  | .list xs => fr (.int xs.length)
  | .tuple xs => fr (.int xs.length)
  | _ => .no
def dMin : D → D → Res R
  | .int i, .int j => fr (.int (if j < i then j else i))
  | _, _ => .no
def dMax : D → D → Res R
  | .int i, .int j => fr (.int (if j > i then j else i))
  | _, _ => .no
def dStr : D → Res R
  | .int i => if i.natAbs.log2 < 1920 then fr (.str (toString i)) else .no
  | .str z => fr (.str z)
  | _ => .no
def dTuple : D → Res R
  | .list xs => fr (.tuple xs)
  | .tuple xs => fr (.tuple xs)
  | _ => .no
def dList : D → Res R
  | .list xs => .ok (.own (.lst xs))
  | .tuple xs => .ok (.own (.lst xs))
  | _ => .no
def strsOf : List D → Option (List Str)
  | [] => some []
  | .str x :: r => (strsOf r).map (x :: ·)
  | _ => none
def dJoinL (z : Str) (xs : List D) : Res R := match strsOf xs with
  | some ys => if (ys.map (·.length)).sum + ys.length * z.length ≤ lim then fr (.str (Txt.join z ys)) else .no
  | none => .no
def dJoin : D → D → Res R
  | .str z, .list xs => dJoinL z xs
  | .str z, .tuple xs => dJoinL z xs
  | _, _ => .no
def dRepr (d : D) : Res R := if d.showable = true ∧ d.hasDict = false ∧ d.depth ≤ 60 ∧ d.shown.length ≤ lim then fr (.str d.shown) else .no
def allB : List D → Option (List Bool)
  | [] => some []
  | .bool b :: r => (allB r).map (b :: ·)
  | _ => none
def dAll : D → Res R
  | .list xs => match allB xs with
    | some bs => fr (.bool (bs.all id))
    | none => .no
  | _ => .no
def dAny : D → Res R
  | .list xs => match allB xs with
    | some bs => fr (.bool (bs.any id))
    | none => .no
  | _ => .no
def intsOf : List D → Option (List Int)
  | [] => some []
  | .int b :: r => (intsOf r).map (b :: ·)
  | _ => none
def dSum : D → Res R
  | .list xs => match intsOf xs with
    | some bs => fr (.int bs.sum)
    | none => .no
  | _ => .no

/-! ## the facts -/
section
variable {K : PySem.W.Frag} {F H : Hp}
theorem Rp.intv {v : V} {i : Int} (h : Rp K F v (.int i)) : v = .int i := by cases h; rfl
theorem Rp.strv {v : V} {i : Str} (h : Rp K F v (.str i)) : v = .str i := by cases h; rfl
theorem Rp.blv {v : V} {i : Bool} (h : Rp K F v (.bool i)) : v = .bl i := by cases h; rfl
theorem Rp.lstv {v : V} {ds : List D} (h : Rp K F v (.list ds)) : ∃ a xs, v = .ref a ∧ SqL K F a xs ∧ RpAll K F xs ds := by cases h with | lst h r => exact ⟨_, _, rfl, h, r⟩
theorem Rp.tupv {v : V} {ds : List D} (h : Rp K F v (.tuple ds)) : ∃ a xs, v = .ref a ∧ SqT K F a xs ∧ RpAll K F xs ds := by cases h with | tup h r => exact ⟨_, _, rfl, h, r⟩
theorem rpStrs {vs : List V} : ∀ {ds : List D} {ys : List Str}, RpAll K F vs ds → strsOf ds = some ys → vs = ys.map V.str := by
  intro ds
  induction ds generalizing vs with
  | nil => intro ys h e; cases h; cases e; rfl
  | cons d ds ih =>
    intro ys h e
    cases h with
    | cons h t =>
      cases d with
      | str x =>
        simp only [strsOf, Option.map_eq_some_iff] at e
        obtain ⟨zs, e1, e2⟩ := e
        subst e2
        rw [h.strv, ih t e1]
        rfl
      | _ => simp [strsOf] at e
theorem rpBools {vs : List V} : ∀ {ds : List D} {ys : List Bool}, RpAll K F vs ds → allB ds = some ys → vs = ys.map V.bl := by
  intro ds
  induction ds generalizing vs with
  | nil => intro ys h e; cases h; cases e; rfl
  | cons d ds ih =>
    intro ys h e
    cases h with
    | cons h t =>
      cases d with
      | bool x =>
        simp only [allB, Option.map_eq_some_iff] at e
        obtain ⟨zs, e1, e2⟩ := e
        subst e2
        rw [h.blv, ih t e1]
        rfl
      | _ => simp [allB] at e
theorem rpInts {vs : List V} : ∀ {ds : List D} {ys : List Int}, RpAll K F vs ds → intsOf ds = some ys → vs = ys.map V.int := by
  intro ds
  induction ds generalizing vs with
  | nil => intro ys h e; cases h; cases e; rfl
  | cons d ds ih =>
    intro ys h e
    cases h with
    | cons h t =>
      cases d with
      | int x =>
        simp only [intsOf, Option.map_eq_some_iff] at e
        obtain ⟨zs, e1, e2⟩ := e
        subst e2
        rw [h.intv, ih t e1]
        rfl
      | _ => simp [intsOf] at e
theorem atI_rp {vs : List V} {ds : List D} {i : Int} {d : D} (h : RpAll K F vs ds) (e : atI ds i = some d) : ∃ v, atI vs i = some v ∧ Rp K F v d := by
  unfold atI at e ⊢
  rw [h.length]
  cases q : ixN ds.length i with
  | none => rw [q] at e; cases e
  | some j =>
    rw [q] at e
    exact h.get (show ds[j]? = some d from e)
/-- a value comes, nothing is made -/
theorem still {vs : List V} {v : V} {d : D} {Q : VK} (s : Sub F H) (h : Rp K F v d) (g : ∀ z F' H', Grow F H F' H' → NR K F' H H' z (.fro d) → Q z H') : Q v H := g v F H (Grow.refl s) h
theorem newTup {p : Addr} {xs : List V} {ds : List D} {Q : VK} (s : Sub F H) (hp : H p = none) (h : RpAll K F xs ds) (g : ∀ z F' H', Grow F H F' H' → NR K F' H H' z (.fro (.tuple ds)) → Q z H') : Q (.ref p) (upd H p (.tup xs)) := by
  have gr := Grow.laid (o := .tup xs) s hp
  exact g _ _ _ gr (Rp.tup (SqT.of upd_same) (h.mono gr.ff))
theorem newLst {p : Addr} {xs : List V} {ds : List D} {Q : VK} (s : Sub F H) (hp : H p = none) (h : RpAll K F xs ds) (g : ∀ z F' H', Grow F H F' H' → NR K F' H H' z (.own (.lst ds)) → Q z H') : Q (.ref p) (upd H p (.lst xs)) :=
  g _ _ _ (Grow.new s hp) ⟨p, rfl, hp, s.ne hp, xs, upd_same, h⟩
end
section
variable {X : Cx}
theorem op2_of {f : Value → Value → Sem Value} {r : R2} {g : D → D → Res R} (h : OpR X f r) (k : ∀ (F H : Hp) (x y : V) (d e : D) (Q : VK), Sub F H → Rp X.K F x d → Rp X.K F y e →
    (g d e).good (fun q => ∀ z F' H', Grow F H F' H' → NR X.K F' H H' z q → Q z H') (fun _ _ => False) → r x y H Q) : OpR X f (rD2 X.K g) := by
  intro pins s σ H x y v u Q I rx ry ⟨F, ds, sb, rp, hg⟩
  cases rp with
  | cons r1 t =>
    cases t with
    | cons r2 t =>
      cases t
      exact h pins s σ H x y v u Q I rx ry (k F H x y _ _ Q sb r1 r2 hg)
theorem addI : OpR X (binaryOp .Add) (rD2 X.K fun | .int i, .int j => fr (.int (i + j)) | _, _ => .no) := op2_of op_add fun F H x y d e Q s r1 r2 g => by
  split at g
  · rw [r1.intv, r2.intv]
    exact ⟨_, _, rfl, rfl, g _ _ _ (.refl s) (.int _)⟩
  · cases g
theorem lstCat : OpR X (binaryOp .Add) (fun x y H Q => ∃ l b xs zs, x = .ref l ∧ y = .ref b ∧ SqL X.K H l xs ∧ SqL X.K H b zs ∧ xs.length + zs.length ≤ sizeLine ∧ ∀ p, H p = none → Q (.ref p) (upd H p (.lst (xs ++ zs)))) := by
  intro pins s σ H x y v u Q I rx ry ⟨l, b, xs, zs, ex, ey, hx, hy, hz, q⟩
  subst ex ey
  cases rx
  cases ry
  obtain ⟨its, r, ⟨⟨cls, dd, data, sl⟩, n, ho, hc, _, hd⟩, _⟩ := I.list hx
  obtain ⟨its2, r2, ⟨⟨cls2, dd2, data2, sl2⟩, n2, ho2, hc2, _, hd2⟩, _⟩ := I.list hy
  simp only at hc hd hc2 hd2
  subst hc hd hc2 hd2
  have l1 := r.length
  have l2 := r2.length
  refine concat_meets ⟨_, ho, rfl⟩ ⟨_, ho2, rfl⟩ noFill_list_add seq_list_add PySem.F.slot_list_add PySem.F.entry_list_add (PySem.F.args_list_add_2 _ _) (list_addW l b its.toArray its2.toArray n n2 dd dd2 sl sl2 (by rw [List.size_toArray, List.size_toArray, ← l1, ← l2]; exact hz)) ⟨ho, ho2, ?_⟩
  rw [show its.toArray ++ its2.toArray = (its ++ its2).toArray by simp]
  exact ⟨.ref _, _, I.lnew (t' := s.toks) (r.append r2) (by rw [List.length_append]; exact hz), rfl, q _ I.fresh⟩
theorem op_addD : OpR X (binaryOp .Add) (rD2 X.K dAdd) := by
  refine op2_of (op_add.or (op_add_str.or (op_catA.or lstCat))) fun F H x y d e Q s r1 r2 g => ?_
  unfold dAdd at g
  split at g
  · rw [r1.intv, r2.intv]
    exact .inl ⟨_, _, rfl, rfl, g _ _ _ (.refl s) (.int _)⟩
  · split at g
    · rename_i hl
      rw [r1.strv, r2.strv]
      exact .inr (.inl ⟨_, _, rfl, rfl, lim_le hl, g _ _ _ (.refl s) (.str _)⟩)
    · cases g
  · split at g
    · rename_i hl
      obtain ⟨a, xs, e1, h1, p1⟩ := r1.tupv
      obtain ⟨b, ys, e2, h2, p2⟩ := r2.tupv
      subst e1 e2
      refine .inr (.inr (.inl ⟨a, b, xs, ys, rfl, rfl, s.t h1, s.t h2, ?_, ?_, ?_, ?_⟩))
      · rw [p1.length, p2.length]; exact lim_le hl
      · intro z
        subst z
        cases p1
        exact g _ _ _ (.refl s) (.tup h2 p2)
      · intro _ z
        subst z
        cases p2
        rw [List.append_nil] at g
        exact g _ _ _ (.refl s) (.tup h1 p1)
      · intro _ _ p hp
        exact newTup s hp (p1.append p2) g
    · cases g
  · split at g
    · rename_i hl
      obtain ⟨a, xs, e1, h1, p1⟩ := r1.lstv
      obtain ⟨b, ys, e2, h2, p2⟩ := r2.lstv
      subst e1 e2
      refine .inr (.inr (.inr ⟨a, b, xs, ys, rfl, rfl, s.l h1, s.l h2, ?_, fun p hp => newLst s hp (p1.append p2) g⟩))
      rw [p1.length, p2.length]; exact lim_le hl
    · cases g
  · cases g
theorem op_subD : OpR X (binaryOp .Sub) (rD2 X.K dSub) := op2_of op_sub fun F H x y d e Q s r1 r2 g => by
  unfold dSub at g
  split at g
  · rw [r1.intv, r2.intv]
    exact ⟨_, _, rfl, rfl, g _ _ _ (.refl s) (.int _)⟩
  · cases g
theorem op_mulD : OpR X (binaryOp .Mult) (rD2 X.K dMul) := op2_of op_mul fun F H x y d e Q s r1 r2 g => by
  unfold dMul at g
  split at g
  · split at g
    · rename_i hc
      rw [r1.intv, r2.intv]
      exact ⟨_, _, rfl, rfl, hc, g _ _ _ (.refl s) (.int _)⟩
    · cases g
  · cases g
theorem op_divD : OpR X (binaryOp .FloorDiv) (rD2 X.K dDiv) := op2_of op_fdiv fun F H x y d e Q s r1 r2 g => by
  unfold dDiv at g
  split at g
  · split at g
    · rename_i hc
      rw [r1.intv, r2.intv]
      exact ⟨_, _, rfl, rfl, hc, g _ _ _ (.refl s) (.int _)⟩
    · cases g
  · cases g
theorem op_modD : OpR X (binaryOp .Mod) (rD2 X.K dMod) := op2_of op_mod fun F H x y d e Q s r1 r2 g => by
  unfold dMod at g
  split at g
  · split at g
    · rename_i hc
      rw [r1.intv, r2.intv]
      exact ⟨_, _, rfl, rfl, hc, g _ _ _ (.refl s) (.int _)⟩
    · cases g
  · cases g
theorem op_powD : OpR X (binaryOp .Pow) (rD2 X.K dPow) := op2_of op_pow fun F H x y d e Q s r1 r2 g => by
  unfold dPow at g
  split at g
  · split at g
    · rename_i hc
      rw [r1.intv, r2.intv]
      exact ⟨_, _, rfl, rfl, hc, g _ _ _ (.refl s) (.int _)⟩
    · cases g
  · cases g
theorem op_shrD : OpR X (binaryOp .RShift) (rD2 X.K dShr) := op2_of op_shr fun F H x y d e Q s r1 r2 g => by
  unfold dShr at g
  split at g
  · split at g
    · rename_i hc
      rw [r1.intv, r2.intv]
      exact ⟨_, _, rfl, rfl, hc, g _ _ _ (.refl s) (.int _)⟩
    · cases g
  · cases g
theorem op_ltD : OpR X (compareOp .Lt) (rD2 X.K dLt) := op2_of op_lt fun F H x y d e Q s r1 r2 g => by
  unfold dLt at g
  split at g
  · rw [r1.intv, r2.intv]
    exact ⟨_, _, rfl, rfl, g _ _ _ (.refl s) (.bl _)⟩
  · cases g
theorem op_leD : OpR X (compareOp .LtE) (rD2 X.K dLe) := op2_of op_le fun F H x y d e Q s r1 r2 g => by
  unfold dLe at g
  split at g
  · rw [r1.intv, r2.intv]
    exact ⟨_, _, rfl, rfl, g _ _ _ (.refl s) (.bl _)⟩
  · cases g
theorem op_gtD : OpR X (compareOp .Gt) (rD2 X.K dGt) := op2_of op_gt fun F H x y d e Q s r1 r2 g => by
  unfold dGt at g
  split at g
  · rw [r1.intv, r2.intv]
    exact ⟨_, _, rfl, rfl, g _ _ _ (.refl s) (.bl _)⟩
  · cases g
theorem op_geD : OpR X (compareOp .GtE) (rD2 X.K dGe) := op2_of op_ge fun F H x y d e Q s r1 r2 g => by
  unfold dGe at g
  split at g
  · rw [r1.intv, r2.intv]
    exact ⟨_, _, rfl, rfl, g _ _ _ (.refl s) (.bl _)⟩
  · cases g
/-- both sides read as data -/
theorem op2_reads {f : Value → Value → Sem Value} {g : D → D → Res R} (k : ∀ (pins : List (Addr × Obj)) (s : Shared) (σ : L2.St) (F H : Hp) (v u : Value) (d e : D) (as bs : List Addr) (Q : VK), Inv X pins σ H s → Sub F H → Reads s.heap v d as → Reads s.heap u e bs →
    (g d e).good (fun q => ∀ z F' H', Grow F H F' H' → NR X.K F' H H' z q → Q z H') (fun _ _ => False) → wpAny (model X.prog X.w) X.A (f v u) (EP X pins σ Q) X.xe s) : OpR X f (rD2 X.K g) := by
  intro pins s σ H x y v u Q I rx ry ⟨F, ds, sb, rp, hg⟩
  cases rp with
  | cons r1 t =>
    cases t with
    | cons r2 t =>
      cases t
      obtain ⟨as, q1⟩ := (r1.mono sb).reads I v rx
      obtain ⟨bs, q2⟩ := (r2.mono sb).reads I u ry
      exact k pins s σ F H v u _ _ as bs Q I sb q1 q2 hg
theorem dEqB_some {d e : D} {b : Bool} (h : dEqB d e = some b) : d.plain = true ∧ e.plain = true ∧ d.depth ≤ 60 ∧ PyData.eqv d e = b := by
  unfold dEqB at h
  split at h
  · cases h
    exact ⟨rfl, rfl, by simp [PyData.depth], by simp [PyData.eqv, Bool.beq_eq_decide_eq]⟩
  · cases h
    exact ⟨rfl, rfl, by simp [PyData.depth], by simp [PyData.eqv, Bool.beq_eq_decide_eq]⟩
  · split at h
    · rename_i hc
      cases h
      exact ⟨hc.1, hc.2.1, hc.2.2, rfl⟩
    · cases h
theorem room_min {A : Around} {k a b : Nat} (hr : Room k A) (h : a ≤ 60) : A.units + 1 + min b a < cLine := by
  have := hr.un
  omega
theorem op_eqDD {k : Nat} (hr : Room k X.A) : OpR X (compareOp .Eq) (rD2 X.K dEq) := op2_reads fun pins s σ F H v u d e as bs Q I sb q1 q2 g => by
  unfold dEq at g
  split at g
  · rename_i b hb
    obtain ⟨h1, h2, h3, h4⟩ := dEqB_some hb
    refine SeqAt.eq_plain q1 q2 h1 h2 (by have := hr.un; omega) ?_
    rw [h4]
    exact ⟨.bl b, H, I, rfl, g _ _ _ (.refl sb) (.bl _)⟩
  · cases g
theorem op_neDD {k : Nat} (hr : Room k X.A) : OpR X (compareOp .NotEq) (rD2 X.K dNe) := op2_reads fun pins s σ F H v u d e as bs Q I sb q1 q2 g => by
  unfold dNe at g
  split at g
  · rename_i b hb
    obtain ⟨h1, h2, h3, h4⟩ := dEqB_some hb
    refine SeqAt.ne_plain q1 q2 h1 h2 (by have := hr.un; omega) ?_
    rw [h4]
    exact ⟨.bl !b, H, I, rfl, g _ _ _ (.refl sb) (.bl _)⟩
  · cases g
theorem op_isND : OpR X (compareOp .Is) (rD2 X.K fun d e => match e with | .none => dIsN d | _ => .no) := op2_of op_isN fun F H x y d e Q s r1 r2 g => by
  cases e with
  | none =>
    have hy : y = .non := by cases r2; rfl
    refine ⟨hy, ?_⟩
    have hb : decide (x = V.non) = isNone d := by cases r1 <;> rfl
    rw [hb]
    exact g _ _ _ (.refl s) (.bl _)
  | _ => exact g.elim
theorem op_notND : OpR X (compareOp .IsNot) (rD2 X.K fun d e => match e with | .none => dNotN d | _ => .no) := op2_of op_notN fun F H x y d e Q s r1 r2 g => by
  cases e with
  | none =>
    have hy : y = .non := by cases r2; rfl
    refine ⟨hy, ?_⟩
    have hb : decide (x = V.non) = isNone d := by cases r1 <;> rfl
    rw [hb]
    exact g _ _ _ (.refl s) (.bl _)
  | _ => exact g.elim
theorem un_negD : UnR X (unaryOp .USub) (fun x => rD X.K (one dNeg) [x]) := by
  intro pins s σ H x v Q I rx ⟨F, ds, sb, rp, g⟩
  cases rp with
  | cons r1 t =>
    cases t
    simp only [one] at g
    unfold dNeg at g
    split at g
    · refine un_neg pins s σ H x v Q I rx ?_
      rw [r1.intv]
      exact ⟨_, rfl, g _ _ _ (.refl sb) (.int _)⟩
    · cases g
theorem ix_D : IxR X (rD2 X.K dIx) := by
  intro va sl pins s σ H x y v u Q I rx ry ⟨F, ds, sb, rp, g⟩ hs
  cases rp with
  | cons r1 t =>
    cases t with
    | cons r2 t =>
      cases t
      refine ix_seq va sl pins s σ H x y v u Q I rx ry ?_ hs
      simp only [two] at g
      unfold dIx at g
      split at g
      · split at g
        · rename_i e
          obtain ⟨a, xs, e1, h1, p1⟩ := r1.lstv
          obtain ⟨w, e2, h2⟩ := atI_rp p1 e
          subst e1
          exact .inl ⟨a, xs, _, w, rfl, r2.intv, sb.l h1, e2, g _ _ _ (.refl sb) h2⟩
        · cases g
      · split at g
        · rename_i e
          obtain ⟨a, xs, e1, h1, p1⟩ := r1.tupv
          obtain ⟨w, e2, h2⟩ := atI_rp p1 e
          subst e1
          exact .inr (.inl ⟨a, xs, _, w, rfl, r2.intv, sb.t h1, e2, g _ _ _ (.refl sb) h2⟩)
        · cases g
      · split at g
        · rename_i hl
          split at g
          · rename_i c e
            exact .inr (.inr ⟨_, _, c, r1.strv, r2.intv, lim_le hl, e, g _ _ _ (.refl sb) (.str _)⟩)
          · cases g
        · cases g
      · cases g
/-! calls of built-ins -/
theorem call1_of {fv : Value} {r : List V → Hp → VK → Prop} {g : D → Res R} (h : CallR X fv r) (k : ∀ (F H : Hp) (x : V) (d : D) (Q : VK), Sub F H → Rp X.K F x d →
    (g d).good (fun q => ∀ z F' H', Grow F H F' H' → NR X.K F' H H' z q → Q z H') (fun _ _ => False) → r [x] H Q) : CallR X fv (rD X.K (one g)) := by
  intro pins s σ H xs us Q I r ⟨F, ds, sb, rp, hg⟩
  cases rp with
  | nil => cases hg
  | cons r1 t =>
    cases t with
    | nil => exact h pins s σ H _ us Q I r (k F H _ _ Q sb r1 hg)
    | cons _ _ => cases hg
theorem call2_of {fv : Value} {r : List V → Hp → VK → Prop} {g : D → D → Res R} (h : CallR X fv r) (k : ∀ (F H : Hp) (x y : V) (d e : D) (Q : VK), Sub F H → Rp X.K F x d → Rp X.K F y e →
    (g d e).good (fun q => ∀ z F' H', Grow F H F' H' → NR X.K F' H H' z q → Q z H') (fun _ _ => False) → r [x, y] H Q) : CallR X fv (rD X.K (two g)) := by
  intro pins s σ H xs us Q I r ⟨F, ds, sb, rp, hg⟩
  cases rp with
  | nil => cases hg
  | cons r1 t =>
    cases t with
    | nil => cases hg
    | cons r2 t =>
      cases t with
      | nil => exact h pins s σ H _ us Q I r (k F H _ _ _ _ Q sb r1 r2 hg)
      | cons _ _ => cases hg
theorem call_lenD' : CallR X (.builtin "len") (rD X.K (one dLen)) := call1_of call_len fun F H x d Q s r1 g => by
  unfold dLen at g
  split at g
  · split at g
    · rename_i hl
      rw [r1.strv]
      exact ⟨_, _, rfl, ⟨lim_le hl, rfl⟩, g _ _ _ (.refl s) (.int _)⟩
    · cases g
  · obtain ⟨a, xs, e1, h1, p1⟩ := r1.lstv
    subst e1
    exact ⟨_, _, rfl, .inl ⟨xs, s.l h1, p1.length.symm⟩, g _ _ _ (.refl s) (.int _)⟩
  · obtain ⟨a, xs, e1, h1, p1⟩ := r1.tupv
    subst e1
    exact ⟨_, _, rfl, .inr ⟨xs, s.t h1, p1.length.symm⟩, g _ _ _ (.refl s) (.int _)⟩
  · cases g
theorem call_minD (hc : X.calm = true) : CallR X (.builtin "min") (rD X.K (two dMin)) := call2_of (call_min2 hc) fun F H x y d e Q s r1 r2 g => by
  unfold dMin at g
  split at g
  · rw [r1.intv, r2.intv]
    exact ⟨_, _, rfl, g _ _ _ (.refl s) (.int _)⟩
  · cases g
theorem call_maxD (hc : X.calm = true) : CallR X (.builtin "max") (rD X.K (two dMax)) := call2_of (call_max2 hc) fun F H x y d e Q s r1 r2 g => by
  unfold dMax at g
  split at g
  · rw [r1.intv, r2.intv]
    exact ⟨_, _, rfl, g _ _ _ (.refl s) (.int _)⟩
  · cases g
theorem call_strD : CallR X (.type "str") (rD X.K (one dStr)) := call1_of (call_str_int.or SkE.call_str_str) fun F H x d Q s r1 g => by
  unfold dStr at g
  split at g
  · split at g
    · rename_i hl
      rw [r1.intv]
      exact .inl ⟨_, rfl, hl, g _ _ _ (.refl s) (.str _)⟩
    · cases g
  · rw [r1.strv]
    exact .inr ⟨_, rfl, g _ _ _ (.refl s) (.str _)⟩
  · cases g
theorem call_tupleD : CallR X (.type "tuple") (rD X.K (one dTuple)) := call1_of call_tuple_of fun F H x d Q s r1 g => by
  unfold dTuple at g
  split at g
  · obtain ⟨a, xs, e1, h1, p1⟩ := r1.lstv
    subst e1
    exact ⟨a, xs, rfl, .inl ⟨s.l h1, fun l hl => newTup s hl p1 g⟩⟩
  · obtain ⟨a, xs, e1, h1, p1⟩ := r1.tupv
    subst e1
    exact ⟨a, xs, rfl, .inr ⟨s.t h1, g _ _ _ (.refl s) (.tup h1 p1)⟩⟩
  · cases g
theorem call_listD : CallR X (.type "list") (rD X.K (one dList)) := call1_of call_list_of fun F H x d Q s r1 g => by
  unfold dList at g
  split at g
  · obtain ⟨a, xs, e1, h1, p1⟩ := r1.lstv
    subst e1
    exact ⟨a, xs, rfl, .inl (s.l h1), fun l hl => newLst s hl p1 g⟩
  · obtain ⟨a, xs, e1, h1, p1⟩ := r1.tupv
    subst e1
    exact ⟨a, xs, rfl, .inr (s.t h1), fun l hl => newLst s hl p1 g⟩
  · cases g
theorem call_allD (hc : X.calm = true) : CallR X (.builtin "all") (rD X.K (one dAll)) := call1_of (cr_all hc) fun F H x d Q s r1 g => by
  unfold dAll at g
  split at g
  · split at g
    · rename_i e
      obtain ⟨a, xs, e1, h1, p1⟩ := r1.lstv
      subst e1
      have := rpBools p1 e
      subst this
      exact ⟨a, _, rfl, s.l h1, g _ _ _ (.refl s) (.bl _)⟩
    · cases g
  · cases g
theorem call_anyD (hc : X.calm = true) : CallR X (.builtin "any") (rD X.K (one dAny)) := call1_of (cr_any hc) fun F H x d Q s r1 g => by
  unfold dAny at g
  split at g
  · split at g
    · rename_i e
      obtain ⟨a, xs, e1, h1, p1⟩ := r1.lstv
      subst e1
      have := rpBools p1 e
      subst this
      exact ⟨a, _, rfl, s.l h1, g _ _ _ (.refl s) (.bl _)⟩
    · cases g
  · cases g
theorem call_sumD (hc : X.calm = true) : CallR X (.builtin "sum") (rD X.K (one dSum)) := call1_of (cr_sum hc) fun F H x d Q s r1 g => by
  unfold dSum at g
  split at g
  · split at g
    · rename_i e
      obtain ⟨a, xs, e1, h1, p1⟩ := r1.lstv
      subst e1
      have := rpInts p1 e
      subst this
      exact ⟨a, _, rfl, s.l h1, g _ _ _ (.refl s) (.int _)⟩
    · cases g
  · cases g
theorem call_reprD {k : Nat} (hgd : X.A.guards = some []) (hr : Room k X.A) : CallR X (.builtin "repr") (rD X.K (one dRepr)) := by
  intro pins s σ H xs us Q I r ⟨F, ds, sb, rp, g⟩
  cases rp with
  | nil => cases g
  | cons r1 t =>
    cases t with
    | cons _ _ => cases g
    | nil =>
      obtain ⟨u, e, ru⟩ := vals1 r
      subst e
      obtain ⟨as, q1⟩ := (r1.mono sb).reads I u ru
      simp only [one] at g
      unfold dRepr at g
      split at g
      · rename_i hc
        obtain ⟨h1, h2, h3, h4⟩ := hc
        have fin : ∀ tk w h', (∀ b o, s.heap.get? b = some o → h'.get? b = some o) → EP X pins σ Q (.str _ w) { s with heap := h', toks := tk } := fun tk w h' hk => ⟨.str _, H, I.kept (t' := tk) hk, ⟨w, rfl⟩, g _ _ _ (.refl sb) (.str _)⟩
        cases r1 with
        | non => cases q1; exact P.repr_of_none (fin _ _ _ fun _ _ z => z)
        | bl b => cases q1; exact P.repr_of_bool (fin _ _ _ fun _ _ z => z)
        | int i =>
          cases q1
          exact P.repr_of_int (by simpa [PyData.showable] using h1) (fin _ _ _ fun _ _ z => z)
        | str x =>
          cases q1
          exact P.repr_of_str (fin _ _ _ fun _ _ z => z) (lim_le h4)
        | lst _ _ =>
          cases ru
          exact repr_of_reads' q1 h1 (PyData.noDict_hsm h2) hgd (by have := hr.un; omega) (fun _ _ z => z) (fun h' w tk hk => fin tk w h' hk) (lim_le h4)
        | tup _ _ =>
          cases ru
          exact repr_of_reads' q1 h1 (PyData.noDict_hsm h2) hgd (by have := hr.un; omega) (fun _ _ z => z) (fun h' w tk hk => fin tk w h' hk) (lim_le h4)
        | dct _ _ _ => cases h2
      · cases g
/-! isinstance, one built-in class -/
theorem call_isiD (T : String) : CallR X (.builtin "isinstance") (fun xs H Q => ∃ x F, xs = [x, .ty T] ∧ Sub F H ∧ rD X.K (one (dIsi T)) [x] H Q) := by
  intro pins s σ H xs us Q I r ⟨x, _, e, _, F, ds, sb, rp, g⟩
  subst e
  obtain ⟨u1, u2, e, r1, r2⟩ := vals2 r
  subst e
  have e2 : u2 = Value.type T := r2
  subst e2
  cases rp with
  | cons q t =>
    cases t
    obtain ⟨as, q1⟩ := (q.mono sb).reads I u1 r1
    simp only [one] at g
    unfold dIsi at g
    split at g
    · rename_i b hb
      have fin : ∀ tk, EP X pins σ Q (.bool b) { s with toks := tk } := fun tk => ⟨.bl b, H, I.tok tk, rfl, g _ _ _ (.refl sb) (.bl _)⟩
      unfold isT at hb
      split at hb <;> first | cases hb | skip
      · exact PySem.W.isinstance_int_data q1 fun tk _ => fin tk
      · exact PySem.W.isinstance_bool_data q1 fun tk _ => fin tk
      · exact PySem.W.isinstance_str_data q1 fun tk _ => fin tk
      · exact PySem.W.isinstance_tuple_data q1 fun tk _ => fin tk
      · exact PySem.W.isinstance_list_data q1 fun tk _ => fin tk
      · exact PySem.W.isinstance_dict_data q1 fun tk _ => fin tk
    · cases g
end
end Fw

namespace Fw
open PySem L2 PySem.Spec PyProof.Rows

/-! ## truth, and, or, not, if-else -/
def dTru : D → Option Bool
  | .none => some false
  | .bool b => some b
  | .int i => some (i != 0)
  | .str z => if z.length ≤ lim then some ((z.length : Int) != 0) else none
  | .list xs => some !xs.isEmpty
  | .tuple xs => some !xs.isEmpty
  | .dict kvs => some !kvs.isEmpty
theorem tru_rp {K : PySem.W.Frag} {F H : Hp} {v : V} {d : D} {b : Bool} (s : Sub F H) (h : Rp K F v d) (e : dTru d = some b) : TruV K v H b := by
  cases h with
  | non => cases e; rfl
  | bl c => cases e; rfl
  | int i => cases e; rfl
  | str z =>
    simp only [dTru] at e
    split at e
    · rename_i hl
      cases e
      exact ⟨lim_le hl, rfl⟩
    · cases e
  | lst h r =>
    cases e
    refine .inl ⟨_, s.l h, ?_⟩
    cases r <;> rfl
  | tup h r =>
    cases e
    refine .inr (.inl ⟨_, s.t h, ?_⟩)
    cases r <;> rfl
  | dct h r q =>
    cases e
    refine .inr (.inr ⟨_, s _ _ h, ?_⟩)
    subst q
    cases r <;> rfl
def truOf (d : D) (Γ : Gm) : Res (Bool × Gm) := match dTru d with
  | some b => .ok (b, Γ)
  | none => .no
def tVal (m : EM) : TM := opd m truOf
def tAndM (ta tb : TM) : TM := fun Γ => (ta Γ).bind fun p => if p.1 = true then tb p.2 else .ok (false, p.2)
def tOrM (ta tb : TM) : TM := fun Γ => (ta Γ).bind fun p => if p.1 = true then .ok (true, p.2) else tb p.2
def tNotM (ta : TM) : TM := fun Γ => (ta Γ).bind fun p => .ok (!p.1, p.2)
def eAnd (ma mb : EM) : EM := opd ma fun d Γ => (truOf d Γ).bind fun p => if p.1 = true then mb p.2 else .ok (.fro d, p.2)
def eOr (ma mb : EM) : EM := opd ma fun d Γ => (truOf d Γ).bind fun p => if p.1 = true then .ok (.fro d, p.2) else mb p.2
def eNot (ma : EM) : EM := opd ma fun d Γ => (truOf d Γ).bind fun p => .ok (.fro (.bool !p.1), p.2)
def eIf (t : TM) (ma mb : EM) : EM := fun Γ => (t Γ).bind fun p => if p.1 = true then ma p.2 else mb p.2
section
variable {X : Cx} {E : XK}
theorem truOf_good {β : Type} {d : D} {Γ : Gm} {k : Bool × Gm → Res β} {kk : β → Prop} {kx : Ex → Gm → Prop} (g : ((truOf d Γ).bind k).good kk kx) : ∃ b, dTru d = some b ∧ (k (b, Γ)).good kk kx := by
  unfold truOf at g
  split at g
  · rename_i b e
    exact ⟨b, e, g⟩
  · cases g
theorem opd_unfold {β : Type} (m : EM) (k : D → Gm → Res β) (Γ : Gm) : opd m k Γ = (m Γ).bind fun p => k p.1.dat p.2 := rfl
theorem DenT.val {t : TE} {m : EM} (h : Den X E t m) : DenT X E (fun σ H Q => t σ H fun x H' => ∃ k, TruV X.K x H' k ∧ Q k H') (tVal m) := by
  intro B F H σ Γ Q r g
  refine h.opd r g ?_
  intro v d Γ1 F1 H1 r1 s1 rp g1
  unfold truOf at g1
  split at g1
  · rename_i b e
    exact ⟨b, tru_rp r1.fh rp e, g1 F1 H1 r1 s1⟩
  · cases g1
theorem dt_val {e : Expr} {m : EM} (h : DE X E e m) (he : ∀ whole, isTrue e X.env whole = (do let v ← whole; standAt e.pos; holding [v] (truthy v)) := by intro _; rfl) : DT X E e (tVal m) := by
  obtain ⟨t, p, h⟩ := h
  exact ⟨_, pt_truth p he, .val h⟩
theorem DenT.test {t : TE} {m : EM} (h : Den X E t m) (hb : ∀ Γ kk kx, (m Γ).good kk kx → (m Γ).good (fun p => kk p ∧ ∃ b, p.1.dat = .bool b) kx) : DenT X E (tTest t) (tVal m) := by
  intro B F H σ Γ Q r g
  have g' : ((m Γ).bind fun p => truOf p.1.dat p.2).good (fun p => ∀ F' H', Rel B X.K F' H' σ p.2 → Sub F F' → Q p.1 H') (XPx X B F E) := g
  rw [Res.good_bind] at g'
  have g2 := hb Γ _ _ g'
  refine h B F H σ Γ _ r (g2.mono ?_ fun _ _ z => z)
  intro p ⟨hp, b, eb⟩ v F' H' r' s' rr
  obtain ⟨F2, r2, s2, rp⟩ := rr.freeze r'
  rw [eb] at rp hp
  exact ⟨b, rp.blv, hp F2 H' r2 (s'.trans s2)⟩
/-- a comparison as a test -/
theorem bool_bin {f : D → D → Res R} (hf : ∀ d e q, f d e = .ok q → ∃ b, q = .fro (.bool b)) (ma mb : EM) : ∀ Γ kk kx, (eBin f ma mb Γ).good kk kx → (eBin f ma mb Γ).good (fun p => kk p ∧ ∃ b, p.1.dat = .bool b) kx := by
  intro Γ kk kx g
  unfold eBin opd at g ⊢
  rw [Res.good_bind] at g ⊢
  refine g.mono (fun p g1 => ?_) fun _ _ z => z
  rw [Res.good_bind] at g1 ⊢
  refine g1.mono (fun p2 g2 => ?_) fun _ _ z => z
  simp only at g2 ⊢
  cases q : f p.1.dat p2.1.dat with
  | ok r =>
    rw [q] at g2
    obtain ⟨b, e⟩ := hf _ _ _ q
    subst e
    exact ⟨g2, b, rfl⟩
  | er x g' => rw [q] at g2; cases g2
  | no => rw [q] at g2; cases g2
theorem dt_cmp {op : CmpOp} {f : D → D → Res R} {a b : Expr} {ma mb : EM} {pos : Pos} (ho : OpR X (compareOp op) (rD2 X.K f)) (hf : ∀ d e q, f d e = .ok q → ∃ b, q = .fro (.bool b)) (ha : DE X E a ma) (hb : DE X E b mb)
    (hm : behindInMarks op b = false := by first | exact nomark _ | rfl) : DT X E (.Compare a [op] [b] pos) (tVal (eBin f ma mb)) := by
  obtain ⟨ta, pa, ha⟩ := ha
  obtain ⟨tb, pb, hb⟩ := hb
  refine ⟨_, pt_cmpR ho pa pb hm, .test ?_ (bool_bin hf ma mb)⟩
  intro B F H σ Γ Q r g
  refine ha.opd r g ?_
  intro v d Γ1 F1 H1 r1 s1 rp g1
  refine hb.opd r1 g1 ?_
  intro w e Γ2 F2 H2 r2 s2 rq g2
  exact ⟨F2, [d, e], r2.fh, .cons (rp.mono s2) (.cons rq .nil), lift_good (mg := X.mg) r2 (s1.trans s2) g2⟩
theorem DenT.and {ta tb : TT} {ma mb : TM} (ha : DenT X E ta ma) (hb : DenT X E tb mb) : DenT X E (tAnd ta tb) (tAndM ma mb) := by
  intro B F H σ Γ Q r g
  refine ha.raw r g ?_
  intro b Γ1 F1 H1 r1 s1 g1
  cases b with
  | true => exact hb B F1 H1 σ Γ1 Q r1 (Res.good.mono g1 (fun p q F' H' r' s' => q F' H' r' (s1.trans s')) fun _ _ z => z)
  | false => exact g1 F1 H1 r1 s1
theorem DenT.or {ta tb : TT} {ma mb : TM} (ha : DenT X E ta ma) (hb : DenT X E tb mb) : DenT X E (tOr ta tb) (tOrM ma mb) := by
  intro B F H σ Γ Q r g
  refine ha.raw r g ?_
  intro b Γ1 F1 H1 r1 s1 g1
  cases b with
  | true => exact g1 F1 H1 r1 s1
  | false => exact hb B F1 H1 σ Γ1 Q r1 (Res.good.mono g1 (fun p q F' H' r' s' => q F' H' r' (s1.trans s')) fun _ _ z => z)
theorem DenT.not {ta : TT} {ma : TM} (ha : DenT X E ta ma) : DenT X E (tNot ta) (tNotM ma) := by
  intro B F H σ Γ Q r g
  refine ha.raw r g ?_
  intro b Γ1 F1 H1 r1 s1 g1
  exact g1 F1 H1 r1 s1
variable {a b : Expr} {rest : List Expr} {pos : Pos} {ta tb : TM} {ma mb : EM}
theorem dw_and1 (h : DT X E a ta) : DW X E (.BoolOp .And [a] pos) ta := by obtain ⟨t, p, h⟩ := h; exact ⟨_, pw_and1 p, h⟩
theorem dw_or1 (h : DT X E a ta) : DW X E (.BoolOp .Or [a] pos) ta := by obtain ⟨t, p, h⟩ := h; exact ⟨_, pw_or1 p, h⟩
theorem dw_and (h : DT X E a ta) (k : DW X E (.BoolOp .And (b :: rest) pos) tb) : DW X E (.BoolOp .And (a :: b :: rest) pos) (tAndM ta tb) := by
  obtain ⟨t, p, h⟩ := h
  obtain ⟨u, q, k⟩ := k
  exact ⟨_, pw_and p q, h.and k⟩
theorem dw_or (h : DT X E a ta) (k : DW X E (.BoolOp .Or (b :: rest) pos) tb) : DW X E (.BoolOp .Or (a :: b :: rest) pos) (tOrM ta tb) := by
  obtain ⟨t, p, h⟩ := h
  obtain ⟨u, q, k⟩ := k
  exact ⟨_, pw_or p q, h.or k⟩
theorem dt_w (h : DW X E a ta) : DT X E a ta := by obtain ⟨t, p, h⟩ := h; exact ⟨_, p.pt, h⟩
theorem dt_not (h : DT X E a ta) : DT X E (.UnaryOp .Not a pos) (tNotM ta) := by obtain ⟨t, p, h⟩ := h; exact ⟨_, pt_not p, h.not⟩
theorem de_one {op : BoolOp} (h : DE X E a ma) : DE X E (.BoolOp op [a] pos) ma := by obtain ⟨t, p, h⟩ := h; exact ⟨_, pe_one p, h⟩
theorem de_and (h : DE X E a ma) (k : DE X E (.BoolOp .And (b :: rest) pos) mb) : DE X E (.BoolOp .And (a :: b :: rest) pos) (eAnd ma mb) := by
  obtain ⟨t, p, h⟩ := h
  obtain ⟨u, q, k⟩ := k
  refine ⟨_, pe_andT p q, ?_⟩
  intro B F H σ Γ Q r g
  refine h.opd r g ?_
  intro v d Γ1 F1 H1 r1 s1 rp g1
  obtain ⟨b, e, g2⟩ := truOf_good g1
  refine ⟨b, tru_rp r1.fh rp e, ?_⟩
  cases b with
  | true => exact k B F1 H1 σ Γ1 Q r1 (Res.good.mono g2 (fun p q v F' H' r' s' => q v F' H' r' (s1.trans s')) fun _ _ z => z)
  | false => exact g2 v F1 H1 r1 s1 rp
theorem de_or (h : DE X E a ma) (k : DE X E (.BoolOp .Or (b :: rest) pos) mb) : DE X E (.BoolOp .Or (a :: b :: rest) pos) (eOr ma mb) := by
  obtain ⟨t, p, h⟩ := h
  obtain ⟨u, q, k⟩ := k
  refine ⟨_, pe_orT p q, ?_⟩
  intro B F H σ Γ Q r g
  refine h.opd r g ?_
  intro v d Γ1 F1 H1 r1 s1 rp g1
  obtain ⟨b, e, g2⟩ := truOf_good g1
  refine ⟨b, tru_rp r1.fh rp e, ?_⟩
  cases b with
  | true => exact g2 v F1 H1 r1 s1 rp
  | false => exact k B F1 H1 σ Γ1 Q r1 (Res.good.mono g2 (fun p q v F' H' r' s' => q v F' H' r' (s1.trans s')) fun _ _ z => z)
theorem de_not (h : DE X E a ma) : DE X E (.UnaryOp .Not a pos) (eNot ma) := by
  obtain ⟨t, p, h⟩ := h
  refine ⟨_, pe_notT p, ?_⟩
  intro B F H σ Γ Q r g
  refine h.opd r g ?_
  intro v d Γ1 F1 H1 r1 s1 rp g1
  obtain ⟨b, e, g2⟩ := truOf_good g1
  exact ⟨b, tru_rp r1.fh rp e, g2 _ F1 H1 r1 s1 (.bl _)⟩
theorem de_if {c : Expr} (hc : DT X E c ta) (h : DE X E a ma) (k : DE X E b mb) : DE X E (.IfExp c a b pos) (eIf ta ma mb) := by
  obtain ⟨tc, pc, hc⟩ := hc
  obtain ⟨t, p, h⟩ := h
  obtain ⟨u, q, k⟩ := k
  refine ⟨_, pe_ifExp pc p q, ?_⟩
  intro B F H σ Γ Q r g
  refine hc.raw r g ?_
  intro b Γ1 F1 H1 r1 s1 g1
  cases b with
  | true => exact h B F1 H1 σ Γ1 Q r1 (Res.good.mono g1 (fun p q v F' H' r' s' => q v F' H' r' (s1.trans s')) fun _ _ z => z)
  | false => exact k B F1 H1 σ Γ1 Q r1 (Res.good.mono g1 (fun p q v F' H' r' s' => q v F' H' r' (s1.trans s')) fun _ _ z => z)
/-- the results of tests are truths -/
theorem bo_eq : ∀ d e q, dEq d e = .ok q → ∃ b, q = .fro (.bool b) := by
  intro d e q h
  unfold dEq at h
  split at h <;> cases h
  exact ⟨_, rfl⟩
theorem bo_ne : ∀ d e q, dNe d e = .ok q → ∃ b, q = .fro (.bool b) := by
  intro d e q h
  unfold dNe at h
  split at h <;> cases h
  exact ⟨_, rfl⟩
theorem bo_lt : ∀ d e q, dLt d e = .ok q → ∃ b, q = .fro (.bool b) := by
  intro d e q h
  unfold dLt at h
  split at h <;> cases h
  exact ⟨_, rfl⟩
theorem bo_le : ∀ d e q, dLe d e = .ok q → ∃ b, q = .fro (.bool b) := by
  intro d e q h
  unfold dLe at h
  split at h <;> cases h
  exact ⟨_, rfl⟩
theorem bo_gt : ∀ d e q, dGt d e = .ok q → ∃ b, q = .fro (.bool b) := by
  intro d e q h
  unfold dGt at h
  split at h <;> cases h
  exact ⟨_, rfl⟩
theorem bo_ge : ∀ d e q, dGe d e = .ok q → ∃ b, q = .fro (.bool b) := by
  intro d e q h
  unfold dGe at h
  split at h <;> cases h
  exact ⟨_, rfl⟩
def dIs (d e : D) : Res R := match e with
  | .none => dIsN d
  | _ => .no
def dIsNot (d e : D) : Res R := match e with
  | .none => dNotN d
  | _ => .no
theorem bo_is : ∀ d e q, dIs d e = .ok q → ∃ b, q = .fro (.bool b) := by
  intro d e q h
  unfold dIs at h
  split at h <;> cases h
  exact ⟨_, rfl⟩
theorem bo_isnot : ∀ d e q, dIsNot d e = .ok q → ∃ b, q = .fro (.bool b) := by
  intro d e q h
  unfold dIsNot at h
  split at h <;> cases h
  exact ⟨_, rfl⟩
/-- isinstance(e, T) -/
theorem de_isi (T : String) {x t : Str} {e : Expr} {p pos p2 : Pos} {m : EM} (he : DE X E e m) (hm : X.mg x = none) (hv : bootBuiltins x = some (.builtin "isinstance")) (hmt : X.mg t = none) (hvt : bootBuiltins t = some (.type T))
    (hg : Gl X x := by rfl) (hgt : Gl X t := by rfl) (hn : x ≠ "__name__" := by decide) (hnt : t ≠ "__name__" := by decide) (hdb : (x == ("__debug__" : Str)) = false := by decide) (hdt : (t == ("__debug__" : Str)) = false := by decide)
    (hs : starEach (e :: [.Name t p2]) X.env = (false, eval e X.env) :: starEach [.Name t p2] X.env := by rfl) (hs2 : starEach (.Name t p2 :: []) X.env = (false, eval (.Name t p2) X.env) :: starEach [] X.env := by rfl)
    (hpl : (backTo pos (starEach [.Name t p2] X.env)).any (·.1) = false := by rfl) : DE X E (.Call (.Name x p) [e, .Name t p2] [] pos) (eUn (dIsi T) m) := by
  obtain ⟨te, pe, h⟩ := he
  refine ⟨_, pe_callB (call_isiD T) hg hm hv (pa_cons pe (pa_cons (pe_bltn (v := .ty T) hgt hmt hvt rfl hnt hdt) pa_nil hs2) hs) hn hdb hs hpl, ?_⟩
  intro B F H σ Γ Q r g
  refine h.opd r g ?_
  intro v d Γ1 F1 H1 r1 s1 rp g1
  exact ⟨v, F1, rfl, r1.fh, F1, [d], r1.fh, .cons rp .nil, lift_good (mg := X.mg) r1 s1 g1⟩
end
end Fw

namespace Fw
open PySem L2 PySem.Spec PyProof.Rows

/-! ## methods of texts -/
def eMethS (f : List D → Res R) (m : EM) (ms : AM) : EM := opd m fun x Γ => match x with
  | .str z => (ms Γ).bind fun p => lift (f (.str z :: p.1)) p.2
  | _ => .no
section
variable {X : Cx} {E : XK}
theorem de_ms {id : String} {f : List D → Res R} {name : Str} {o e : Expr} {es : List Expr} {m : EM} {ms : AM} {apos cpos : Pos} (slot : Slot "str" name id) (hty : typeOf (.builtin id) = pure (.type "method_descriptor")) (hm : MtR X id (rDM X.K f)) (ho : DE X E o m) (ha : DA X E (e :: es) ms)
    (hbase : attributeBase o name X.env (eval o X.env) = eval o X.env := by rfl)
    (hfew : ((backTo cpos (starEach (e :: es) X.env)).all (fun x => !x.1) && (backToKw cpos (keywordEach [] X.env)).all (fun x => x.1.isSome)
      && decide ((e :: es).length + ([] : List Keyword).length + (if ([] : List Keyword).isEmpty then 0 else 1) < 30)) = true := by rfl)
    (hline : (apos.endLine == cpos.line) = true := by rfl) (hs : starEach (e :: es) X.env = (false, eval e X.env) :: starEach es X.env := by rfl) (hplain : (backTo cpos (starEach es X.env)).any (·.1) = false := by rfl) :
    DE X E (.Call (.Attribute o name apos) (e :: es) [] cpos) (eMethS f m ms) := by
  obtain ⟨t, p, h⟩ := ho
  obtain ⟨ta, pa, ha⟩ := ha
  refine ⟨_, pe_bm PySem.F.plainAttrs_str slot hty hm p pa hbase hfew hline hs hplain, ?_⟩
  intro B F H σ Γ Q r g
  refine h.opd r g ?_
  intro v d Γ1 F1 H1 r1 s1 rp g1
  cases d with
  | str z =>
    cases rp
    refine ⟨rfl, ha.raw r1 g1 ?_⟩
    intro vs ds Γ2 F2 H2 r2 s2 rps hl g2
    exact ⟨F2, .str z :: ds, r2.fh, .cons (.str z) rps, lift_good (mg := X.mg) r2 (s1.trans s2) g2⟩
  | _ => cases g1
theorem de_ms0 {id : String} {f : List D → Res R} {name : Str} {o : Expr} {m : EM} {apos cpos : Pos} (slot : Slot "str" name id) (hty : typeOf (.builtin id) = pure (.type "method_descriptor")) (hm : MtR X id (rDM X.K f)) (ho : DE X E o m)
    (hbase : attributeBase o name X.env (eval o X.env) = eval o X.env := by rfl) (hline : (apos.endLine == cpos.line) = true := by rfl) : DE X E (.Call (.Attribute o name apos) [] [] cpos) (eMethS f m aNil) := by
  obtain ⟨t, p, h⟩ := ho
  refine ⟨_, pe_bm0 PySem.F.plainAttrs_str slot hty hm p hbase hline, ?_⟩
  intro B F H σ Γ Q r g
  refine h.opd r g ?_
  intro v d Γ1 F1 H1 r1 s1 rp g1
  cases d with
  | str z =>
    cases rp
    exact ⟨rfl, F1, [.str z], r1.fh, .cons (.str z) .nil, lift_good (mg := X.mg) r1 s1 g1⟩
  | _ => cases g1
theorem mt_joinD : MtR X "str.join" (rDM X.K (two dJoin)) := by
  intro pins s σ H x xs v us Q I rx rxs ⟨F, ds, sb, rp, g⟩
  cases rp with
  | cons r1 t =>
    cases t with
    | nil => cases g
    | cons r2 t =>
      cases t with
      | cons _ _ => cases g
      | nil =>
        refine mt_join pins s σ H x _ v us Q I rx rxs ?_
        simp only [two] at g
        unfold dJoin at g
        split at g
        · unfold dJoinL at g
          split at g
          · rename_i ys e
            split at g
            · rename_i hl
              obtain ⟨a, xs, e1, h1, p1⟩ := r2.lstv
              subst e1
              have := rpStrs p1 e
              subst this
              exact ⟨_, a, ys, r1.strv, rfl, .inl (sb.l h1), Nat.le_trans hl (by decide), g _ _ _ (.refl sb) (.str _)⟩
            · cases g
          · cases g
        · unfold dJoinL at g
          split at g
          · rename_i ys e
            split at g
            · rename_i hl
              obtain ⟨a, xs, e1, h1, p1⟩ := r2.tupv
              subst e1
              have := rpStrs p1 e
              subst this
              exact ⟨_, a, ys, r1.strv, rfl, .inr (sb.t h1), Nat.le_trans hl (by decide), g _ _ _ (.refl sb) (.str _)⟩
            · cases g
          · cases g
        · cases g
end

/-! ## slices -/
def cutD {α : Type} (xs : List α) (lo hi : Option Int) : List α := (xs.drop (HT.sIx xs.length 0 lo)).take (HT.sIx xs.length xs.length hi - HT.sIx xs.length 0 lo)
def dSl : D → Option Int → Option Int → Res R
  | .list xs, lo, hi => .ok (.own (.lst (cutD xs lo hi)))
  | .tuple xs, lo, hi => fr (.tuple (cutD xs lo hi))
  | .str z, lo, hi => if z.length ≤ lim then fr (.str (cutS z lo hi)) else .no
  | _, _, _ => .no
abbrev PM := Gm → Res (Option Int × Gm)
def pNone : PM := fun Γ => .ok (none, Γ)
def pSome (m : EM) : PM := opd m fun d Γ => match d with
  | .int i => .ok (some i, Γ)
  | _ => .no
def eSl (m : EM) (pl ph : PM) : EM := opd m fun d Γ => (pl Γ).bind fun l => (ph l.2).bind fun h => lift (dSl d l.1 h.1) h.2
section
variable {X : Cx} {E : XK}
def DenO (X : Cx) (E : XK) (t : TO) (m : PM) : Prop := ∀ (B : Bd) (F H : Hp) (σ : L2.St) (Γ : Gm) (Q : Option Int → Hp → Prop), Rel B X.K F H σ Γ →
  (m Γ).good (fun p => ∀ F' H', Rel B X.K F' H' σ p.2 → Sub F F' → Q p.1 H') (XPx X B F E) → t σ H Q
def DO (X : Cx) (E : XK) (e : Option Expr) (m : PM) : Prop := ∃ t, PO X e t ∧ DenO X E t m
theorem do_none : DO X E none pNone := ⟨_, po_none, fun B F H σ Γ Q r g => g F H r (Sub.refl _)⟩
theorem do_some {e : Expr} {m : EM} (h : DE X E e m) : DO X E (some e) (pSome m) := by
  obtain ⟨t, p, h⟩ := h
  refine ⟨_, po_some p, ?_⟩
  intro B F H σ Γ Q r g
  refine h.opd r g ?_
  intro v d Γ1 F1 H1 r1 s1 rp g1
  cases d with
  | int i =>
    cases rp
    exact ⟨i, rfl, g1 F1 H1 r1 s1⟩
  | _ => cases g1
theorem DenO.raw {β : Type} {t : TO} {m : PM} {B : Bd} {F H : Hp} {σ : L2.St} {Γ : Gm} {k : Option Int × Gm → Res β} {kk : β → Prop} {Q : Option Int → Hp → Prop} (h : DenO X E t m) (r : Rel B X.K F H σ Γ) (g : ((m Γ).bind k).good kk (XPx X B F E))
    (c : ∀ o Γ1 F1 H1, Rel B X.K F1 H1 σ Γ1 → Sub F F1 → (k (o, Γ1)).good kk (XPx X B F1 E) → Q o H1) : t σ H Q := by
  refine h B F H σ Γ Q r ?_
  rw [Res.good_bind] at g
  refine g.mono ?_ fun _ _ z => z
  intro p hp F' H' r' s'
  exact c _ _ _ _ r' s' (hp.mono (fun _ z => z) fun _ _ z => z.mono s')
theorem rp_cut {K : PySem.W.Frag} {F : Hp} {vs : List V} {ds : List D} (h : RpAll K F vs ds) (lo hi : Option Int) : RpAll K F (cutV vs lo hi) (cutD ds lo hi) := by
  unfold cutV cutD
  rw [h.length]
  exact (h.drop _).take _
theorem sl_D : SlR X (fun x lo hi H Q => rSlL X.K x lo hi H Q ∨ rSlA X.K x lo hi H Q ∨ rSlS x lo hi H Q) := sl_list.or (sl_tupA.or sl_str)
theorem de_sl {e : Expr} {lo hi : Option Expr} {m : EM} {pl ph : PM} {pos p2 : Pos} (he : DE X E e m) (hl : DO X E lo pl) (hh : DO X E hi ph) : DE X E (.Subscript e (.Slice lo hi none p2) pos) (eSl m pl ph) := by
  obtain ⟨t, p, h⟩ := he
  obtain ⟨tl, p1, hl⟩ := hl
  obtain ⟨th, p2', hh⟩ := hh
  refine ⟨_, pe_slice sl_D p p1 p2', ?_⟩
  intro B F H σ Γ Q r g
  refine h.opd r g ?_
  intro v d Γ1 F1 H1 r1 s1 rp g1
  refine hl.raw r1 g1 ?_
  intro lo Γ2 F2 H2 r2 s2 g2
  refine hh.raw r2 g2 ?_
  intro hi Γ3 F3 H3 r3 s3 g3
  have q := rp.mono (s2.trans s3)
  have g4 := lift_good (mg := X.mg) r3 (s1.trans (s2.trans s3)) g3
  unfold dSl at g4
  split at g4
  · obtain ⟨a, xs, e1, h1, p1⟩ := q.lstv
    subst e1
    exact .inl ⟨a, xs, rfl, r3.fh.l h1, fun p hp => newLst r3.fh hp (rp_cut p1 _ _) g4⟩
  · obtain ⟨a, xs, e1, h1, p1⟩ := q.tupv
    subst e1
    refine .inr (.inl ⟨a, xs, rfl, r3.fh.t h1, ?_, fun _ p hp => newTup r3.fh hp (rp_cut p1 _ _) g4⟩)
    intro ⟨w1, w2⟩
    have ew : cutV xs lo hi = xs := by unfold cutV; rw [w1, w2, List.drop_zero, Nat.sub_zero, List.take_length]
    refine g4 _ _ _ (.refl r3.fh) (.tup h1 ?_)
    have := rp_cut p1 lo hi
    rwa [ew] at this
  · split at g4
    · rename_i hz
      exact .inr (.inr ⟨_, q.strv, lim_le hz, g4 _ _ _ (.refl r3.fh) (.str _)⟩)
    · cases g4
  · cases g4
end

/-! ## a def, called on data -/
/-- the promise of a def by its mirror: no error leaves it -/
def sp0 (K : PySem.W.Frag) (np : Nat) (m : Fn) : Sp := fun vs H Q _ => vs.length = np ∧ ∃ B F Γ, Rel B K F H (vs.map some) Γ ∧ (∀ i a, B.π.getD i none = some a → vs[i]? = some (.ref a)) ∧
  (m Γ).good (fun p => ∀ v F' H', Rel B K F' H' (vs.map some) p.2 → Sub F F' → RR B K F' H' (vs.map some) p.2 v p.1 → Q v H') (fun _ _ => False)
def keepIo : SV → SV
  | .io c => .io c
  | _ => .no
def outG (n : Nat) (g : Gm) : Gm := (g.take n).map keepIo
def runFn (nl : Nat) (body : SM) : Fn := fun Γ => (body (Γ ++ List.replicate nl .no)).bind fun o => match o with
  | .rt r g => .ok (r, outG Γ.length g)
  | .nx g => .ok (.fro .none, outG Γ.length g)
  | _ => .no
theorem outG_len {n : Nat} {g : Gm} (h : n ≤ g.length) : (outG n g).length = n := by
  unfold outG
  rw [List.length_map, List.length_take]
  omega
theorem outG_at {n : Nat} {g : Gm} {i : Nat} {sv : SV} (h : (outG n g)[i]? = some sv) : i < n ∧ ((sv = .no) ∨ ∃ c, sv = .io c ∧ g[i]? = some (.io c)) := by
  unfold outG at h
  rw [List.getElem?_map] at h
  cases q : (g.take n)[i]? with
  | none => rw [q] at h; cases h
  | some w =>
    rw [q] at h
    have hi := (List.getElem?_eq_some_iff.mp q).1
    rw [List.length_take] at hi
    refine ⟨by omega, ?_⟩
    rw [List.getElem?_take] at q
    split at q
    · cases h
      cases w with
      | io c => exact .inr ⟨c, rfl, q⟩
      | no => exact .inl rfl
      | d d => exact .inl rfl
      | ow c => exact .inl rfl
    · cases q
section
variable {B : Bd} {K : PySem.W.Frag} {F H : Hp} {σ : L2.St} {Γ : Gm}
theorem Rel.extend (r : Rel B K F H σ Γ) (n : Nat) : Rel { B with n := B.n + n } K F H (σ ++ List.replicate n none) (Γ ++ List.replicate n .no) := by
  have at_ : ∀ {i : Nat} {sv : SV}, (Γ ++ List.replicate n SV.no)[i]? = some sv → (Γ[i]? = some sv ∧ i < Γ.length) ∨ sv = .no := by
    intro i sv h
    by_cases hi : i < Γ.length
    · rw [List.getElem?_append_left hi] at h
      exact .inl ⟨h, hi⟩
    · rw [List.getElem?_append_right (by omega), List.getElem?_replicate] at h
      split at h <;> cases h
      exact .inr rfl
  have sg : ∀ {i : Nat}, i < Γ.length → (σ ++ List.replicate n none)[i]? = σ[i]? := by
    intro i hi
    rw [List.getElem?_append_left (by rw [r.len]; exact hi)]
  have ow : ∀ {i : Nat} {a : Addr}, Owns (σ ++ List.replicate n none) (Γ ++ List.replicate n SV.no) i a → Owns σ Γ i a := by
    rintro i a ⟨⟨sv, e, o⟩, e2⟩
    rcases at_ e with ⟨e1, hi⟩ | e1
    · rw [sg hi] at e2
      exact ⟨⟨sv, e1, o⟩, e2⟩
    · subst e1; cases o
  refine ⟨by simp [r.lσ], by simp [r.lΓ], r.uh, r.fh, r.f0, r.nw, ?_, fun i j a h1 h2 => r.inj i j a (ow h1) (ow h2), fun i a h => r.ofr i a (ow h)⟩
  intro i sv e
  rcases at_ e with ⟨e1, hi⟩ | e1
  · have e2 : (σ ++ List.replicate n none).getD i none = σ.getD i none := by rw [List.getD_eq_getElem?_getD, List.getD_eq_getElem?_getD, sg hi]
    rw [e2]
    exact r.sl i sv e1
  · subst e1; trivial
/-- what is left of a def's slots for its caller -/
theorem Rel.out {vs : List V} {n : Nat} {m : Nat} (r : Rel { B with n := m } K F H σ Γ) (hn : vs.length = n) (hb : B.n = n) (hm : n ≤ m) (hp : ∀ i a, B.π.getD i none = some a → vs[i]? = some (.ref a)) :
    Rel B K F H (vs.map some) (outG n Γ) ∧ ∀ i a, Owns (vs.map some) (outG n Γ) i a → Owns σ Γ i a := by
  have io : ∀ {i : Nat} {c : Cell}, Γ[i]? = some (.io c) → ∃ a, B.π.getD i none = some a ∧ σ[i]? = some (some (.ref a)) ∧ CellAt K F H a c := by
    intro i c e
    obtain ⟨a, e1, e2, q⟩ := r.sl i _ e
    have hi : i < σ.length := by rw [r.len]; exact (List.getElem?_eq_some_iff.mp e).1
    refine ⟨a, e1, ?_, q⟩
    rw [List.getD_eq_getElem?_getD, List.getElem?_eq_getElem hi] at e2
    rw [List.getElem?_eq_getElem hi]
    exact congrArg some e2
  have ow : ∀ i a, Owns (vs.map some) (outG n Γ) i a → Owns σ Γ i a := by
    rintro i a ⟨⟨sv, e, o⟩, e2⟩
    obtain ⟨hi, q | ⟨c, q, e1⟩⟩ := outG_at e
    · subst q; cases o
    · obtain ⟨b, e3, e4, _⟩ := io e1
      have e5 := hp i b e3
      rw [List.getElem?_map, e5] at e2
      cases e2
      exact ⟨⟨_, e1, rfl⟩, e4⟩
  have hg : n ≤ Γ.length := Nat.le_trans hm (Nat.le_of_eq r.lΓ.symm)
  refine ⟨⟨by rw [List.length_map, hn, hb], by rw [outG_len hg, hb], r.uh, r.fh, r.f0, r.nw, ?_, fun i j a h1 h2 => r.inj i j a (ow i a h1) (ow j a h2), fun i a h => r.ofr i a (ow i a h)⟩, ow⟩
  intro i sv e
  obtain ⟨hi, q | ⟨c, q, e1⟩⟩ := outG_at e
  · subst q; trivial
  · subst q
    obtain ⟨a, e3, e4, q⟩ := io e1
    refine ⟨a, e3, ?_, q⟩
    rw [List.getD_eq_getElem?_getD, List.getElem?_map, hp i a e3]
    rfl
end
/-- THE RULE for a def that lets no error out: its body's mirror -/
theorem GOk.def0 {P : Program} {w : World} {K : PySem.W.Frag} {mg : Str → Option Value} {base : Heap} {k : Nat} {f : Addr} {fd : FuncData} {ps N : List Str} {name qual : Str} {st : Stmt} {nl : Nat} {body : SM} (Fu : Fun K name qual st f fd) (S : FnScope N ps (defScope st))
    (hN : N.length = ps.length + nl)
    (hb : ∀ (cdv : Value) (A : Around) (outer : List PySem.Env) (s : Shared) (H : Hp) (E : XK), A.guards = some [] → Room k (A.deeper (envOfC qual (defScope st) s.heap.objs.size f cdv)) →
      DSs (cxOf CX0 P w K mg base N qual (defScope st) f cdv A outer s H E).nox E0 (defBody st) body) : GOk P w K mg base CX0 (k + 1) f fd ps (sp0 K ps.length (runFn nl body)) := by
  refine GOk.of Fu S (fun vs H Q E z => z.1) ?_
  intro cdv A outer s H vs Q E hg hr ⟨hl, B, F, Γ, r, hp, g⟩
  obtain ⟨t, p, h⟩ := hb cdv A outer s H E hg hr
  refine ⟨t, p.nox, ?_⟩
  have hb : B.n = ps.length := by rw [← r.lσ, List.length_map, hl]
  have hΓ : Γ.length = ps.length := r.lΓ.trans hb
  have est : L2.start N vs = vs.map some ++ List.replicate nl Option.none := by
    unfold L2.start
    rw [hN, hl, Nat.add_sub_cancel_left]
  rw [est]
  refine h { B with n := B.n + nl } F H _ _ _ (r.extend nl) ?_
  unfold runFn at g
  rw [Res.good_bind] at g
  refine g.mono ?_ fun _ _ z => z.elim
  intro o ho
  cases o with
  | nx g' =>
    intro σ' F' H' r' s'
    have q := (r'.out (B := B) hl hb (by omega) hp).1
    rw [← hΓ] at q
    exact ho _ F' H' q s' .non
  | rt res g' =>
    intro v σ' F' H' r' s' rr
    obtain ⟨q1, q2⟩ := r'.out (B := B) hl hb (by omega) hp
    rw [← hΓ] at q1 q2
    refine ho v F' H' q1 s' ?_
    cases res with
    | fro d => exact rr
    | own c =>
      obtain ⟨a, e, f, u, n, k⟩ := rr
      exact ⟨a, e, f, u, fun i z => n i (q2 i a z), k⟩
  | bk g' => cases ho
  | ct g' => cases ho
end Fw

namespace Fw
open PySem L2 PySem.Spec PyProof.Rows

/-! ## a def called on data -/
def callRes (r : Res (R × List SV)) (Γ : Gm) : Res (R × Gm) := match r with
  | .ok p => .ok (p.1, Γ)
  | _ => .no
@[simp] theorem callRes_ok (p : R × List SV) (Γ : Gm) : callRes (.ok p) Γ = .ok (p.1, Γ) := rfl
@[simp] theorem callRes_no (Γ : Gm) : callRes .no Γ = .no := rfl
def eFn (m : Fn) (ms : AM) : EM := fun Γ => (ms Γ).bind fun p => callRes (m (p.1.map .d)) p.2
section
variable {X : Cx} {E : XK}
theorem rel_args {K : PySem.W.Frag} {F H : Hp} {vs : List V} {ds : List D} (s : Sub F H) (h : RpAll K F vs ds) : Rel ⟨H, F, [], vs.length⟩ K F H (vs.map some) (ds.map .d) := by
  have no : ∀ i a, ¬ Owns (vs.map some) (ds.map SV.d) i a := by
    rintro i a ⟨⟨sv, e, o⟩, _⟩
    rw [List.getElem?_map] at e
    cases q : ds[i]? with
    | none => rw [q] at e; cases e
    | some d => rw [q] at e; cases e; cases o
  refine ⟨by rw [List.length_map], by rw [List.length_map, h.length], Sub.refl _, s, Sub.refl _, fun a o e => .inl (fun z => by rw [show F a = none from z] at e; cases e), ?_, fun i j a z => (no i a z).elim, fun i a z => (no i a z).elim⟩
  intro i sv e
  rw [List.getElem?_map] at e
  cases q : ds[i]? with
  | none => rw [q] at e; cases e
  | some d =>
    rw [q] at e
    cases e
    obtain ⟨v, h1, h2⟩ := h.get q
    exact ⟨v, by rw [List.getD_eq_getElem?_getD, List.getElem?_map, h1]; rfl, h2⟩
theorem Den.fn {k : Nat} {np n : Nat} {t : TA} {m : Fn} {ms : AM} (h : DenA X E n t ms) (hn : n = np) : Den X E (gCall (sp0 X.K np m) E0 t) (eFn m ms) := by
  intro B F H σ Γ Q r g
  refine h.raw r g ?_
  intro vs ds Γ1 F1 H1 r1 s1 rps hl g1
  show sp0 X.K np m vs H1 Q E0
  have pins : ∀ (i : Nat) (a : Addr), (⟨H1, F1, [], vs.length⟩ : Bd).π.getD i none = some a → vs[i]? = some (.ref a) := fun i a z => by simp at z
  refine ⟨hl.trans hn, ⟨H1, F1, [], vs.length⟩, F1, ds.map .d, rel_args r1.fh rps, pins, ?_⟩
  cases q : m (ds.map .d) with
  | ok p =>
    simp only [q, callRes_ok, Res.good_ok] at g1
    intro v F' H' r' s' rr
    have gr : Grow F1 H1 F' H' := ⟨r'.uh, s', r'.fh, fun a o e => r'.nw a o e⟩
    refine g1 v F' H' (r1.grow gr) (s1.trans s') ?_
    cases hp : p.1 with
    | fro d => rw [hp] at rr; exact rr
    | own c =>
      rw [hp] at rr
      obtain ⟨a, e, f, u, _, k⟩ := rr
      exact NR.rr r1 (q := .own c) ⟨a, e, u, f, k⟩
  | er x g' => simp only [q] at g1; exact g1.elim
  | no => simp only [q] at g1; exact g1.elim
theorem de_fn {k np : Nat} {f : Addr} {fd : FuncData} {ps : List Str} {m : Fn} {x : Str} {e : Expr} {es : List Expr} {ms : AM} {p pos : Pos} (G : GOk X.prog X.w X.K X.mg X.base CX0 k f fd ps (sp0 X.K np m)) (ha : DA X E (e :: es) ms)
    (hgd : X.A.guards = some []) (hr : Room k X.A) (hb : Binds X.K fd ps []) (hm : X.mg x = some (.ref f)) (hk : PySem.W.keepIn X.K (.ref f) = true) (hn : (e :: es).length = np := by rfl) (hg : Gl X x := by rfl)
    (hdb : (x == ("__debug__" : Str)) = false := by decide) (he : starEach (e :: es) X.env = (false, eval e X.env) :: starEach es X.env := by rfl) (hpl : (backTo pos (starEach es X.env)).any (·.1) = false := by rfl) :
    DE X E (.Call (.Name x p) (e :: es) [] pos) (eFn m ms) := by
  obtain ⟨t, pa, h⟩ := ha
  exact ⟨_, ge_call G hgd hr hb pass0 hg hm hk pa hdb he hpl, Den.fn (k := k) h hn⟩
theorem de_fn0 {k np : Nat} {f : Addr} {fd : FuncData} {ps : List Str} {m : Fn} {x : Str} {p pos : Pos} (G : GOk X.prog X.w X.K X.mg X.base CX0 k f fd ps (sp0 X.K np m))
    (hgd : X.A.guards = some []) (hr : Room k X.A) (hb : Binds X.K fd ps []) (hm : X.mg x = some (.ref f)) (hk : PySem.W.keepIn X.K (.ref f) = true) (hn : 0 = np := by rfl) (hg : Gl X x := by rfl)
    (hdb : (x == ("__debug__" : Str)) = false := by decide) : DE X E (.Call (.Name x p) [] [] pos) (eFn m aNil) := by
  refine ⟨_, ge_call0 G hgd hr hb pass0 hg hm hk hdb, Den.fn (k := k) (n := 0) ?_ hn⟩
  exact fun B F H σ Γ Q r g => g [] F H r (Sub.refl _) .nil rfl
end

/-! ## what is walked -/
abbrev IM := Gm → Res (List D × Gm)
def ItOk (K : PySem.W.Frag) (J : It) (F : Hp) (ds : List D) : Prop := ∀ F2 H2, Sub F F2 → Sub F2 H2 → ∀ i,
  (∀ d, ds[i]? = some d → J.go i H2 ∧ ∀ x H3, J.yld i H2 x H3 → ∃ F3, Grow F2 H2 F3 H3 ∧ Rp K F3 x d) ∧ (ds.length ≤ i → J.stop i H2)
def DenI (X : Cx) (E : XK) (wi : TI) (m : IM) : Prop := ∀ (B : Bd) (F H : Hp) (σ : L2.St) (Γ : Gm) (Rk : It → Hp → Prop), Rel B X.K F H σ Γ →
  (m Γ).good (fun p => ∀ J F' H', Rel B X.K F' H' σ p.2 → Sub F F' → ItOk X.K J F' p.1 → Rk J H') (XPx X B F E) → wi σ H Rk
def DI (X : Cx) (E : XK) (tg it : Expr) (m : IM) : Prop := ∃ wi, PI X tg it wi ∧ DenI X E wi m
def strD (z : Str) : List D := z.cps.toList.map fun c => .str ⟨#[c]⟩
def itemsD : D → Option (List D)
  | .list xs => some xs
  | .tuple xs => some xs
  | .str z => some (strD z)
  | _ => none
def iAny (m : EM) : IM := opd m fun d Γ => match itemsD d with
  | some ds => .ok (ds, Γ)
  | none => .no
def rangeD (lo : Int) (n : Nat) : List D := (List.range n).map fun i => .int (lo + (i : Nat))
def iR1 (ms : AM) : IM := fun Γ => (ms Γ).bind fun p => match p.1 with
  | [.int j] => if j < 2 ^ 62 ∧ -(2 ^ 62) ≤ j then .ok (rangeD 0 j.toNat, p.2) else .no
  | _ => .no
def iR2 (ms : AM) : IM := fun Γ => (ms Γ).bind fun p => match p.1 with
  | [.int i, .int j] => if -(2 ^ 62) ≤ i ∧ i < 2 ^ 62 ∧ -(2 ^ 62) ≤ j ∧ j < 2 ^ 62 then .ok (rangeD i (j - i).toNat, p.2) else .no
  | _ => .no
section
variable {X : Cx} {E : XK} {K : PySem.W.Frag} {F : Hp}
theorem ItOk.list {a : Addr} {xs : List V} {ds : List D} (h : SqL K F a xs) (r : RpAll K F xs ds) : ItOk K (Itl K a) F ds := by
  intro F2 H2 s1 s2 i
  have hl := s2.l (s1.l h)
  constructor
  · intro d e
    obtain ⟨v, h1, h2⟩ := r.get e
    refine ⟨⟨xs, v, hl, h1⟩, ?_⟩
    rintro x H3 ⟨e3, q⟩
    subst e3
    have e4 := q xs hl
    rw [h1] at e4
    cases e4
    exact ⟨F2, .refl s2, h2.mono s1⟩
  · intro hi
    exact ⟨xs, hl, by rw [r.length]; exact hi⟩
theorem ItOk.tup {a : Addr} {xs : List V} {ds : List D} (h : SqT K F a xs) (r : RpAll K F xs ds) : ItOk K (Itt K a) F ds := by
  intro F2 H2 s1 s2 i
  have hl := s2.t (s1.t h)
  constructor
  · intro d e
    obtain ⟨v, h1, h2⟩ := r.get e
    refine ⟨⟨xs, v, hl, h1⟩, ?_⟩
    rintro x H3 ⟨e3, q⟩
    subst e3
    have e4 := q xs hl
    rw [h1] at e4
    cases e4
    exact ⟨F2, .refl s2, h2.mono s1⟩
  · intro hi
    exact ⟨xs, hl, by rw [r.length]; exact hi⟩
theorem ItOk.str {z : Str} : ItOk K (Its z) F (strD z) := by
  intro F2 H2 s1 s2 i
  constructor
  · intro d e
    unfold strD at e
    rw [List.getElem?_map] at e
    cases q : z.cps.toList[i]? with
    | none => rw [q] at e; cases e
    | some c =>
      rw [q] at e
      cases e
      rw [Array.getElem?_toList] at q
      refine ⟨(Array.getElem?_eq_some_iff.mp q).1, ?_⟩
      rintro x H3 ⟨e3, c', q', e4⟩
      subst e3
      rw [q] at q'
      cases q'
      subst e4
      exact ⟨F2, .refl s2, .str _⟩
  · intro hi
    unfold strD at hi
    rw [List.length_map, Array.length_toList] at hi
    exact hi
theorem ItOk.range {lo : Int} {n : Nat} : ItOk K (Itr lo n) F (rangeD lo n) := by
  intro F2 H2 s1 s2 i
  constructor
  · intro d e
    unfold rangeD at e
    rw [List.getElem?_map] at e
    cases q : (List.range n)[i]? with
    | none => rw [q] at e; cases e
    | some c =>
      rw [q] at e
      cases e
      have hi := (List.getElem?_eq_some_iff.mp q).1
      rw [List.length_range] at hi
      rw [List.getElem?_range hi] at q
      cases q
      refine ⟨hi, ?_⟩
      rintro x H3 ⟨e3, e4⟩
      subst e3 e4
      exact ⟨F2, .refl s2, .int _⟩
  · intro hi
    unfold rangeD at hi
    rw [List.length_map, List.length_range] at hi
    exact hi
def wOr (a b : TI) : TI := fun σ H R => a σ H R ∨ b σ H R
theorem PI.or {tg it : Expr} {a b : TI} (ha : PI X tg it a) (hb : PI X tg it b) : PI X tg it (wOr a b) :=
  ⟨fun pins s σ H R I h => h.elim (ha.run pins s σ H R I) (hb.run pins s σ H R I)⟩
/-- the values that are read as data, one kind each -/
theorem Den.kinds {t : TE} {m : EM} (h : Den X E t m) (hd : ∀ Γ kk kx, (m Γ).good kk kx → True) : True := trivial
/-- one of three readings, by the data's kind: the kind is told ahead -/
def kindOfD (m : EM) (Γ : Gm) : Nat := match m Γ with
  | .ok p => (match p.1.dat with | .list _ => 0 | .tuple _ => 1 | .str _ => 2 | _ => 3)
  | _ => 3
theorem di_any {tg e : Expr} {m : EM} (h : DE X E e m) : DI X E tg e (iAny m) := by
  obtain ⟨t, p, h⟩ := h
  refine ⟨_, PI.or (pi_list p) (PI.or (pi_tup p) (pi_str p)), ?_⟩
  intro B F H σ Γ Rk r g
  unfold iAny opd at g
  cases q : m Γ with
  | er x g' =>
    rw [q] at g
    refine .inl (h B F H σ Γ _ r ?_)
    rw [q]; exact g
  | no => rw [q] at g; cases g
  | ok p =>
    rw [q] at g
    simp only [Res.bind_ok] at g
    have go : ∀ (P : V → Hp → Prop), (∀ v F1 H1, Rel B X.K F1 H1 σ p.2 → Sub F F1 → Rp X.K F1 v p.1.dat → P v H1) → t σ H P := by
      intro P hP
      refine h B F H σ Γ _ r ?_
      rw [q]
      intro v F' H' r' s' rr
      obtain ⟨F2, r2, s2, rp⟩ := rr.freeze r'
      exact hP v F2 H' r2 (s'.trans s2) rp
    cases hd : p.1.dat with
    | list xs =>
      rw [hd] at g go
      refine .inl (go _ ?_)
      intro v F1 H1 r1 s1 rp
      obtain ⟨a, ys, e1, h1, p1⟩ := rp.lstv
      subst e1
      exact ⟨a, rfl, ⟨ys, r1.fh.l h1⟩, g _ F1 H1 r1 s1 (.list h1 p1)⟩
    | tuple xs =>
      rw [hd] at g go
      refine .inr (.inl (go _ ?_))
      intro v F1 H1 r1 s1 rp
      obtain ⟨a, ys, e1, h1, p1⟩ := rp.tupv
      subst e1
      exact ⟨a, rfl, ⟨ys, r1.fh.t h1⟩, g _ F1 H1 r1 s1 (.tup h1 p1)⟩
    | str z =>
      rw [hd] at g go
      refine .inr (.inr (go _ ?_))
      intro v F1 H1 r1 s1 rp
      exact ⟨z, rp.strv, g _ F1 H1 r1 s1 .str⟩
    | _ => rw [hd] at g; cases g
theorem di_r1 {tg a : Expr} {ms : AM} {p pos : Pos} (ha : DA X E [a] ms) (hm : X.mg "range" = none) (hg : Gl X "range" := by rfl) (hs : starEach [a] X.env = [(false, eval a X.env)] := by rfl) : DI X E tg (.Call (.Name "range" p) [a] [] pos) (iR1 ms) := by
  obtain ⟨t, pa, h⟩ := ha
  refine ⟨_, pi_range1 hg hm pa hs, ?_⟩
  intro B F H σ Γ Rk r g
  refine h.raw r g ?_
  intro vs ds Γ1 F1 H1 r1 s1 rps hl g1
  split at g1
  · rename_i j e
    subst e
    split at g1
    · rename_i hc
      cases rps with
      | cons q t =>
        cases t
        exact ⟨j, by rw [q.intv], hc.2, hc.1, g1 _ F1 H1 r1 s1 .range⟩
    · cases g1
  · cases g1
theorem di_r2 {tg a b : Expr} {ms : AM} {p pos : Pos} (ha : DA X E [a, b] ms) (hm : X.mg "range" = none) (hg : Gl X "range" := by rfl) (hs : starEach [a, b] X.env = [(false, eval a X.env), (false, eval b X.env)] := by rfl)
    (hs2 : starEach [b] X.env = [(false, eval b X.env)] := by rfl) : DI X E tg (.Call (.Name "range" p) [a, b] [] pos) (iR2 ms) := by
  obtain ⟨t, pa, h⟩ := ha
  refine ⟨_, pi_range2 hg hm pa hs hs2, ?_⟩
  intro B F H σ Γ Rk r g
  refine h.raw r g ?_
  intro vs ds Γ1 F1 H1 r1 s1 rps hl g1
  split at g1
  · rename_i i j e
    subst e
    split at g1
    · rename_i hc
      cases rps with
      | cons q t =>
        cases t with
        | cons q2 t =>
          cases t
          exact ⟨i, j, by rw [q.intv, q2.intv], hc, g1 _ F1 H1 r1 s1 .range⟩
    · cases g1
  · cases g1
end

/-! ## targets -/
abbrev BM := D → Gm → Res Gm
def Agree (js : List Nat) (σ σ' : L2.St) : Prop := σ'.length = σ.length ∧ ∀ i, i ∉ js → σ'[i]? = σ[i]?
def DenG (X : Cx) (g : TG) (js : List Nat) (b : BM) : Prop := ∀ (B : Bd) (F H : Hp) (σ : L2.St) (Γ : Gm) (v : V) (d : D) (Q : L2.St → Hp → Prop), Rel B X.K F H σ Γ → Rp X.K F v d →
  (b d Γ).good (fun Γ' => ∀ σ', Rel B X.K F H σ' Γ' → Agree js σ σ' → Q σ' H) (fun _ _ => False) → g v σ H Q
def DG (X : Cx) (tg : Expr) (js : List Nat) (b : BM) : Prop := ∃ g, PG X tg g ∧ DenG X g js b
def bName (j : Nat) : BM := fun d Γ => .ok (Γ.set j (.d d))
def bNames : List Nat → List D → Gm → Res Gm
  | [], [], Γ => .ok Γ
  | j :: js, d :: ds, Γ => bNames js ds (Γ.set j (.d d))
  | _, _, _ => .no
def bTup (js : List Nat) : BM := fun d Γ => match d with
  | .tuple ds => bNames js ds Γ
  | _ => .no
section
variable {X : Cx}
theorem Agree.refl {js : List Nat} (σ : L2.St) : Agree js σ σ := ⟨rfl, fun _ _ => rfl⟩
theorem Agree.set {js : List Nat} {σ : L2.St} {j : Nat} {v : Option V} (h : j ∈ js) : Agree js σ (σ.set j v) :=
  ⟨by rw [List.length_set], fun i hi => List.getElem?_set_ne (fun e => hi (by rw [← e]; exact h))⟩
theorem Agree.trans {js : List Nat} {σ σ1 σ2 : L2.St} (a : Agree js σ σ1) (b : Agree js σ1 σ2) : Agree js σ σ2 := ⟨b.1.trans a.1, fun i hi => (b.2 i hi).trans (a.2 i hi)⟩
theorem Agree.mono {js ks : List Nat} {σ σ' : L2.St} (a : Agree js σ σ') (h : ∀ j ∈ js, j ∈ ks) : Agree ks σ σ' := ⟨a.1, fun i hi => a.2 i fun z => hi (h i z)⟩
theorem dg_name {i : Nat} {x : Str} {pos : Pos} (hN : X.N.Nodup) (hi : X.N[i]? = some x) (hx : Loc X.env.scope x) (hf : X.fn x = true ∨ X.env.scope.names.lookup x = some .local := by first | exact .inl rfl | exact .inr rfl | assumption) : DG X (.Name x pos) [i] (bName i) := by
  refine ⟨_, pg_name hN hi hx hf, ?_⟩
  intro B F H σ Γ v d Q r rp g
  exact g _ (r.set (q := .fro d) rp) (.set (by simp))
/-- several names -/
def DenGs (X : Cx) (g : TGs) (js : List Nat) : Prop := ∀ (B : Bd) (F H : Hp) (σ : L2.St) (Γ : Gm) (vs : List V) (ds : List D) (Q : L2.St → Hp → Prop), Rel B X.K F H σ Γ → RpAll X.K F vs ds →
  (bNames js ds Γ).good (fun Γ' => ∀ σ', Rel B X.K F H σ' Γ' → Agree js σ σ' → Q σ' H) (fun _ _ => False) → g vs σ H Q
def DGs (X : Cx) (tgs : List Expr) (js : List Nat) : Prop := ∃ g, PGs X tgs g ∧ DenGs X g js
theorem dgs_nil : DGs X [] [] := by
  refine ⟨_, pgs_nil, ?_⟩
  intro B F H σ Γ vs ds Q r rp g
  cases rp with
  | nil => exact ⟨rfl, g σ r (.refl _)⟩
  | cons _ _ => cases g
theorem dgs_cons {i : Nat} {x : Str} {pos : Pos} {tgs : List Expr} {js : List Nat} (h : DGs X tgs js) (hN : X.N.Nodup) (hi : X.N[i]? = some x) (hx : Loc X.env.scope x)
    (hf : X.fn x = true ∨ X.env.scope.names.lookup x = some .local := by first | exact .inl rfl | exact .inr rfl | assumption) : DGs X (.Name x pos :: tgs) (i :: js) := by
  obtain ⟨gs, p, h⟩ := h
  refine ⟨_, pgs_cons (pg_name hN hi hx hf) p, ?_⟩
  intro B F H σ Γ vs ds Q r rp g
  cases rp with
  | nil => cases g
  | cons q t =>
    refine ⟨_, _, rfl, ?_⟩
    refine h B F H _ _ _ _ _ (r.set (q := .fro _) q) t ?_
    refine Res.good.mono g (fun Γ' k σ' r' a => k σ' r' ?_) fun _ _ z => z
    exact Agree.trans (.set (by simp)) (a.mono fun j hj => List.mem_cons_of_mem _ hj)
end
end Fw

namespace Fw
open PySem L2 PySem.Spec PyProof.Rows

/-! ## list comprehensions -/
def Res.noEr {α : Type} (r : Res α) : Res α := match r with
  | .ok a => .ok a
  | _ => .no
@[simp] theorem Res.noEr_ok {α : Type} (a : α) : (Res.ok a).noEr = .ok a := rfl
theorem Res.noEr_good {α β : Type} {r : Res α} {k : α → Res β} {kk : β → Prop} {kx : Ex → Gm → Prop} (h : (r.noEr.bind k).good kk kx) : r.good (fun a => (k a).good kk kx) (fun _ _ => False) := by
  cases r with
  | ok a => exact h
  | er x g => exact h
  | no => exact h
def wipeG (Γ : Gm) : List Nat → Gm
  | [] => Γ
  | v :: vs => (wipeG Γ vs).set v .no
/-- the slots of a block's own names as they were, where they hold data -/
def backG (Γ0 Γ : Gm) : List Nat → Gm
  | [] => Γ
  | v :: vs => match Γ0[v]? with
    | some (.d d) => (backG Γ0 Γ vs).set v (.d d)
    | _ => backG Γ0 Γ vs
def lcGo (b : BM) (tt : TM) (me : EM) (vs : List Nat) : List D → Gm → List D → Res (List D × Gm)
  | [], Γ, acc => .ok (acc, Γ)
  | d :: ds, Γ, acc => (b d Γ).noEr.bind fun Γ1 => (tt Γ1).noEr.bind fun p => if p.1 = true then (me p.2).noEr.bind fun q => lcGo b tt me vs ds (wipeG q.2 vs) (acc ++ [q.1.dat]) else lcGo b tt me vs ds (wipeG p.2 vs) acc
def eLc (mi : IM) (b : BM) (tt : TM) (me : EM) (vs : List Nat) : EM := fun Γ => (mi Γ).bind fun p => if p.1.length ≤ lim then
  (lcGo b tt me vs p.1 (wipeG p.2 vs) []).bind fun q => .ok (.own (.lst q.1), backG p.2 q.2 vs) else .no
def tYesM : TM := fun Γ => .ok (true, Γ)
section
variable {B : Bd} {K : PySem.W.Frag} {F H : Hp} {σ : L2.St} {Γ : Gm}
theorem Rel.reslot (r : Rel B K F H σ Γ) {σ' : L2.St} (hl : σ'.length = σ.length) (h : ∀ i : Nat, σ'[i]? ≠ σ[i]? → Γ[i]? = some SV.no) : Rel B K F H σ' Γ := by
  have same : ∀ {i : Nat} {sv : SV}, Γ[i]? = some sv → sv ≠ .no → σ'[i]? = σ[i]? := by
    intro i sv e n
    by_cases q : σ'[i]? = σ[i]?
    · exact q
    · rw [h i q] at e
      cases e
      exact (n rfl).elim
  have ow : ∀ {i : Nat} {a : Addr}, Owns σ' Γ i a → Owns σ Γ i a := by
    rintro i a ⟨⟨sv, e, o⟩, e2⟩
    rw [same e (by intro z; subst z; cases o)] at e2
    exact ⟨⟨sv, e, o⟩, e2⟩
  refine ⟨hl.trans r.lσ, r.lΓ, r.uh, r.fh, r.f0, r.nw, ?_, fun i j a h1 h2 => r.inj i j a (ow h1) (ow h2), fun i a h => r.ofr i a (ow h)⟩
  intro i sv e
  by_cases n : sv = .no
  · subst n; trivial
  · have q := r.sl i sv e
    have e2 : σ'.getD i none = σ.getD i none := by rw [List.getD_eq_getElem?_getD, List.getD_eq_getElem?_getD, same e n]
    rw [e2]
    exact q
theorem wipe_at (σ : L2.St) (vs : List Nat) (i : Nat) : (wipe σ vs)[i]? = if i ∈ vs ∧ i < σ.length then some none else σ[i]? := by
  induction vs with
  | nil => simp [wipe]
  | cons v vs ih =>
    unfold wipe
    rw [List.getElem?_set]
    by_cases hv : v = i
    · subst hv
      by_cases hi : v < σ.length
      · simp [wipe_length, hi]
      · simp [wipe_length, hi]
    · rw [if_neg hv, ih]
      have : (i ∈ v :: vs) ↔ i ∈ vs := ⟨fun z => (List.mem_cons.mp z).resolve_left fun e => hv e.symm, List.mem_cons_of_mem _⟩
      simp [this]
theorem wipeG_len (Γ : Gm) (vs : List Nat) : (wipeG Γ vs).length = Γ.length := by
  induction vs with
  | nil => rfl
  | cons v vs ih => unfold wipeG; rw [List.length_set, ih]
theorem wipeG_at (Γ : Gm) (vs : List Nat) (i : Nat) : (wipeG Γ vs)[i]? = if i ∈ vs ∧ i < Γ.length then some .no else Γ[i]? := by
  induction vs with
  | nil => simp [wipeG]
  | cons v vs ih =>
    unfold wipeG
    rw [List.getElem?_set]
    by_cases hv : v = i
    · subst hv
      by_cases hi : v < Γ.length
      · simp [wipeG_len, hi]
      · simp [wipeG_len, hi]
    · rw [if_neg hv, ih]
      have : (i ∈ v :: vs) ↔ i ∈ vs := ⟨fun z => (List.mem_cons.mp z).resolve_left fun e => hv e.symm, List.mem_cons_of_mem _⟩
      simp [this]
theorem wipeG_no {Γ : Gm} {vs : List Nat} {i : Nat} {sv : SV} (h : i ∈ vs) (e : (wipeG Γ vs)[i]? = some sv) : sv = .no := by
  rw [wipeG_at] at e
  split at e
  · cases e; rfl
  · rename_i n
    have : i < Γ.length := by
      have := (List.getElem?_eq_some_iff.mp e).1
      exact this
    exact (n ⟨h, this⟩).elim
theorem backG_own {Γ0 Γ : Gm} {vs : List Nat} {i : Nat} {sv : SV} (e : (backG Γ0 Γ vs)[i]? = some sv) (o : sv.owned = true) : Γ[i]? = some sv := by
  induction vs with
  | nil => exact e
  | cons v vs ih =>
    unfold backG at e
    split at e
    · rw [List.getElem?_set] at e
      split at e
      · split at e
        · cases e; cases o
        · cases e
      · exact ih e
    · exact ih e
theorem weak_wipeG (Γ : Gm) (vs : List Nat) : Weak Γ (wipeG Γ vs) := by
  refine ⟨(wipeG_len Γ vs).symm, fun i sv e => ?_⟩
  rw [wipeG_at] at e
  split at e
  · cases e; exact .inl rfl
  · exact .inr e
theorem Rel.wipe (r : Rel B K F H σ Γ) {σ' : L2.St} (vs : List Nat) (a : Agree vs σ σ') : Rel B K F H σ' (wipeG Γ vs) := by
  refine (r.weak (weak_wipeG Γ vs)).reslot a.1 ?_
  intro i h
  by_cases hi : i ∈ vs
  · rw [wipeG_at]
    by_cases hl : i < Γ.length
    · rw [if_pos ⟨hi, hl⟩]
    · refine (h ?_).elim
      have h1 : σ.length ≤ i := by rw [r.len]; omega
      rw [List.getElem?_eq_none h1, List.getElem?_eq_none (by rw [a.1]; exact h1)]
  · exact (h (a.2 i hi)).elim
theorem agree_wipe (σ : L2.St) (vs : List Nat) : Agree vs σ (L2.wipe σ vs) := by
  refine ⟨wipe_length σ vs, fun i hi => ?_⟩
  rw [wipe_at, if_neg (fun z => hi z.1)]
theorem wipe_eq {σ σ' : L2.St} {vs : List Nat} (a : Agree vs σ σ') : L2.wipe σ' vs = L2.wipe σ vs := by
  refine List.ext_getElem? fun i => ?_
  rw [wipe_at, wipe_at, a.1]
  by_cases h : i ∈ vs ∧ i < σ.length
  · rw [if_pos h, if_pos h]
  · rw [if_neg h, if_neg h]
    by_cases hi : i ∈ vs
    · have h1 : σ.length ≤ i := by
        have : ¬ i < σ.length := fun z => h ⟨hi, z⟩
        omega
      rw [List.getElem?_eq_none h1, List.getElem?_eq_none (by rw [a.1]; exact h1)]
    · exact a.2 i hi
theorem Rel.back (r : Rel B K F H σ Γ) (vs : List Nat) {Γ0 : Gm} (h0 : ∀ (i : Nat) (d : D), Γ0[i]? = some (SV.d d) → ∃ v, σ[i]? = some (some v) ∧ Rp K F v d) : Rel B K F H σ (backG Γ0 Γ vs) := by
  induction vs with
  | nil => exact r
  | cons v vs ih =>
    unfold backG
    split
    · rename_i d e
      obtain ⟨x, h1, h2⟩ := h0 v d e
      exact ih.put (q := .fro d) h2 h1
    · exact ih
/-- a protected object changes -/
theorem Rel.bump {p : Addr} {o o' : HO} (r : Rel { B with U := upd B.U p o } K F H σ Γ) (hf : F p = none) : Rel { B with U := upd B.U p o' } K F (upd H p o') σ Γ := by
  have ne : ∀ {i a}, Owns σ Γ i a → a ≠ p := by
    intro i a h e
    have := (r.ofr i a h).2
    subst e
    rw [show ({ B with U := upd B.U a o } : Bd).U a = some o from upd_same] at this
    cases this
  refine ⟨r.lσ, r.lΓ, ?_, ?_, r.f0, ?_, ?_, r.inj, ?_⟩
  · intro a u e
    by_cases q : a = p
    · subst q
      rw [upd_same]
      rw [show ({ B with U := upd B.U a o' } : Bd).U a = some o' from upd_same] at e
      exact e
    · have e' : B.U a = some u := (upd_ne q).symm.trans e
      rw [upd_ne q]
      exact r.uh a u ((upd_ne q).trans e')
  · intro a u e
    rw [upd_ne (ne_of_none e hf)]
    exact r.fh a u e
  · intro a u e
    rcases r.nw a u e with h | h
    · exact .inl h
    · right
      have q : a ≠ p := ne_of_none e hf
      exact (upd_ne q).trans ((upd_ne q).symm.trans h)
  · intro i sv e
    refine (r.sl i sv e).mono (Sub.refl _) fun ow a ea => ?_
    have hs : σ[i]? = some (some (.ref a)) := by
      rw [List.getD_eq_getElem?_getD] at ea
      cases q : σ[i]? with
      | none => rw [q] at ea; cases ea
      | some w => rw [q] at ea; exact congrArg some ea
    exact upd_ne (ne ⟨⟨sv, e, ow⟩, hs⟩)
  · intro i a h
    have := r.ofr i a h
    refine ⟨this.1, ?_⟩
    exact (upd_ne (ne h)).trans ((upd_ne (ne h)).symm.trans this.2)
/-- a new object is laid and protected -/
theorem Rel.guard {p : Addr} {o : HO} (r : Rel B K F H σ Γ) (hp : H p = none) : Rel { B with U := upd B.U p o } K F (upd H p o) σ Γ := by
  have g := Grow.new (F := F) (o := o) r.fh hp
  have r' := r.grow g
  have ne : ∀ {i a}, Owns σ Γ i a → a ≠ p := by
    intro i a h e
    obtain ⟨u, hu⟩ := h.some r
    subst e
    rw [hu] at hp; cases hp
  refine ⟨r.lσ, r.lΓ, ?_, r'.fh, r.f0, ?_, r'.sl, r.inj, ?_⟩
  · intro a u e
    by_cases q : a = p
    · subst q
      rw [upd_same]
      exact (show ({ B with U := upd B.U a o } : Bd).U a = some o from upd_same).symm.trans e
    · exact r'.uh a u ((upd_ne q).symm.trans e)
  · intro a u e
    rcases r.nw a u e with h | h
    · exact .inl h
    · have q : a ≠ p := fun z => by subst z; rw [r.fh.ne hp] at e; cases e
      exact .inr ((upd_ne q).trans h)
  · intro i a h
    exact ⟨(r.ofr i a h).1, (upd_ne (ne h)).trans (r.ofr i a h).2⟩
theorem Rel.unguard {p : Addr} {o : HO} (r : Rel { B with U := upd B.U p o } K F H σ Γ) (hu : B.U p = none) : Rel B K F H σ Γ := by
  have ne : ∀ {i a}, Owns σ Γ i a → a ≠ p := by
    intro i a h e
    have := (r.ofr i a h).2
    subst e
    rw [show ({ B with U := upd B.U a o } : Bd).U a = some o from upd_same] at this
    cases this
  have back : ∀ {a}, upd B.U p o a = none → B.U a = none := by
    intro a h
    by_cases q : a = p
    · subst q; exact hu
    · exact (upd_ne q).symm.trans h
  refine ⟨r.lσ, r.lΓ, ?_, r.fh, r.f0, ?_, r.sl, r.inj, ?_⟩
  · intro a u e
    refine r.uh a u ?_
    have q : a ≠ p := fun z => by subst z; rw [hu] at e; cases e
    exact (upd_ne q).trans e
  · intro a u e
    exact (r.nw a u e).imp id back
  · intro i a h
    exact ⟨(r.ofr i a h).1, back (r.ofr i a h).2⟩
end
section
variable {X : Cx} {E : XK}
def DTs (X : Cx) (E : XK) (ifs : List Expr) (m : TM) : Prop := ∃ t, PTs X ifs t ∧ DenT X E t m
theorem dts_nil : DTs X E [] tYesM := ⟨_, pts_nil, fun B F H σ Γ Q r g => g F H r (Sub.refl _)⟩
theorem dts_one {c : Expr} {m : TM} (h : DT X E c m) : DTs X E [c] m := by obtain ⟨t, p, h⟩ := h; exact ⟨_, pts_one p, h⟩
/-- canonical readings -/
def tE (K : PySem.W.Frag) (mg : Str → Option Value) (E : XK) (m : EM) : TE := fun σ H Q => ∃ B F Γ, Rel B K F H σ Γ ∧ (m Γ).good (fun p => ∀ v F' H', Rel B K F' H' σ p.2 → Sub F F' → RR B K F' H' σ p.2 v p.1 → Q v H') (XP K mg B F E)
def tT (K : PySem.W.Frag) (mg : Str → Option Value) (E : XK) (m : TM) : TT := fun σ H Q => ∃ B F Γ, Rel B K F H σ Γ ∧ (m Γ).good (fun p => ∀ F' H', Rel B K F' H' σ p.2 → Sub F F' → Q p.1 H') (XP K mg B F E)
def tGo (K : PySem.W.Frag) (js : List Nat) (b : BM) : TG := fun v σ H Q => ∃ B F Γ d, Rel B K F H σ Γ ∧ Rp K F v d ∧ (b d Γ).good (fun Γ' => ∀ σ', Rel B K F H σ' Γ' → Agree js σ σ' → Q σ' H) (fun _ _ => False)
theorem DE.pe {e : Expr} {m : EM} (h : DE X E e m) : PE X e (tE X.K X.mg E m) := by
  obtain ⟨t, p, h⟩ := h
  exact ⟨fun pins s σ H Q I ⟨B, F, Γ, r, g⟩ => p.run pins s σ H Q I (h B F H σ Γ Q r g)⟩
theorem DTs.pts {e : List Expr} {m : TM} (h : DTs X E e m) : PTs X e (tT X.K X.mg E m) := by
  obtain ⟨t, p, h⟩ := h
  exact ⟨fun pins s σ H Q I ⟨B, F, Γ, r, g⟩ => p.run pins s σ H Q I (h B F H σ Γ Q r g)⟩
theorem DG.pg {tg : Expr} {js : List Nat} {b : BM} (h : DG X tg js b) : PG X tg (tGo X.K js b) := by
  obtain ⟨t, p, h⟩ := h
  exact ⟨fun pins s σ H v u Q I rv ⟨B, F, Γ, d, r, rp, g⟩ => p.run pins s σ H v u Q I rv (h B F H σ Γ v d Q r rp g)⟩
/-- the reading of a comprehension -/
theorem Den.lc {wi : TI} {vs js : List Nat} {mi : IM} {b : BM} {mt : TM} {me : EM} (hi : DenI X E wi mi) (hj : ∀ j ∈ js, j ∈ vs) : Den X E (tLc wi (tGo X.K js b) (tT X.K X.mg E0 mt) (tE X.K X.mg E0 me) vs) (eLc mi b mt me vs) := by
  intro B F H σ Γ Q r gd
  unfold eLc at gd
  rw [Res.good_bind] at gd
  refine hi B F H σ Γ _ r (gd.mono ?_ fun _ _ z => z)
  intro p gp J F1 H1 r1 s1 ok Dl hD
  split at gp
  · rename_i hlen
    rw [Res.good_bind] at gp
    have hF1 : F1 Dl = none := r1.fh.ne hD
    have hF0 : B.F0 Dl = none := r1.f0.ne hF1
    have hU : B.U Dl = none := r1.uh.ne hD
    -- what a turn begins with
    let W : Nat → Nat → Hp → Prop := fun i m H => m = p.1.length - i ∧ i ≤ p.1.length ∧ ∃ F2 Γ2 vacc dacc, Rel { B with U := upd B.U Dl (.lst vacc) } X.K F2 H (L2.wipe σ vs) Γ2 ∧ Sub F1 F2 ∧ RpAll X.K F2 vacc dacc ∧ vacc.length ≤ i ∧ (∀ (j : Nat) (sv : SV), j ∈ vs → Γ2[j]? = some sv → sv = SV.no) ∧
      (lcGo b mt me vs (p.1.drop i) Γ2 dacc).good (fun q => (Res.ok (R.own (.lst q.1), backG p.2 q.2 vs) : Res (R × Gm)).good (fun p => ∀ v F' H', Rel B X.K F' H' σ p.2 → Sub F F' → RR B X.K F' H' σ p.2 v p.1 → Q v H') (XPx X B F E)) (XPx X B F E)
    have noF : ∀ {σ2 F2 H2 Γ2 o}, Rel { B with U := upd B.U Dl o } X.K F2 H2 σ2 Γ2 → F2 Dl = none := by
      intro σ2 F2 H2 Γ2 o r2
      cases q : F2 Dl with
      | none => rfl
      | some u =>
        rcases r2.nw Dl u q with z | z
        · exact absurd hF0 z
        · rw [show ({ B with U := upd B.U Dl o } : Bd).U Dl = some o from upd_same] at z
          cases z
    refine ⟨W, ⟨p.1.length, by simp, Nat.zero_le _, F1, wipeG p.2 vs, [], [], ?_, Sub.refl _, .nil, Nat.le_refl _, fun _ _ h e => wipeG_no h e, gp⟩, ?_⟩
    · exact (r1.guard hD).wipe vs (agree_wipe σ vs)
    · rintro i m H2 ⟨rfl, hi', F2, Γ2, vacc, dacc, r2, s2, ra, hacc, hno, g2⟩
      have hit := ok F2 H2 s2 r2.fh i
      by_cases hlt : i < p.1.length
      · obtain ⟨d, hd⟩ : ∃ d, p.1[i]? = some d := ⟨_, List.getElem?_eq_getElem hlt⟩
        obtain ⟨go, yl⟩ := hit.1 d hd
        have hdrop : p.1.drop i = d :: p.1.drop (i + 1) := by
          rw [List.drop_eq_getElem_cons hlt]
          rw [List.getElem?_eq_getElem hlt] at hd
          cases hd
          rfl
        rw [hdrop] at g2
        unfold lcGo at g2
        have g3 := Res.noEr_good g2
        refine .inr ⟨go, fun H' => W (i + 1) (p.1.length - (i + 1)) H', fun H' w => ⟨_, by omega, w⟩, ?_⟩
        intro x H3 hy
        obtain ⟨F3, gr, rx⟩ := yl x H3 hy
        have r3 := r2.grow gr
        have agree : ∀ {σ2 : L2.St}, Agree js (L2.wipe σ vs) σ2 → Agree vs (L2.wipe σ vs) σ2 := fun a => a.mono hj
        have wip : ∀ {σ2 : L2.St}, Agree vs (L2.wipe σ vs) σ2 → L2.wipe σ2 vs = L2.wipe σ vs := fun a => (wipe_eq a).trans (wipe_eq (agree_wipe σ vs))
        have backA : ∀ {σ2 : L2.St}, Agree vs (L2.wipe σ vs) σ2 → Agree vs σ2 (L2.wipe σ vs) := fun a => ⟨a.1.symm, fun i hi => (a.2 i hi).symm⟩
        refine ⟨_, F3, Γ2, d, r3, rx, g3.mono ?_ fun _ _ z => z⟩
        intro Γ3 g4 σ2 r4 ag
        refine ⟨wip (agree ag), _, F3, Γ3, r4, (Res.noEr_good g4).mono ?_ fun _ _ z => z.elim⟩
        intro q g5 F5 H5 r5 s5
        by_cases hq : q.1 = true
        · rw [if_pos hq] at g5 ⊢
          refine ⟨_, F5, q.2, r5, (Res.noEr_good g5).mono ?_ fun _ _ z => z.elim⟩
          intro y g6 v F6 H6 r6 s6 rr
          obtain ⟨F7, r7, s7, rp⟩ := rr.freeze r6
          have hDl : H6 Dl = some (.lst vacc) := r7.uh Dl _ upd_same
          refine ⟨vacc, hDl, Nat.lt_of_le_of_lt hacc (Nat.lt_of_lt_of_le hlt (lim_le hlen)), rfl, hlt, F7, wipeG y.2 vs, vacc ++ [v], dacc ++ [y.1.dat], ?_, ?_, ?_, ?_, fun _ _ h e => wipeG_no h e, g6⟩
          · have r8 := Rel.bump (o' := .lst (vacc ++ [v])) r7 (noF r7)
            exact r8.wipe vs (backA (agree ag))
          · exact s2.trans (gr.ff.trans (s5.trans (s6.trans s7)))
          · exact (ra.mono (gr.ff.trans (s5.trans (s6.trans s7)))).append (.cons rp .nil)
          · rw [List.length_append]; exact Nat.add_le_add_right hacc 1
        · rw [if_neg hq] at g5 ⊢
          have r6 := r5.wipe vs (backA (agree ag))
          exact ⟨rfl, hlt, F5, wipeG q.2 vs, vacc, dacc, r6, s2.trans (gr.ff.trans s5), ra.mono (gr.ff.trans s5), Nat.le_succ_of_le hacc, fun _ _ h e => wipeG_no h e, g5⟩
      · have he : i = p.1.length := by omega
        subst he
        rw [List.drop_length] at g2
        refine .inl ⟨hit.2 (Nat.le_refl _), ?_⟩
        have r3 := r2.unguard hU
        have sa := agree_wipe σ vs
        have hDl : H2 Dl = some (.lst vacc) := r2.uh Dl _ upd_same
        have r4 : Rel B X.K F2 H2 σ (backG p.2 Γ2 vs) := by
          refine Rel.back (r3.reslot sa.1.symm ?_) vs ?_
          · intro j hj'
            by_cases hm : j ∈ vs
            · by_cases hl : j < Γ2.length
              · have e := List.getElem?_eq_getElem hl
                rw [e, hno j _ hm e]
              · refine (hj' ?_).elim
                have h1 : (L2.wipe σ vs).length ≤ j := by rw [r3.len]; omega
                rw [List.getElem?_eq_none h1, List.getElem?_eq_none (by rw [← sa.1]; exact h1)]
            · exact (hj' (sa.2 j hm).symm).elim
          · intro j d e
            obtain ⟨v, h1, h2⟩ := r1.at e
            exact ⟨v, h1, h2.mono s2⟩
        refine g2 (.ref Dl) F2 H2 r4 (s1.trans s2) ⟨Dl, rfl, noF r2, hU, ?_, vacc, hDl, ra⟩
        rintro j ⟨⟨sv, e, o⟩, e2⟩
        have e3 := backG_own e o
        have hm : j ∉ vs := fun hm => by
          have := hno j sv hm e3
          subst this
          cases o
        have ow : Owns (L2.wipe σ vs) Γ2 j Dl := ⟨⟨sv, e3, o⟩, by rw [sa.2 j hm]; exact e2⟩
        have := (r2.ofr j Dl ow).2
        rw [show ({ B with U := upd B.U Dl (.lst vacc) } : Bd).U Dl = some (.lst vacc) from upd_same] at this
        cases this
  · cases gp
end
end Fw

namespace Fw
open PySem L2 PySem.Spec PyProof.Rows

section
variable {X : Cx} {E : XK}
theorem de_lc {elt tg iter : Expr} {ifs : List Expr} {scope : Scope} {own : List (Str × Nat)} {pos : Pos} {js : List Nat} {mi : IM} {b : BM} {mt : TM} {me : EM} (hi : DI X E tg iter mi) (hc : X.calm = true) (hN : X.N.Nodup)
    (ok : BlkOk X.N X.env.scope scope own)
    (hg : ∀ (s : Shared) (H : Hp) (C : Addr) (cl : List (Str × Addr)) (fp : List Addr), DG (X.blk s H scope (compEnvC scope cl C X.env) fp) tg js b)
    (ht : ∀ (s : Shared) (H : Hp) (C : Addr) (cl : List (Str × Addr)) (fp : List Addr), DTs (X.blk s H scope (compEnvC scope cl C X.env) fp) E0 ifs mt)
    (he : ∀ (s : Shared) (H : Hp) (C : Addr) (cl : List (Str × Addr)) (fp : List Addr), DE (X.blk s H scope (compEnvC scope cl C X.env) fp) E0 elt me) (hj : ∀ j ∈ js, j ∈ own.map (·.2))
    (hs : ∀ x, foldedSetIterable iter X.env x = pure x := by intro _; rfl) :
    DE X E (.ListComp elt [⟨tg, iter, ifs, 0⟩] scope pos) (eLc mi b mt me (own.map (·.2))) := by
  obtain ⟨wi, pi, hi⟩ := hi
  exact ⟨_, pe_lc hc hN pi ok (fun s H C cl fp => (hg s H C cl fp).pg) (fun s H C cl fp => (ht s H C cl fp).pts) (fun s H C cl fp => (he s H C cl fp).pe) hs, Den.lc hi hj⟩

/-! ## statements -/
def sRet (m : EM) : SM := fun Γ => (m Γ).bind fun p => .ok (.rt p.1 p.2)
def sRetN : SM := fun Γ => .ok (.rt (.fro .none) Γ)
def sSet (i : Nat) (m : EM) : SM := fun Γ => (m Γ).bind fun p => .ok (.nx (p.2.set i p.1.sv))
def sDrop (m : EM) : SM := fun Γ => (m Γ).bind fun p => .ok (.nx p.2)
def sIf (t : TM) (a b : SM) : SM := fun Γ => (t Γ).bind fun p => if p.1 = true then a p.2 else b p.2
def sNx : SM := fun Γ => .ok (.nx Γ)
def sSeq (a b : SM) : SM := fun Γ => (a Γ).bind fun o => match o with
  | .nx g => b g
  | o => .ok o
def sBk : SM := fun Γ => .ok (.bk Γ)
def sCt : SM := fun Γ => .ok (.ct Γ)
def sUnp (js : List Nat) (m : EM) : SM := opd m fun d Γ => (bTup js d Γ).noEr.bind fun g => .ok (.nx g)
theorem DenS.nx {t : TS} {m : EM} : True := trivial
theorem ds_ret {e : Expr} {m : EM} {pos : Pos} (h : DE X E e m) : DS X E (.Return (some e) pos) (sRet m) := by
  obtain ⟨t, p, h⟩ := h
  refine ⟨_, ps_ret p, ?_⟩
  intro B F H σ Γ De r g
  refine h.raw r g ?_
  intro v q Γ1 F1 H1 r1 s1 rr g1
  exact g1 v σ F1 H1 r1 s1 rr
theorem ds_retN {pos : Pos} : DS X E (.Return none pos) sRetN := ⟨_, ps_retN, fun B F H σ Γ De r g => g _ σ F H r (Sub.refl _) .non⟩
theorem ds_set {i : Nat} {x : Str} {e : Expr} {m : EM} {pos pos' : Pos} (h : DE X E e m) (hN : X.N.Nodup) (hi : X.N[i]? = some x := by rfl) (hx : Loc X.env.scope x := by first | exact Or.inl rfl | exact Or.inr rfl) (hs : swapsWith e (some (.Name x pos')) pos.line X.env = pure false := by rfl)
    (hf : X.fn x = true ∨ X.env.scope.names.lookup x = some .local := by first | exact .inl rfl | exact .inr rfl | assumption) : DS X E (.Assign [.Name x pos'] e pos) (sSet i m) := by
  obtain ⟨t, p, h⟩ := h
  refine ⟨_, ps_set hN hi hx p hs hf, ?_⟩
  intro B F H σ Γ De r g
  refine h.raw r g ?_
  intro v q Γ1 F1 H1 r1 s1 rr g1
  exact g1 _ F1 H1 (r1.set rr) s1
theorem ds_setLc {i : Nat} {y : Str} {py : Pos} {elt tg iter : Expr} {ifs : List Expr} {scope : Scope} {own : List (Str × Nat)} {pos spos : Pos} {js : List Nat} {mi : IM} {b : BM} {mt : TM} {me : EM} (hi : DI X E tg iter mi) (hc : X.calm = true) (hN : X.N.Nodup)
    (ok : BlkOk X.N X.env.scope scope own)
    (hg : ∀ (s : Shared) (H : Hp) (C : Addr) (cl : List (Str × Addr)) (fp : List Addr), DG (X.blk s H scope (compEnvC scope cl C X.env) fp) tg js b)
    (ht : ∀ (s : Shared) (H : Hp) (C : Addr) (cl : List (Str × Addr)) (fp : List Addr), DTs (X.blk s H scope (compEnvC scope cl C X.env) fp) E0 ifs mt)
    (he : ∀ (s : Shared) (H : Hp) (C : Addr) (cl : List (Str × Addr)) (fp : List Addr), DE (X.blk s H scope (compEnvC scope cl C X.env) fp) E0 elt me) (hj : ∀ j ∈ js, j ∈ own.map (·.2))
    (hy : X.N[i]? = some y) (hyl : X.env.scope.names.lookup y = some .local) (hsw : swapsWith (.ListComp elt [⟨tg, iter, ifs, 0⟩] scope pos) (some (.Name y py)) spos.line X.env = pure true)
    (hs : ∀ x, foldedSetIterable iter X.env x = pure x := by intro _; rfl) :
    DS X E (.Assign [.Name y py] (.ListComp elt [⟨tg, iter, ifs, 0⟩] scope pos) spos) (sSet i (eLc mi b mt me (own.map (·.2)))) := by
  obtain ⟨wi, pi, hi⟩ := hi
  refine ⟨_, ps_setLc (te := tE X.K X.mg E0 me) (tt := tT X.K X.mg E0 mt) (g := tGo X.K js b) hc hN hy hyl hsw pi ok (fun s H C cl fp => (hg s H C cl fp).pg) (fun s H C cl fp => (ht s H C cl fp).pts) (fun s H C cl fp => (he s H C cl fp).pe) hs, ?_⟩
  intro B F H σ Γ De r g
  refine (Den.lc (X := X) (E := E) hi hj).raw r g ?_
  intro v q Γ1 F1 H1 r1 s1 rr g1
  exact g1 _ F1 H1 (r1.set rr) s1
theorem ds_drop {e : Expr} {m : EM} {pos : Pos} (h : DE X E e m) (hs : swapsWith e none pos.line X.env = pure false := by rfl) : DS X E (.Expr e pos) (sDrop m) := by
  obtain ⟨t, p, h⟩ := h
  refine ⟨_, ps_expr p hs, ?_⟩
  intro B F H σ Γ De r g
  refine h.raw r g ?_
  intro v q Γ1 F1 H1 r1 s1 rr g1
  exact g1 σ F1 H1 r1 s1
theorem ds_doc {x : Str} {j : Nat} {pos pos' : Pos} : DS X E (.Expr (.Constant (.str x) j pos) pos') sNx := ⟨_, ps_doc, fun B F H σ Γ De r g => g σ F H r (Sub.refl _)⟩
theorem ds_pass {pos : Pos} : DS X E (.Pass pos) sNx := ⟨_, ps_pass, fun B F H σ Γ De r g => g σ F H r (Sub.refl _)⟩
theorem ds_bk {pos : Pos} : DS X E (.Break pos) sBk := ⟨_, ps_break, fun B F H σ Γ De r g => g σ F H r (Sub.refl _)⟩
theorem ds_ct {pos : Pos} : DS X E (.Continue pos) sCt := ⟨_, ps_continue, fun B F H σ Γ De r g => g σ F H r (Sub.refl _)⟩
theorem ds_never {st : Stmt} : DS X E st (fun _ => .no) := ⟨_, ps_never, fun B F H σ Γ De r g => g.elim⟩
theorem ds_unp {elts : List Expr} {kk : Nat} {tpos : Pos} {e : Expr} {js : List Nat} {m : EM} {pos : Pos} (h : DE X E e m) (hg : DGs X elts js) (hc : X.calm = true) (hk : elts.length = js.length := by rfl)
    (hp : ∀ {gs : TGs}, PGs X elts gs → PG X (.Tuple elts kk tpos) (gTup X.K js.length gs))
    (hs : swapsWithSole [.Tuple elts kk tpos] e pos.line X.env = pure false := by rfl) (hw : swappedStores [.Tuple elts kk tpos] e X.env = pure none := by rfl) :
    DS X E (.Assign [.Tuple elts kk tpos] e pos) (sUnp js m) := by
  obtain ⟨t, p, h⟩ := h
  obtain ⟨gs, pg, hg⟩ := hg
  refine ⟨_, ps_asg p (hp pg) hs hw, ?_⟩
  intro B F H σ Γ De r g
  refine h.opd r g ?_
  intro v d Γ1 F1 H1 r1 s1 rp g1
  have g2 := Res.noEr_good g1
  unfold bTup at g2
  split at g2
  · rename_i ds
    obtain ⟨a, xs, e1, h1, p1⟩ := rp.tupv
    subst e1
    have hlen : ∀ {js : List Nat} {ds : List D} {Γ : Gm} {kk kx}, (bNames js ds Γ).good kk kx → ds.length = js.length := by
      intro js
      induction js with
      | nil => intro ds Γ kk kx z; cases ds with
        | nil => rfl
        | cons _ _ => cases z
      | cons j js ih => intro ds Γ kk kx z; cases ds with
        | nil => cases z
        | cons d ds => rw [List.length_cons, List.length_cons, ih z]
    refine ⟨a, xs, rfl, r1.fh.t h1, by rw [p1.length, hlen g2], hg B F1 H1 σ Γ1 xs ds _ r1 p1 (g2.mono ?_ fun _ _ z => z)⟩
    intro Γ' k σ' r' _
    exact k σ' F1 H1 r' s1
  · cases g2
theorem DenS.seq {t u : TS} {a b : SM} (ha : DenS X E t a) (hb : DenS X E u b) : DenS X E (tSeq t u) (sSeq a b) := by
  intro B F H σ Γ De r g
  unfold sSeq at g
  rw [Res.good_bind] at g
  refine ha B F H σ Γ _ r (g.mono ?_ fun _ _ z => z)
  intro o ho
  cases o with
  | nx g' =>
    intro σ' F' H' r' s'
    exact hb B F' H' σ' g' De r' (Res.good.mono ho (fun o z => mono_sub z s') fun _ _ z => z.mono s')
  | rt q g' => exact ho
  | bk g' => exact ho
  | ct g' => exact ho
theorem dss_nil : DSs X E [] sNx := ⟨_, pss_nil, fun B F H σ Γ De r g => g σ F H r (Sub.refl _)⟩
theorem dss_cons {st : Stmt} {rest : List Stmt} {a b : SM} (ha : DS X E st a) (hb : DSs X E rest b) : DSs X E (st :: rest) (sSeq a b) := by
  obtain ⟨t, p, h⟩ := ha
  obtain ⟨u, q, k⟩ := hb
  exact ⟨_, pss_cons p q, h.seq k⟩
theorem dss_one {st : Stmt} {a : SM} (ha : DS X E st a) : DSs X E [st] a := by
  obtain ⟨t, p, h⟩ := ha
  exact ⟨_, pss_one p, h⟩
theorem ds_if {c : Expr} {a b : List Stmt} {t : TM} {ma mb : SM} {pos : Pos} (hc : DT X E c t) (ha : DSs X E a ma) (hb : DSs X E b mb) : DS X E (.If c a b pos) (sIf t ma mb) := by
  obtain ⟨tc, pc, hc⟩ := hc
  obtain ⟨ta, pa, ha⟩ := ha
  obtain ⟨tb, pb, hb⟩ := hb
  refine ⟨_, ps_if pc pa pb, ?_⟩
  intro B F H σ Γ De r g
  refine hc.raw r g ?_
  intro b Γ1 F1 H1 r1 s1 g1
  cases b with
  | true => exact ha B F1 H1 σ Γ1 De r1 (Res.good.mono g1 (fun o z => mono_sub z s1) fun _ _ z => z)
  | false => exact hb B F1 H1 σ Γ1 De r1 (Res.good.mono g1 (fun o z => mono_sub z s1) fun _ _ z => z)
/-- slots that nobody reads any more -/
def sFor (mi : IM) (b : BM) (body : SM) (tmp : List Nat) : SM := fun Γ => (mi Γ).bind fun p => forGo b body tmp p.1 p.2
where
  forGo (b : BM) (body : SM) (tmp : List Nat) : List D → SM
    | [], Γ => .ok (.nx Γ)
    | d :: ds, Γ => (b d Γ).noEr.bind fun Γ1 => (body Γ1).bind fun o => match o with
      | .nx g => forGo b body tmp ds (wipeG g tmp)
      | .ct g => forGo b body tmp ds (wipeG g tmp)
      | .bk g => .ok (.nx g)
      | .rt r g => .ok (.rt r g)
theorem ds_for {tg iter : Expr} {body : List Stmt} {js : List Nat} {mi : IM} {b : BM} {mb : SM} {pos : Pos} (tmp : List Nat) (hi : DI X E tg iter mi) (hg : DG X tg js b) (hb : DSs X E body mb) (hp : PassesOwn (model X.prog X.w) X.A X.env X.xe) (hc : X.calm = true)
    (hs : ∀ x, foldedSetIterable iter X.env x = pure x := by intro _; rfl) : DS X E (.For tg iter body [] pos) (sFor mi b mb tmp) := by
  obtain ⟨wi, pi, hi⟩ := hi
  obtain ⟨t, pb, hb⟩ := hb
  refine ⟨_, ps_for hp hc pi hg.pg pb hs, ?_⟩
  intro B F H σ Γ De r gd
  unfold sFor at gd
  rw [Res.good_bind] at gd
  refine hi B F H σ Γ _ r (gd.mono ?_ fun _ _ z => z)
  intro p gp J F1 H1 r1 s1 ok
  let W : Nat → Nat → L2.St → Hp → Prop := fun i m σ H => m = p.1.length - i ∧ i ≤ p.1.length ∧ ∃ F2 Γ2, Rel B X.K F2 H σ Γ2 ∧ Sub F1 F2 ∧ (sFor.forGo b mb tmp (p.1.drop i) Γ2).good (OutOk B X.K F De) (XPx X B F E)
  refine ⟨W, ⟨p.1.length, by simp, Nat.zero_le _, F1, p.2, r1, Sub.refl _, gp⟩, ?_⟩
  rintro i m σ2 H2 ⟨rfl, hi', F2, Γ2, r2, s2, g2⟩
  have hit := ok F2 H2 s2 r2.fh i
  by_cases hlt : i < p.1.length
  · obtain ⟨d, hd⟩ : ∃ d, p.1[i]? = some d := ⟨_, List.getElem?_eq_getElem hlt⟩
    obtain ⟨go, yl⟩ := hit.1 d hd
    have hdrop : p.1.drop i = d :: p.1.drop (i + 1) := by
      rw [List.drop_eq_getElem_cons hlt]
      rw [List.getElem?_eq_getElem hlt] at hd
      cases hd
      rfl
    rw [hdrop] at g2
    unfold sFor.forGo at g2
    have g3 := Res.noEr_good g2
    refine .inr ⟨go, fun σ' H' => W (i + 1) (p.1.length - (i + 1)) σ' H', fun σ' H' w => ⟨_, by omega, w⟩, ?_⟩
    intro x H3 hy
    obtain ⟨F3, gr, rx⟩ := yl x H3 hy
    have r3 := r2.grow gr
    refine ⟨_, F3, Γ2, d, r3, rx, g3.mono ?_ fun _ _ z => z⟩
    intro Γ3 g4 σ4 r4 ag
    rw [Res.good_bind] at g4
    have sF : Sub F F3 := s1.trans (s2.trans gr.ff)
    refine hb B F3 H3 σ4 Γ3 _ r4 (g4.mono ?_ fun _ _ z => z.mono sF)
    intro o ho
    cases o with
    | nx g' => exact fun σ' F' H' r' s' => ⟨rfl, hlt, F', wipeG g' tmp, r'.weak (weak_wipeG g' tmp), s2.trans (gr.ff.trans s'), ho⟩
    | ct g' => exact fun σ' F' H' r' s' => ⟨rfl, hlt, F', wipeG g' tmp, r'.weak (weak_wipeG g' tmp), s2.trans (gr.ff.trans s'), ho⟩
    | bk g' => exact fun σ' F' H' r' s' => ho σ' F' H' r' (sF.trans s')
    | rt q g' => exact fun v σ' F' H' r' s' => ho v σ' F' H' r' (sF.trans s')
  · have he : i = p.1.length := by omega
    subst he
    rw [List.drop_length] at g2
    exact .inl ⟨hit.2 (Nat.le_refl _), g2 σ2 F2 H2 r2 (s1.trans s2)⟩
/-- while, at most so many turns -/
def sWhile (n : Nat) (t : TM) (body : SM) (tmp : List Nat) : SM := whGo t body tmp n
where
  whGo (t : TM) (body : SM) (tmp : List Nat) : Nat → SM
    | 0, _ => .no
    | n + 1, Γ => (t Γ).bind fun p => if p.1 = true then (body p.2).bind fun o => match o with
      | .nx g => whGo t body tmp n (wipeG g tmp)
      | .ct g => whGo t body tmp n (wipeG g tmp)
      | .bk g => .ok (.nx g)
      | .rt r g => .ok (.rt r g)
      else .ok (.nx p.2)
theorem ds_while {c : Expr} {body : List Stmt} {t : TM} {mb : SM} {pos : Pos} (n : Nat) (tmp : List Nat) (hc : DT X E c t) (hb : DSs X E body mb) (hp : PassesOwn (model X.prog X.w) X.A X.env X.xe) : DS X E (.While c body [] pos) (sWhile n t mb tmp) := by
  obtain ⟨tc, pc, hc⟩ := hc
  obtain ⟨tb, pb, hb⟩ := hb
  refine ⟨_, ps_while hp pc pb, ?_⟩
  intro B F H σ Γ De r gd
  let W : Nat → L2.St → Hp → Prop := fun m σ H => ∃ F2 Γ2, Rel B X.K F2 H σ Γ2 ∧ Sub F F2 ∧ (sWhile.whGo t mb tmp m Γ2).good (OutOk B X.K F De) (XPx X B F E)
  refine ⟨W, ⟨n, F, Γ, r, Sub.refl _, gd⟩, ?_⟩
  rintro m σ2 H2 ⟨F2, Γ2, r2, s2, g2⟩
  cases m with
  | zero => exact g2.elim
  | succ m =>
    unfold sWhile.whGo at g2
    rw [Res.good_bind] at g2
    refine hc B F2 H2 σ2 Γ2 _ r2 (g2.mono ?_ fun _ _ z => z.mono s2)
    intro q g3 F3 H3 r3 s3
    by_cases hq : q.1 = true
    · rw [if_pos hq] at g3 ⊢
      rw [Res.good_bind] at g3
      have sF : Sub F F3 := s2.trans s3
      refine ⟨fun σ' H' => W m σ' H', fun σ' H' w => ⟨m, Nat.lt_succ_self m, w⟩, hb B F3 H3 σ2 q.2 _ r3 (g3.mono ?_ fun _ _ z => z.mono sF)⟩
      intro o ho
      cases o with
      | nx g' => exact fun σ' F' H' r' s' => ⟨F', wipeG g' tmp, r'.weak (weak_wipeG g' tmp), sF.trans s', ho⟩
      | ct g' => exact fun σ' F' H' r' s' => ⟨F', wipeG g' tmp, r'.weak (weak_wipeG g' tmp), sF.trans s', ho⟩
      | bk g' => exact fun σ' F' H' r' s' => ho σ' F' H' r' (sF.trans s')
      | rt q g' => exact fun v σ' F' H' r' s' => ho v σ' F' H' r' (sF.trans s')
    · rw [if_neg hq] at g3 ⊢
      exact g3 σ2 F3 H3 r3 (s2.trans s3)
end
end Fw

namespace Fw
open PySem L2 PySem.Spec PyProof.Rows

/-! ## owned lists that change -/
section
open AutoSeq1 (wpAny_loadPart')
theorem exL (l : Addr) (items : Array Value) (n : Nat) (b : Addr) (items2 : Array Value) (n2 : Nat) (dd : Option Addr) (sl : Array (Option Value)) (h0 : ¬(!items.isEmpty && Builtin.List.listTooLong (items.size + items2.size)) = true) (h1 : items.size ≤ sizeLine) (h2 : items.size + items2.size ≤ sizeLine + 1) :
    Meets (Builtin.«list.extend» ⟨[.ref l, .ref b], []⟩) (fun _ R s => s.heap.get? l = some { cls := .type "list", data := .seq items n } ∧ s.heap.get? b = some { cls := .type "list", dict := dd, data := .seq items2 n2, slots := sl } ∧
      R (.ok (.ret Value.none)) { s with heap := s.heap.update l (Obj.mapSeq fun x => x ++ items2), toks := s.toks }) := by
  refine .of_wp ?_
  rintro prog w A R ⟨hp, g, d, tk, os⟩ ⟨hl, hb, h⟩
  have q1 := AutoSeq1.idx_int
  have q2 := AutoSeq1.sub_tuple_tuple
  have q3 := AutoSeq1.sub_list_list
  have q4 := AutoSeq1.sub_tuple_list
  have q5 := AutoSeq1.sub_list_tuple
  have hz : (items ++ items2).size ≤ sizeLine + 1 := by rw [Array.size_append]; exact h2
  wp_walk using (wpAny_updateSeq hl rfl (hz := h1) (_hz' := hz)), wpAny_loadPart' hl, wpAny_loadPart' hb
  exact ⟨_, rfl, h⟩
theorem exT (l : Addr) (items : Array Value) (n : Nat) (b : Addr) (items2 : Array Value) (n2 : Nat) (dd : Option Addr) (sl : Array (Option Value)) (h0 : ¬(!items.isEmpty && Builtin.List.listTooLong (items.size + items2.size)) = true) (h1 : items.size ≤ sizeLine) (h2 : items.size + items2.size ≤ sizeLine + 1) :
    Meets (Builtin.«list.extend» ⟨[.ref l, .ref b], []⟩) (fun _ R s => s.heap.get? l = some { cls := .type "list", data := .seq items n } ∧ s.heap.get? b = some { cls := .type "tuple", dict := dd, data := .seq items2 n2, slots := sl } ∧
      R (.ok (.ret Value.none)) { s with heap := s.heap.update l (Obj.mapSeq fun x => x ++ items2), toks := s.toks }) := by
  refine .of_wp ?_
  rintro prog w A R ⟨hp, g, d, tk, os⟩ ⟨hl, hb, h⟩
  have q1 := AutoSeq1.idx_int
  have q2 := AutoSeq1.sub_tuple_tuple
  have q3 := AutoSeq1.sub_list_list
  have q4 := AutoSeq1.sub_tuple_list
  have q5 := AutoSeq1.sub_list_tuple
  have hz : (items ++ items2).size ≤ sizeLine + 1 := by rw [Array.size_append]; exact h2
  wp_walk using (wpAny_updateSeq hl rfl (hz := h1) (_hz' := hz)), wpAny_loadPart' hl, wpAny_loadPart' hb
  exact ⟨_, rfl, h⟩
end
section
variable {X : Cx} {E : XK}
/-- a method of a list that changes it: xs the items, ds the arguments; what it tells, the items behind -/
def mD (K : PySem.W.Frag) (f : List D → List D → Option (D × List D)) : V → List V → Hp → VK → Prop := fun x vs H Q => ∃ l xs F items ds r items', x = .ref l ∧ H l = some (.lst xs) ∧ Sub F H ∧ F l = none ∧ RpAll K F xs items ∧ RpAll K F vs ds ∧
  f items ds = some (r, items') ∧ ∀ z ys, Rp K F z r → RpAll K F ys items' → Q z (upd H l (.lst ys))
def mAppend : List D → List D → Option (D × List D)
  | xs, [d] => if xs.length < lim then some (.none, xs ++ [d]) else none
  | _, _ => none
def mExtend : List D → List D → Option (D × List D)
  | xs, [.list ds] => if xs.length + ds.length ≤ lim then some (.none, xs ++ ds) else none
  | xs, [.tuple ds] => if xs.length + ds.length ≤ lim then some (.none, xs ++ ds) else none
  | _, _ => none
def mPop : List D → List D → Option (D × List D)
  | xs, [] => match xs.getLast? with
    | some d => some (d, xs.dropLast)
    | none => none
  | _, _ => none
theorem mt_appendD : MtM X "list.append" (mD X.K mAppend) := by
  intro pins s σ H x vs v us Q I rx rv ⟨l, xs, F, items, ds, r, items', ex, hl, sb, fl, ra, rd, e, q⟩
  refine mt_append pins s σ H x vs v us Q I rx rv ?_
  unfold mAppend at e
  split at e
  · split at e
    · rename_i hlen
      cases e
      cases rd with
      | cons rd t =>
        cases t
        exact ⟨l, xs, _, ex, rfl, hl, by rw [ra.length]; exact Nat.lt_of_lt_of_le hlen (by decide), q _ _ .non (ra.append (.cons rd .nil))⟩
    · cases e
  · cases e
theorem mt_extendD : MtM X "list.extend" (mD X.K mExtend) := by
  intro pins s σ H x vs v us Q I rx rv ⟨l, xs, F, items, ds, r, items', ex, hl, sb, fl, ra, rd, e, q⟩
  subst ex
  cases rx
  have fin : ∀ {its zs : List Value} {n : Nat} {ys : List V} {es : List D}, Vals xs its → s.heap.get? l = some { cls := .type "list", data := .seq its.toArray n } → Vals ys zs → RpAll X.K F ys es → items.length + es.length ≤ lim →
      (∀ z ys, Rp X.K F z PyData.none → RpAll X.K F ys (items ++ es) → Q z (upd H l (.lst ys))) → EP X pins σ Q Value.none { s with heap := s.heap.update l (Obj.mapSeq fun x => x ++ zs.toArray), toks := s.toks } := by
    intro its zs n ys es rv1 ho rv2 r2 hlen q
    refine ⟨.non, _, I.lset (its' := its ++ zs) hl ho (by simp) (rv1.append rv2) ?_, rfl, q _ _ .non (ra.append r2)⟩
    rw [List.length_append, ra.length, r2.length]
    exact lim_le hlen
  obtain ⟨z, its, n, r1, hlen1, e1⟩ := I.lstM hl
  unfold mExtend at e
  split at e
  · split at e
    · rename_i es hlen
      cases e
      cases rd with
      | cons rd t =>
        cases t
        obtain ⟨b, ys, e2, h2, p2⟩ := rd.lstv
        subst e2
        obtain ⟨u, e3, ru⟩ := vals1 rv
        subst e3
        cases ru
        obtain ⟨zs, rz, ⟨⟨cls, dd, data, sl⟩, m, ho, hc, _, hd⟩, _⟩ := I.list (sb.l h2)
        simp only at hc hd
        subst hc hd
        have a1 := ra.length
        have a2 := p2.length
        have a3 := rz.length
        have hsz : its.toArray.size + zs.toArray.size ≤ sizeLine := by rw [List.size_toArray, List.size_toArray, ← hlen1, ← a3, a1, a2]; exact lim_le hlen
        exact call_meets PySem.F.slot_list_extend ⟨_, e1, rfl⟩ PySem.F.entry_list_extend (PySem.F.args_list_extend_2 _ _)
          (exL l its.toArray n b zs.toArray m dd sl (by rw [notLongL hsz, Bool.and_false]; exact Bool.false_ne_true) (by rw [List.size_toArray, ← hlen1]; exact z) (by omega)) ⟨e1, ho, fin r1 e1 rz p2 hlen q⟩
    · cases e
  · split at e
    · rename_i es hlen
      cases e
      cases rd with
      | cons rd t =>
        cases t
        obtain ⟨b, ys, e2, h2, p2⟩ := rd.tupv
        subst e2
        obtain ⟨u, e3, ru⟩ := vals1 rv
        subst e3
        cases ru
        obtain ⟨zs, rz, ⟨⟨cls, dd, data, sl⟩, ho, hc, m, hd⟩, _⟩ := I.tuple (sb.t h2)
        simp only at hc hd
        subst hc hd
        have a1 := ra.length
        have a2 := p2.length
        have a3 := rz.length
        have hsz : its.toArray.size + zs.toArray.size ≤ sizeLine := by rw [List.size_toArray, List.size_toArray, ← hlen1, ← a3, a1, a2]; exact lim_le hlen
        exact call_meets PySem.F.slot_list_extend ⟨_, e1, rfl⟩ PySem.F.entry_list_extend (PySem.F.args_list_extend_2 _ _)
          (exT l its.toArray n b zs.toArray m dd sl (by rw [notLongL hsz, Bool.and_false]; exact Bool.false_ne_true) (by rw [List.size_toArray, ← hlen1]; exact z) (by omega)) ⟨e1, ho, fin r1 e1 rz p2 hlen q⟩
    · cases e
  · cases e
theorem mt_popD : MtM X "list.pop" (mD X.K mPop) := by
  intro pins s σ H x vs v us Q I rx rv ⟨l, xs, F, items, ds, r, items', ex, hl, sb, fl, ra, rd, e, q⟩
  refine mt_pop pins s σ H x vs v us Q I rx rv ?_
  unfold mPop at e
  split at e
  · split at e
    · rename_i d hd
      cases e
      cases rd
      rw [List.getLast?_eq_getElem?] at hd
      obtain ⟨w, h1, h2⟩ := ra.get hd
      have hx : xs.dropLast = xs.take (items.length - 1) := by rw [List.dropLast_eq_take, ra.length]
      refine ⟨l, xs, w, ex, rfl, hl, by rw [ra.length]; exact h1, q _ _ h2 ?_⟩
      rw [hx, List.dropLast_eq_take]
      exact ra.take _
    · cases e
  · cases e
end
/-- the slot's list, owned or lent -/
def lstAt (Γ : Gm) (i : Nat) : Option (List D) := match Γ[i]? with
  | some (.ow (.lst xs)) => some xs
  | some (.io (.lst xs)) => some xs
  | _ => none
def setLst (Γ : Gm) (i : Nat) (xs : List D) : Gm := match Γ[i]? with
  | some (.io _) => Γ.set i (.io (.lst xs))
  | _ => Γ.set i (.ow (.lst xs))
def eMut (f : List D → List D → Option (D × List D)) (i : Nat) (ms : AM) : EM := fun Γ => match lstAt Γ i with
  | none => .no
  | some _ => (ms Γ).bind fun p => match lstAt p.2 i with
    | none => .no
    | some xs => match f xs p.1 with
      | some q => .ok (.fro q.1, setLst p.2 i q.2)
      | none => .no
section
variable {B : Bd} {K : PySem.W.Frag} {F H : Hp} {σ : L2.St} {Γ : Gm}
theorem Rel.lst (r : Rel B K F H σ Γ) {i : Nat} {xs : List D} (h : lstAt Γ i = some xs) : ∃ a vs, σ[i]? = some (some (.ref a)) ∧ H a = some (.lst vs) ∧ RpAll K F vs xs ∧ F a = none ∧ Owns σ Γ i a := by
  have go : ∀ {sv : SV}, Γ[i]? = some sv → sv.owned = true → (∃ a, σ.getD i none = some (.ref a) ∧ CellAt K F H a (.lst xs)) → ∃ a vs, σ[i]? = some (some (.ref a)) ∧ H a = some (.lst vs) ∧ RpAll K F vs xs ∧ F a = none ∧ Owns σ Γ i a := by
    rintro sv e o ⟨a, ea, vs, h1, h2⟩
    have hs : σ[i]? = some (some (.ref a)) := by
      rw [List.getD_eq_getElem?_getD] at ea
      cases q : σ[i]? with
      | none => rw [q] at ea; cases ea
      | some w => rw [q] at ea; exact congrArg some ea
    have ow : Owns σ Γ i a := ⟨⟨sv, e, o⟩, hs⟩
    exact ⟨a, vs, hs, h1, h2, (r.ofr i a ow).1, ow⟩
  unfold lstAt at h
  split at h
  · rename_i e
    cases h
    obtain ⟨a, e1, q⟩ := r.sl i _ e
    exact go e rfl ⟨a, e1, q⟩
  · rename_i e
    cases h
    obtain ⟨a, _, e1, q⟩ := r.sl i _ e
    exact go e rfl ⟨a, e1, q⟩
  · cases h
/-- an owned object changes -/
theorem Rel.mut (r : Rel B K F H σ Γ) {i : Nat} {a : Addr} {o : HO} {sv sv' : SV} (hi : Γ[i]? = some sv) (ho : sv.owned = true) (hs : σ[i]? = some (some (.ref a)))
    (hn : SlotOk K F (upd H a o) (B.π.getD i none) (some (.ref a)) sv') (ho' : sv'.owned = true) : Rel B K F (upd H a o) σ (Γ.set i sv') := by
  have ow : Owns σ Γ i a := ⟨⟨sv, hi, ho⟩, hs⟩
  obtain ⟨hF, hU⟩ := r.ofr i a ow
  have hlen : i < Γ.length := (List.getElem?_eq_some_iff.mp hi).1
  have own : ∀ {j b}, Owns σ (Γ.set i sv') j b → Owns σ Γ j b := by
    rintro j b ⟨⟨w, e, o2⟩, e2⟩
    by_cases hj : j = i
    · subst hj
      exact ⟨⟨sv, hi, ho⟩, e2⟩
    · rw [List.getElem?_set_ne (fun z => hj z.symm)] at e
      exact ⟨⟨w, e, o2⟩, e2⟩
  refine ⟨r.lσ, by rw [List.length_set]; exact r.lΓ, ?_, ?_, r.f0, r.nw, ?_, fun j k b h1 h2 => r.inj j k b (own h1) (own h2), fun j b h => r.ofr j b (own h)⟩
  · intro b u e
    rw [upd_ne (fun z => by subst z; rw [hU] at e; cases e)]
    exact r.uh b u e
  · intro b u e
    rw [upd_ne (ne_of_none e hF)]
    exact r.fh b u e
  · intro j w e
    by_cases hj : j = i
    · subst hj
      rw [List.getElem?_set_self hlen] at e
      cases e
      have e3 : σ.getD j none = some (.ref a) := by rw [List.getD_eq_getElem?_getD, hs]; rfl
      rw [e3]
      exact hn
    · rw [List.getElem?_set_ne (fun z => hj z.symm)] at e
      refine (r.sl j w e).mono (Sub.refl _) fun o2 b eb => upd_ne fun z => ?_
      subst z
      have hb : σ[j]? = some (some (.ref b)) := by
        rw [List.getD_eq_getElem?_getD] at eb
        cases q : σ[j]? with
        | none => rw [q] at eb; cases eb
        | some w => rw [q] at eb; exact congrArg some eb
      exact hj (r.inj j i b ⟨⟨w, e, o2⟩, hb⟩ ow)
theorem Rel.setLst (r : Rel B K F H σ Γ) {i : Nat} {xs ys : List D} {a : Addr} {ws : List V} (h : lstAt Γ i = some xs) (hs : σ[i]? = some (some (.ref a))) (rp : RpAll K F ws ys) : Rel B K F (upd H a (.lst ws)) σ (setLst Γ i ys) := by
  unfold lstAt at h
  unfold Fw.setLst
  split at h
  · rename_i e
    rw [e]
    exact r.mut e rfl hs ⟨a, rfl, ws, upd_same, rp⟩ rfl
  · rename_i e
    rw [e]
    obtain ⟨b, e0, e1, q⟩ := r.sl i _ e
    have e3 : σ.getD i none = some (.ref a) := by rw [List.getD_eq_getElem?_getD, hs]; rfl
    rw [e3] at e1
    cases e1
    exact r.mut e rfl hs ⟨a, e0, rfl, ws, upd_same, rp⟩ rfl
  · cases h
end
section
variable {X : Cx} {E : XK}
theorem Den.mut {t : TA} {n i : Nat} {f : List D → List D → Option (D × List D)} {ms : AM} (h : DenA X E n t ms) : Den X E (tBM X.K "list" (mD X.K f) (tVar i) t) (eMut f i ms) := by
  intro B F H σ Γ Q r g
  unfold eMut at g
  split at g
  · cases g
  · rename_i xs0 e0
    obtain ⟨a, vs0, hs, h0, _, _, _⟩ := r.lst e0
    refine ⟨.ref a, hs, .inl ⟨rfl, vs0, SqL.of h0⟩, h.raw r g ?_⟩
    intro vs ds Γ1 F1 H1 r1 s1 rps hl g1
    simp only at g1
    split at g1
    · cases g1
    · rename_i xs e1
      split at g1
      · rename_i q e2
        obtain ⟨b, ws, hs1, h1, h2, h3, _⟩ := r1.lst e1
        rw [hs] at hs1
        cases hs1
        refine ⟨a, ws, F1, xs, ds, q.1, q.2, rfl, h1, r1.fh, h3, h2, rps, e2, ?_⟩
        intro z ys rz ry
        exact g1 z F1 _ (r1.setLst e1 hs ry) s1 rz
      · cases g1
theorem de_mut {id : String} {f : List D → List D → Option (D × List D)} {i : Nat} {x name : Str} {e : Expr} {es : List Expr} {ms : AM} {p apos cpos : Pos} (slot : Slot "list" name id) (hty : typeOf (.builtin id) = pure (.type "method_descriptor")) (hm : MtM X id (mD X.K f))
    (ha : DA X E (e :: es) ms) (hN : X.N[i]? = some x := by rfl) (hv : Vis X.env.scope x := by first | exact Or.inl rfl | exact Or.inr (Or.inl rfl) | exact Or.inr (Or.inr rfl)) (hd : (x == ("__debug__" : Str)) = false := by decide)
    (hcd : (x == ("__classdict__" : Str)) = false := by decide) (hbase : attributeBase (.Name x p) name X.env (eval (.Name x p) X.env) = eval (.Name x p) X.env := by rfl)
    (hfew : ((backTo cpos (starEach (e :: es) X.env)).all (fun x => !x.1) && (backToKw cpos (keywordEach [] X.env)).all (fun x => x.1.isSome)
      && decide ((e :: es).length + ([] : List Keyword).length + (if ([] : List Keyword).isEmpty then 0 else 1) < 30)) = true := by rfl)
    (hline : (apos.endLine == cpos.line) = true := by rfl) (hs : starEach (e :: es) X.env = (false, eval e X.env) :: starEach es X.env := by rfl) (hplain : (backTo cpos (starEach es X.env)).any (·.1) = false := by rfl) :
    DE X E (.Call (.Attribute (.Name x p) name apos) (e :: es) [] cpos) (eMut f i ms) := by
  obtain ⟨t, pa, h⟩ := ha
  exact ⟨_, pe_bm PySem.F.plainAttrs_list slot hty hm (pe_var hN hv hd hcd) pa hbase hfew hline hs hplain, Den.mut h⟩
theorem de_mut0 {id : String} {f : List D → List D → Option (D × List D)} {i : Nat} {x name : Str} {p apos cpos : Pos} (slot : Slot "list" name id) (hty : typeOf (.builtin id) = pure (.type "method_descriptor")) (hm : MtM X id (mD X.K f))
    (hN : X.N[i]? = some x := by rfl) (hv : Vis X.env.scope x := by first | exact Or.inl rfl | exact Or.inr (Or.inl rfl) | exact Or.inr (Or.inr rfl)) (hd : (x == ("__debug__" : Str)) = false := by decide)
    (hcd : (x == ("__classdict__" : Str)) = false := by decide) (hbase : attributeBase (.Name x p) name X.env (eval (.Name x p) X.env) = eval (.Name x p) X.env := by rfl)
    (hline : (apos.endLine == cpos.line) = true := by rfl) : DE X E (.Call (.Attribute (.Name x p) name apos) [] [] cpos) (eMut f i aNil) := by
  refine ⟨_, pe_bm0 PySem.F.plainAttrs_list slot hty hm (pe_var hN hv hd hcd) hbase hline, ?_⟩
  have h : DenA X E 0 tNil aNil := fun B F H σ Γ Q r g => g [] F H r (Sub.refl _) .nil rfl
  intro B F H σ Γ Q r g
  exact Den.mut h B F H σ Γ Q r g
end
end Fw

namespace Fw
open PySem L2 PySem.Spec PyProof.Rows

/-! ## built-in names -/
theorem bt_len : bootBuiltins "len" = some (.builtin "len") := by decide +kernel
theorem bt_min : bootBuiltins "min" = some (.builtin "min") := by decide +kernel
theorem bt_max : bootBuiltins "max" = some (.builtin "max") := by decide +kernel
theorem bt_repr : bootBuiltins "repr" = some (.builtin "repr") := by decide +kernel
theorem bt_all : bootBuiltins "all" = some (.builtin "all") := by decide +kernel
theorem bt_any : bootBuiltins "any" = some (.builtin "any") := by decide +kernel
theorem bt_sum : bootBuiltins "sum" = some (.builtin "sum") := by decide +kernel
theorem bt_abs : bootBuiltins "abs" = some (.builtin "abs") := by decide +kernel
theorem bt_sorted : bootBuiltins "sorted" = some (.builtin "sorted") := by decide +kernel
theorem bt_isinstance : bootBuiltins "isinstance" = some (.builtin "isinstance") := by decide +kernel
theorem bt_str : bootBuiltins "str" = some (.type "str") := by decide +kernel
theorem bt_int : bootBuiltins "int" = some (.type "int") := by decide +kernel
theorem bt_bool : bootBuiltins "bool" = some (.type "bool") := by decide +kernel
theorem bt_tuple : bootBuiltins "tuple" = some (.type "tuple") := by decide +kernel
theorem bt_list : bootBuiltins "list" = some (.type "list") := by decide +kernel
theorem bt_dict : bootBuiltins "dict" = some (.type "dict") := by decide +kernel

/-! ## a def of the text, by its name -/
structure Hd (K : PySem.W.Frag) (mg : Str → Option Value) (name : Str) (ps : List Str) (st : Stmt) : Prop where
  ex : ∃ f fd, mg name = some (.ref f) ∧ Fun K name name st f fd ∧ Binds K fd ps []
structure GF (P : Program) (w : World) (K : PySem.W.Frag) (mg : Str → Option Value) (k : Nat) (name : Str) (ps : List Str) (m : Fn) : Prop where
  ex : ∃ f fd, mg name = some (.ref f) ∧ PySem.W.keepIn K (.ref f) = true ∧ Binds K fd ps [] ∧ ∀ base, GOk P w K mg base CX0 k f fd ps (sp0 K ps.length m)
section
variable {P : Program} {w : World} {K : PySem.W.Frag} {mg : Str → Option Value} {k : Nat} {name : Str} {ps N : List Str} {st : Stmt} {nl : Nat} {body : SM}
theorem GF.def0 (h : Hd K mg name ps st) (S : FnScope N ps (defScope st)) (hN : N.length = ps.length + nl)
    (hb : ∀ (base : Heap) (f : Addr) (cdv : Value) (A : Around) (outer : List PySem.Env) (s : Shared) (H : Hp) (E : XK), A.guards = some [] → Room k (A.deeper (envOfC name (defScope st) s.heap.objs.size f cdv)) →
      DSs (cxOf CX0 P w K mg base N name (defScope st) f cdv A outer s H E).nox E0 (defBody st) body) : GF P w K mg (k + 1) name ps (runFn nl body) := by
  obtain ⟨f, fd, h1, h2, h3⟩ := h.ex
  exact ⟨f, fd, h1, h2.kp, h3, fun base => GOk.def0 h2 S hN (hb base f)⟩
theorem GF.zero (h : Hd K mg name ps st) : GF P w K mg k name ps (fun _ => .no) := by
  obtain ⟨f, fd, h1, h2, h3⟩ := h.ex
  refine ⟨f, fd, h1, h2.kp, h3, fun base => GOk.none ?_⟩
  rintro vs H Q E ⟨_, B, F, Γ, _, _, z⟩
  exact z
theorem GF.mono {j : Nat} {m : Fn} (h : GF P w K mg j name ps m) (hj : j ≤ k) : GF P w K mg k name ps m := by
  obtain ⟨f, fd, h1, h2, h3, h4⟩ := h.ex
  exact ⟨f, fd, h1, h2, h3, fun base => (h4 base).mono hj⟩
end
section
variable {X : Cx} {E : XK}
theorem de_f {k : Nat} {ps : List Str} {m : Fn} {x : Str} {e : Expr} {es : List Expr} {ms : AM} {p pos : Pos} (G : GF X.prog X.w X.K X.mg k x ps m) (ha : DA X E (e :: es) ms)
    (hgd : X.A.guards = some []) (hr : Room k X.A) (hn : (e :: es).length = ps.length := by rfl) (hg : Gl X x := by rfl)
    (hdb : (x == ("__debug__" : Str)) = false := by decide) (he : starEach (e :: es) X.env = (false, eval e X.env) :: starEach es X.env := by rfl) (hpl : (backTo pos (starEach es X.env)).any (·.1) = false := by rfl) :
    DE X E (.Call (.Name x p) (e :: es) [] pos) (eFn m ms) := by
  obtain ⟨f, fd, h1, h2, h3, h4⟩ := G.ex
  exact de_fn (h4 _) ha hgd hr h3 h1 h2 hn hg hdb he hpl
theorem de_f0 {k : Nat} {ps : List Str} {m : Fn} {x : Str} {p pos : Pos} (G : GF X.prog X.w X.K X.mg k x ps m)
    (hgd : X.A.guards = some []) (hr : Room k X.A) (hn : 0 = ps.length := by rfl) (hg : Gl X x := by rfl) (hdb : (x == ("__debug__" : Str)) = false := by decide) : DE X E (.Call (.Name x p) [] [] pos) (eFn m aNil) := by
  obtain ⟨f, fd, h1, h2, h3, h4⟩ := G.ex
  exact de_fn0 (h4 _) hgd hr h3 h1 h2 hn hg hdb
end
theorem hd_mk {h : Heap} {K : PySem.W.Frag} {mg : Str → Option Value} {f : Addr} {x : Str} {st : Stmt} {ps : List Str} {oc : Value} {od an : Option Addr} {osl : Array (Option Value)} {kV doc pm cdv ct : Value}
    (b : ∀ (kV doc pm : Value) (an : Option Addr) (cdv ct : Value) (us : List Value), us.length = ps.length → bindArgs (PySem.W.fnOf x x (defArgs st) (defBody st) (defScope st) .none kV doc pm an cdv ct) ⟨us, []⟩ = pure (ps.zip us))
    (X : K.In h) (G : h.Ns mainGlobals mg) (a : PySem.W.nsIn K mainGlobals x = some (some (.ref f)))
    (l : K.lookup f = some ⟨oc, od, .func (PySem.W.fnOf x x (defArgs st) (defBody st) (defScope st) .none kV doc pm an cdv ct), osl⟩) (c : PySem.W.codeIn K cdv x = true) (k : PySem.W.keepIn K (.ref f) = true) : Hd K mg x ps st := by
  have F1 := fun_mk (st := st) l c k
  exact ⟨f, _, PySem.W.mg_of X G a, F1, F1.binds b⟩
/-! ## the law's end -/
/-- the law's own promise: for a script of at most 63 whole numbers it tells True -/
theorem law_end {P : Program} {w : World} {K : PySem.W.Frag} {mg : Str → Option Value} {m : Fn} (hm : ∀ ns : List Int, ns.length ≤ 63 → ∃ g, m [.d (.list (ns.map .int))] = .ok (.fro (.bool true), g)) (H : Hp) (a : Addr) (ns : List Int) (hl : ns.length ≤ 63) (hS : SqL K H a (ns.map V.int)) :
    sp0 K 1 m [.ref a] H (fun v _ => v = .bl true) fun _ _ _ => False := by
  have rp : ∀ ns : List Int, RpAll K H (ns.map V.int) (ns.map PyData.int) := by
    intro ns
    induction ns with
    | nil => exact .nil
    | cons n ns ih => exact .cons (.int n) ih
  have hr := rel_args (K := K) (Sub.refl H) (RpAll.cons (Rp.lst hS (rp ns)) RpAll.nil)
  refine ⟨rfl, _, H, _, hr, fun i a z => by simp at z, ?_⟩
  obtain ⟨g, e⟩ := hm ns hl
  show (m [.d (.list (ns.map .int))]).good _ _
  rw [e]
  intro v F' H' r' s' rr
  exact Rp.blv rr
theorem walk_fw {l : PySem.W.OpenLaw} {k : Nat} {q : Program} {loose : List Str} {XP : (Str → Option Value) → Heap → Prop} {YP : World → Heap → Prop} {d : DefRec} {K : Params → PySem.W.Frag} {x : Str} {m : Fn}
    (hn : l.most = some 63) (hdf : d.params.defaults = []) (hr : Room k callerA) (hY : ∀ (w : World) (h : Heap), YP w h → (K w.params).In h) (hx : d.name = x)
    (hm : ∀ ns : List Int, ns.length ≤ 63 → ∃ g, m [.d (.list (ns.map .int))] = .ok (.fro (.bool true), g)) {p : Str}
    (F : ∀ (w : World) (mg : Str → Option Value) (h : Heap), (K w.params).In h → h.Ns mainGlobals mg → GF l.prog w (K w.params) mg k x [p] m) :
    PySem.W.WalkO q loose XP YP l.row.toRowW d [] (fun f vs => PySem.call f vs) := by
  refine walk_g (n := 63) (k := k) (CX := fun _ => CX0) (sp := fun w => sp0 (K w.params) 1 m) (x := p) hn (by decide) hdf hr hY ?_ (fun _ _ _ _ _ z => z)
  intro w mg fa h KX G hmg
  refine ⟨fun H a ns hl _ hS => law_end (P := l.prog) (w := w) (mg := mg) hm H a ns hl hS, ?_⟩
  obtain ⟨f, fd, h1, h2, h3, h4⟩ := (F w mg h KX G).ex
  rw [hx, h1] at hmg
  cases hmg
  exact ⟨fd, h3, fun base _ _ => h4 base⟩
end Fw

namespace Fw
open PySem L2 PySem.Spec PyProof.Rows

/-! ## evaluation: from the left, nothing under a binder ahead of its value -/
def cnd {α : Type} (b : Bool) (x y : Unit → α) : α := if b = true then x () else y ()
@[simp] theorem cnd_true {α : Type} (x y : Unit → α) : cnd true x y = x () := rfl
@[simp] theorem cnd_false {α : Type} (x y : Unit → α) : cnd false x y = y () := rfl
def gAt : Gm → Nat → Option SV
  | [], _ => none
  | x :: _, 0 => some x
  | _ :: xs, n + 1 => gAt xs n
@[simp] theorem gAt_zero (x : SV) (xs : Gm) : gAt (x :: xs) 0 = some x := rfl
@[simp] theorem gAt_succ (x : SV) (xs : Gm) (n : Nat) : gAt (x :: xs) (n + 1) = gAt xs n := rfl
theorem gAt_eq : ∀ (Γ : Gm) (i : Nat), Γ[i]? = gAt Γ i
  | [], i => by simp [gAt]
  | x :: xs, 0 => rfl
  | x :: xs, i + 1 => by rw [List.getElem?_cons_succ]; exact gAt_eq xs i
def seqK (b : SM) : Out → Res Out
  | .nx g => b g
  | o => .ok o
@[simp] theorem seqK_nx (b : SM) (g : Gm) : seqK b (.nx g) = b g := rfl
@[simp] theorem seqK_rt (b : SM) (r : R) (g : Gm) : seqK b (.rt r g) = .ok (.rt r g) := rfl
@[simp] theorem seqK_bk (b : SM) (g : Gm) : seqK b (.bk g) = .ok (.bk g) := rfl
@[simp] theorem seqK_ct (b : SM) (g : Gm) : seqK b (.ct g) = .ok (.ct g) := rfl
def endK (n : Nat) : Out → Res (R × List SV)
  | .rt r g => .ok (r, outG n g)
  | .nx g => .ok (.fro .none, outG n g)
  | _ => .no
@[simp] theorem endK_rt (n : Nat) (r : R) (g : Gm) : endK n (.rt r g) = .ok (r, outG n g) := rfl
@[simp] theorem endK_nx (n : Nat) (g : Gm) : endK n (.nx g) = .ok (.fro .none, outG n g) := rfl
def slotV (Γ : Gm) (i : Nat) : Option SV → Res (R × Gm)
  | some (.d d) => .ok (.fro d, Γ)
  | some (.ow c) => .ok (.fro c.toD, Γ.set i (.d c.toD))
  | _ => .no
@[simp] theorem slotV_d (Γ : Gm) (i : Nat) (d : D) : slotV Γ i (some (.d d)) = .ok (.fro d, Γ) := rfl
@[simp] theorem slotV_ow (Γ : Gm) (i : Nat) (c : Cell) : slotV Γ i (some (.ow c)) = .ok (.fro c.toD, Γ.set i (.d c.toD)) := rfl
def slotM (Γ : Gm) (i : Nat) : Option SV → Res (R × Gm)
  | some (.d d) => .ok (.fro d, Γ)
  | some (.ow c) => .ok (.own c, Γ.set i .no)
  | _ => .no
@[simp] theorem slotM_d (Γ : Gm) (i : Nat) (d : D) : slotM Γ i (some (.d d)) = .ok (.fro d, Γ) := rfl
@[simp] theorem slotM_ow (Γ : Gm) (i : Nat) (c : Cell) : slotM Γ i (some (.ow c)) = .ok (.own c, Γ.set i .no) := rfl
def itemsK (g : Gm) : Option (List D) → Res (List D × Gm)
  | some ds => .ok (ds, g)
  | none => .no
@[simp] theorem itemsK_some (g : Gm) (ds : List D) : itemsK g (some ds) = .ok (ds, g) := rfl
section
variable {Γ : Gm} {d : D} {i : Nat}
@[simp] theorem dat_fro (d : D) : (R.fro d).dat = d := rfl
@[simp] theorem dat_lst (xs : List D) : (R.own (.lst xs)).dat = .list xs := rfl
@[simp] theorem sv_fro (d : D) : (R.fro d).sv = .d d := rfl
@[simp] theorem sv_own (c : Cell) : (R.own c).sv = .ow c := rfl
@[simp] theorem toD_lst (xs : List D) : (Cell.lst xs).toD = .list xs := rfl
@[simp] theorem eC_eq (d : D) (Γ : Gm) : eC d Γ = .ok (.fro d, Γ) := rfl
@[simp] theorem eVar_eq (i : Nat) (Γ : Gm) : eVar i Γ = slotV Γ i (gAt Γ i) := by
  rw [← gAt_eq]; rfl
@[simp] theorem eMove_eq (i : Nat) (Γ : Gm) : eMove i Γ = slotM Γ i (gAt Γ i) := by
  rw [← gAt_eq]; rfl
@[simp] theorem opd_eq {β : Type} (m : EM) (k : D → Gm → Res β) (Γ : Gm) : opd m k Γ = (m Γ).bind fun p => k p.1.dat p.2 := rfl
@[simp] theorem aNil_eq (Γ : Gm) : aNil Γ = .ok ([], Γ) := rfl
@[simp] theorem aCons_eq (m : EM) (ms : AM) (Γ : Gm) : aCons m ms Γ = (m Γ).bind fun p => (ms p.2).bind fun q => .ok (p.1.dat :: q.1, q.2) := rfl
@[simp] theorem eTup_eq (ms : AM) (Γ : Gm) : eTup ms Γ = (ms Γ).bind fun p => .ok (.fro (.tuple p.1), p.2) := rfl
@[simp] theorem eLst_eq (ms : AM) (Γ : Gm) : eLst ms Γ = (ms Γ).bind fun p => .ok (.own (.lst p.1), p.2) := rfl
@[simp] theorem eBin_eq (f : D → D → Res R) (ma mb : EM) (Γ : Gm) : eBin f ma mb Γ = (ma Γ).bind fun p => (mb p.2).bind fun q => lift (f p.1.dat q.1.dat) q.2 := rfl
@[simp] theorem eUn_eq (f : D → Res R) (ma : EM) (Γ : Gm) : eUn f ma Γ = (ma Γ).bind fun p => lift (f p.1.dat) p.2 := rfl
@[simp] theorem eCall_eq (f : List D → Res R) (ms : AM) (Γ : Gm) : eCall f ms Γ = (ms Γ).bind fun p => lift (f p.1) p.2 := rfl
@[simp] theorem one_eq (f : D → Res R) (a : D) : one f [a] = f a := rfl
@[simp] theorem two_eq (f : D → D → Res R) (a b : D) : two f [a, b] = f a b := rfl
@[simp] theorem eFn_eq (m : Fn) (ms : AM) (Γ : Gm) : eFn m ms Γ = (ms Γ).bind fun p => callRes (m (p.1.map .d)) p.2 := rfl
def strK (ms : AM) (f : List D → Res R) (Γ : Gm) : D → Res (R × Gm)
  | .str z => (ms Γ).bind fun p => lift (f (.str z :: p.1)) p.2
  | _ => .no
@[simp] theorem strK_str (ms : AM) (f : List D → Res R) (Γ : Gm) (z : Str) : strK ms f Γ (.str z) = (ms Γ).bind fun p => lift (f (.str z :: p.1)) p.2 := rfl
@[simp] theorem eMethS_eq (f : List D → Res R) (m : EM) (ms : AM) (Γ : Gm) : eMethS f m ms Γ = (m Γ).bind fun p => strK ms f p.2 p.1.dat := by
  rfl
@[simp] theorem tVal_eq (m : EM) (Γ : Gm) : tVal m Γ = (m Γ).bind fun p => truOf p.1.dat p.2 := rfl
@[simp] theorem tAndM_eq (ta tb : TM) (Γ : Gm) : tAndM ta tb Γ = (ta Γ).bind fun p => cnd p.1 (fun _ => tb p.2) (fun _ => .ok (false, p.2)) := rfl
@[simp] theorem tOrM_eq (ta tb : TM) (Γ : Gm) : tOrM ta tb Γ = (ta Γ).bind fun p => cnd p.1 (fun _ => .ok (true, p.2)) (fun _ => tb p.2) := rfl
@[simp] theorem tNotM_eq (ta : TM) (Γ : Gm) : tNotM ta Γ = (ta Γ).bind fun p => .ok (!p.1, p.2) := rfl
@[simp] theorem tYesM_eq (Γ : Gm) : tYesM Γ = .ok (true, Γ) := rfl
@[simp] theorem truOf_bool (b : Bool) (Γ : Gm) : truOf (.bool b) Γ = .ok (b, Γ) := rfl
@[simp] theorem truOf_int (b : Int) (Γ : Gm) : truOf (.int b) Γ = .ok (b != 0, Γ) := rfl
@[simp] theorem truOf_none (Γ : Gm) : truOf .none Γ = .ok (false, Γ) := rfl
@[simp] theorem truOf_list (xs : List D) (Γ : Gm) : truOf (.list xs) Γ = .ok (!xs.isEmpty, Γ) := rfl
@[simp] theorem truOf_tuple (xs : List D) (Γ : Gm) : truOf (.tuple xs) Γ = .ok (!xs.isEmpty, Γ) := rfl
@[simp] theorem eIf_eq (t : TM) (ma mb : EM) (Γ : Gm) : eIf t ma mb Γ = (t Γ).bind fun p => cnd p.1 (fun _ => ma p.2) (fun _ => mb p.2) := rfl
@[simp] theorem eAnd_eq (ma mb : EM) (Γ : Gm) : eAnd ma mb Γ = (ma Γ).bind fun q => (truOf q.1.dat q.2).bind fun p => cnd p.1 (fun _ => mb p.2) (fun _ => .ok (.fro q.1.dat, p.2)) := rfl
@[simp] theorem eOr_eq (ma mb : EM) (Γ : Gm) : eOr ma mb Γ = (ma Γ).bind fun q => (truOf q.1.dat q.2).bind fun p => cnd p.1 (fun _ => .ok (.fro q.1.dat, p.2)) (fun _ => mb p.2) := rfl
@[simp] theorem eNot_eq (ma : EM) (Γ : Gm) : eNot ma Γ = (ma Γ).bind fun q => (truOf q.1.dat q.2).bind fun p => .ok (.fro (.bool !p.1), p.2) := rfl
@[simp] theorem sRet_eq (m : EM) (Γ : Gm) : sRet m Γ = (m Γ).bind fun p => .ok (.rt p.1 p.2) := rfl
@[simp] theorem sRetN_eq (Γ : Gm) : sRetN Γ = .ok (.rt (.fro .none) Γ) := rfl
@[simp] theorem sSet_eq (i : Nat) (m : EM) (Γ : Gm) : sSet i m Γ = (m Γ).bind fun p => .ok (.nx (p.2.set i p.1.sv)) := rfl
@[simp] theorem sDrop_eq (m : EM) (Γ : Gm) : sDrop m Γ = (m Γ).bind fun p => .ok (.nx p.2) := rfl
@[simp] theorem sIf_eq (t : TM) (a b : SM) (Γ : Gm) : sIf t a b Γ = (t Γ).bind fun p => cnd p.1 (fun _ => a p.2) (fun _ => b p.2) := rfl
@[simp] theorem sNx_eq (Γ : Gm) : sNx Γ = .ok (.nx Γ) := rfl
@[simp] theorem sSeq_eq (a b : SM) (Γ : Gm) : sSeq a b Γ = (a Γ).bind (seqK b) := by
  rfl
@[simp] theorem runFn_eq (n : Nat) (b : SM) (Γ : Gm) : runFn n b Γ = (b (Γ ++ List.replicate n .no)).bind (endK Γ.length) := by
  rfl
@[simp] theorem pNone_eq (Γ : Gm) : pNone Γ = .ok (none, Γ) := rfl
@[simp] theorem wipeG_nil (Γ : Gm) : wipeG Γ [] = Γ := rfl
@[simp] theorem wipeG_cons (Γ : Gm) (v : Nat) (vs : List Nat) : wipeG Γ (v :: vs) = (wipeG Γ vs).set v .no := rfl
def backS (v : Nat) (g : Gm) : Option SV → Gm
  | some (.d d) => g.set v (.d d)
  | _ => g
@[simp] theorem backS_d (v : Nat) (g : Gm) (d : D) : backS v g (some (.d d)) = g.set v (.d d) := rfl
@[simp] theorem backS_no (v : Nat) (g : Gm) : backS v g (some .no) = g := rfl
@[simp] theorem backS_ow (v : Nat) (g : Gm) (c : Cell) : backS v g (some (.ow c)) = g := rfl
@[simp] theorem backS_io (v : Nat) (g : Gm) (c : Cell) : backS v g (some (.io c)) = g := rfl
@[simp] theorem backG_nil (Γ0 Γ : Gm) : backG Γ0 Γ [] = Γ := rfl
@[simp] theorem backG_cons (Γ0 Γ : Gm) (v : Nat) (vs : List Nat) : backG Γ0 Γ (v :: vs) = backS v (backG Γ0 Γ vs) (gAt Γ0 v) := by
  rw [← gAt_eq]
  show (match Γ0[v]? with | some (.d d) => (backG Γ0 Γ vs).set v (.d d) | _ => backG Γ0 Γ vs) = _
  unfold backS
  split <;> rfl
def partK (g : Gm) : D → Res (Option Int × Gm)
  | .int i => .ok (some i, g)
  | _ => .no
@[simp] theorem partK_int (g : Gm) (i : Int) : partK g (.int i) = .ok (some i, g) := rfl
@[simp] theorem pSome_eq (m : EM) (Γ : Gm) : pSome m Γ = (m Γ).bind fun p => partK p.2 p.1.dat := by
  rfl
@[simp] theorem eSl_eq (m : EM) (pl ph : PM) (Γ : Gm) : eSl m pl ph Γ = (m Γ).bind fun p => (pl p.2).bind fun l => (ph l.2).bind fun h => lift (dSl p.1.dat l.1 h.1) h.2 := rfl
@[simp] theorem sUnp_eq (js : List Nat) (m : EM) (Γ : Gm) : sUnp js m Γ = (m Γ).bind fun p => (bTup js p.1.dat p.2).noEr.bind fun g => .ok (.nx g) := rfl
@[simp] theorem bTup_eq (js : List Nat) (ds : List D) (Γ : Gm) : bTup js (.tuple ds) Γ = bNames js ds Γ := rfl
@[simp] theorem bNames_nil (Γ : Gm) : bNames [] [] Γ = .ok Γ := rfl
@[simp] theorem bNames_cons (j : Nat) (js : List Nat) (d : D) (ds : List D) (Γ : Gm) : bNames (j :: js) (d :: ds) Γ = bNames js ds (Γ.set j (.d d)) := rfl
@[simp] theorem bName_eq (j : Nat) (d : D) (Γ : Gm) : bName j d Γ = .ok (Γ.set j (.d d)) := rfl
@[simp] theorem iAny_eq (m : EM) (Γ : Gm) : iAny m Γ = (m Γ).bind fun p => itemsK p.2 (itemsD p.1.dat) := by
  rfl
@[simp] theorem items_list (xs : List D) : itemsD (.list xs) = some xs := rfl
@[simp] theorem items_tuple (xs : List D) : itemsD (.tuple xs) = some xs := rfl
@[simp] theorem items_str (z : Str) : itemsD (.str z) = some (strD z) := rfl
def mutK (f : List D → List D → Option (D × List D)) (i : Nat) (ms : AM) (Γ : Gm) : Option (List D) → Res (R × Gm)
  | none => .no
  | some _ => (ms Γ).bind fun p => match lstAt p.2 i with
    | none => .no
    | some xs => match f xs p.1 with
      | some q => .ok (.fro q.1, setLst p.2 i q.2)
      | none => .no
def mutK2 (f : List D → List D → Option (D × List D)) (i : Nat) (p : List D × Gm) : Option (List D) → Res (R × Gm)
  | none => .no
  | some xs => match f xs p.1 with
    | some q => .ok (.fro q.1, setLst p.2 i q.2)
    | none => .no
def mutK3 (i : Nat) (g : Gm) : Option (D × List D) → Res (R × Gm)
  | some q => .ok (.fro q.1, setLst g i q.2)
  | none => .no
@[simp] theorem eMut_eq (f : List D → List D → Option (D × List D)) (i : Nat) (ms : AM) (Γ : Gm) : eMut f i ms Γ = mutK f i ms Γ (lstAt Γ i) := by
  rfl
@[simp] theorem mutK_some (f : List D → List D → Option (D × List D)) (i : Nat) (ms : AM) (Γ : Gm) (xs : List D) : mutK f i ms Γ (some xs) = (ms Γ).bind fun p => mutK2 f i p (lstAt p.2 i) := by
  unfold mutK mutK2
  rfl
@[simp] theorem mutK2_some (f : List D → List D → Option (D × List D)) (i : Nat) (p : List D × Gm) (xs : List D) : mutK2 f i p (some xs) = mutK3 i p.2 (f xs p.1) := by
  unfold mutK2 mutK3
  rfl
@[simp] theorem mutK3_some (i : Nat) (g : Gm) (q : D × List D) : mutK3 i g (some q) = .ok (.fro q.1, setLst g i q.2) := rfl
def lstS : Option SV → Option (List D)
  | some (.ow (.lst xs)) => some xs
  | some (.io (.lst xs)) => some xs
  | _ => none
@[simp] theorem lstS_ow (xs : List D) : lstS (some (.ow (.lst xs))) = some xs := rfl
@[simp] theorem lstS_io (xs : List D) : lstS (some (.io (.lst xs))) = some xs := rfl
@[simp] theorem lstAt_eq (Γ : Gm) (i : Nat) : lstAt Γ i = lstS (gAt Γ i) := by rw [← gAt_eq]; rfl
def setS (Γ : Gm) (i : Nat) (xs : List D) : Option SV → Gm
  | some (.io _) => Γ.set i (.io (.lst xs))
  | _ => Γ.set i (.ow (.lst xs))
@[simp] theorem setS_ow (Γ : Gm) (i : Nat) (xs : List D) (c : Cell) : setS Γ i xs (some (.ow c)) = Γ.set i (.ow (.lst xs)) := rfl
@[simp] theorem setS_io (Γ : Gm) (i : Nat) (xs : List D) (c : Cell) : setS Γ i xs (some (.io c)) = Γ.set i (.io (.lst xs)) := rfl
@[simp] theorem setLst_eq (Γ : Gm) (i : Nat) (xs : List D) : setLst Γ i xs = setS Γ i xs (gAt Γ i) := by rw [← gAt_eq]; rfl
@[simp] theorem len_app (x y : Str) : (x ++ y).length = x.length + y.length := by
  show (x.cps ++ y.cps).size = _
  rw [Array.size_append]
  rfl
/-! operations -/
@[simp] theorem ll_1 : (Str.ofString "(").length = 1 := by decide
@[simp] theorem ll_2 : (Str.ofString ")").length = 1 := by decide
@[simp] theorem ll_3 : (Str.ofString ",").length = 1 := by decide
@[simp] theorem ll_4 : (Str.ofString "'").length = 1 := by decide
@[simp] theorem ll_5 : (Str.ofString " ").length = 1 := by decide
@[simp] theorem ll_6 : (Str.ofString "").length = 0 := by decide
@[simp] theorem add_ii (i j : Int) : dAdd (.int i) (.int j) = .ok (.fro (.int (i + j))) := rfl
@[simp] theorem add_ss {x y : Str} (h : x.length + y.length ≤ 16000000) : dAdd (.str x) (.str y) = .ok (.fro (.str (x ++ y))) := by simp [dAdd, h]
@[simp] theorem add_tt {x y : List D} (h : x.length + y.length ≤ 16000000) : dAdd (.tuple x) (.tuple y) = .ok (.fro (.tuple (x ++ y))) := by simp [dAdd, h]
@[simp] theorem add_ll {x y : List D} (h : x.length + y.length ≤ 16000000) : dAdd (.list x) (.list y) = .ok (.own (.lst (x ++ y))) := by simp [dAdd, h]
@[simp] theorem sub_ii (i j : Int) : dSub (.int i) (.int j) = .ok (.fro (.int (i - j))) := rfl
@[simp] theorem neg_i (i : Int) : dNeg (.int i) = .ok (.fro (.int (-i))) := rfl
theorem mul_ii {i j : Int} (h : (-(2 ^ 64) < i ∧ i < 2 ^ 64) ∨ (-(2 ^ 64) < j ∧ j < 2 ^ 64)) : dMul (.int i) (.int j) = .ok (.fro (.int (i * j))) := by simp only [dMul, if_pos h]; rfl
@[simp] theorem mul_ii1 {i j : Int} (h : -18446744073709551616 < i ∧ i < 18446744073709551616) : dMul (.int i) (.int j) = .ok (.fro (.int (i * j))) := mul_ii (.inl (by constructor <;> omega))
@[simp] theorem mul_ii2 {i j : Int} (h : -18446744073709551616 < j ∧ j < 18446744073709551616) : dMul (.int i) (.int j) = .ok (.fro (.int (i * j))) := mul_ii (.inr (by constructor <;> omega))
@[simp] theorem div_ii {i j : Int} (h : 0 < j ∧ j < 1073741824) : dDiv (.int i) (.int j) = .ok (.fro (.int (i / j))) := by simp only [dDiv, if_pos h]; rfl
@[simp] theorem mod_ii {i j : Int} (h : 0 < j) : dMod (.int i) (.int j) = .ok (.fro (.int (i % j))) := by simp only [dMod, if_pos h]; rfl
@[simp] theorem pow_ii {i j : Int} (h : 0 ≤ j ∧ j ≤ 1000000 ∧ i.natAbs < 18446744073709551616) : dPow (.int i) (.int j) = .ok (.fro (.int (i ^ j.toNat))) := by simp only [dPow, if_pos h]; rfl
@[simp] theorem shr_ii {i j : Int} (h : 0 ≤ j) : dShr (.int i) (.int j) = .ok (.fro (.int (i / 2 ^ j.toNat))) := by simp only [dShr, if_pos h]; rfl
@[simp] theorem lt_ii (i j : Int) : dLt (.int i) (.int j) = .ok (.fro (.bool (decide (i < j)))) := rfl
@[simp] theorem le_ii (i j : Int) : dLe (.int i) (.int j) = .ok (.fro (.bool (decide (i ≤ j)))) := rfl
@[simp] theorem gt_ii (i j : Int) : dGt (.int i) (.int j) = .ok (.fro (.bool (decide (j < i)))) := rfl
@[simp] theorem ge_ii (i j : Int) : dGe (.int i) (.int j) = .ok (.fro (.bool (decide (j ≤ i)))) := rfl
@[simp] theorem eq_ii (i j : Int) : dEq (.int i) (.int j) = .ok (.fro (.bool (decide (i = j)))) := rfl
@[simp] theorem eq_ss (i j : Str) : dEq (.str i) (.str j) = .ok (.fro (.bool (decide (i = j)))) := rfl
@[simp] theorem ne_ii (i j : Int) : dNe (.int i) (.int j) = .ok (.fro (.bool (!decide (i = j)))) := rfl
@[simp] theorem ne_ss (i j : Str) : dNe (.str i) (.str j) = .ok (.fro (.bool (!decide (i = j)))) := rfl
@[simp] theorem is_n (d : D) : dIs d .none = .ok (.fro (.bool (isNone d))) := rfl
@[simp] theorem isnot_n (d : D) : dIsNot d .none = .ok (.fro (.bool !(isNone d))) := rfl
@[simp] theorem isNone_none : isNone .none = true := rfl
@[simp] theorem isNone_str (x : Str) : isNone (.str x) = false := rfl
@[simp] theorem isNone_int (x : Int) : isNone (.int x) = false := rfl
@[simp] theorem isNone_tuple (x : List D) : isNone (.tuple x) = false := rfl
@[simp] theorem isNone_list (x : List D) : isNone (.list x) = false := rfl
theorem ixL {xs : List D} {i : Int} {d : D} (h : atI xs i = some d) : dIx (.list xs) (.int i) = .ok (.fro d) := by simp [dIx, h]
theorem ixT {xs : List D} {i : Int} {d : D} (h : atI xs i = some d) : dIx (.tuple xs) (.int i) = .ok (.fro d) := by simp [dIx, h]
theorem atI_in {α : Type} {xs : List α} {i : Int} (d : α) (h0 : 0 ≤ i) (h1 : i < xs.length) : atI xs i = some (xs.getD i.toNat d) := by
  have hn : i.toNat < xs.length := by omega
  have e : ((i.toNat : Nat) : Int) = i := Int.toNat_of_nonneg h0
  have q := atI_nat (j := i.toNat) (List.getElem?_eq_getElem hn)
  rw [e] at q
  rw [q, List.getD_eq_getElem?_getD, List.getElem?_eq_getElem hn]
  rfl
@[simp] theorem ix_l {xs : List D} {i : Int} (h : 0 ≤ i ∧ i < xs.length) : dIx (.list xs) (.int i) = .ok (.fro (xs.getD i.toNat .none)) := ixL (atI_in _ h.1 h.2)
@[simp] theorem ix_t {xs : List D} {i : Int} (h : 0 ≤ i ∧ i < xs.length) : dIx (.tuple xs) (.int i) = .ok (.fro (xs.getD i.toNat .none)) := ixT (atI_in _ h.1 h.2)
theorem getD_map {α β : Type} (f : α → β) (xs : List α) (n : Nat) (d : β) (e : α) (h : n < xs.length) : (xs.map f).getD n d = f (xs.getD n e) := by
  simp [List.getD_eq_getElem?_getD, List.getElem?_eq_getElem h]
@[simp 1100] theorem ix_li {xs : List Int} {i : Int} (h : 0 ≤ i ∧ i < xs.length) : dIx (.list (xs.map .int)) (.int i) = .ok (.fro (.int (xs.getD i.toNat 0))) := by
  rw [ix_l (by rw [List.length_map]; exact h), getD_map _ _ _ _ 0 (by omega)]
@[simp 1100] theorem ix_ls {xs : List Str} {i : Int} (h : 0 ≤ i ∧ i < xs.length) : dIx (.list (xs.map .str)) (.int i) = .ok (.fro (.str (xs.getD i.toNat ""))) := by
  rw [ix_l (by rw [List.length_map]; exact h)]
  exact congrArg (fun z => Res.ok (R.fro z)) (getD_map (PyData.str) xs _ .none "" (by omega))
@[simp] theorem len_l (xs : List D) : dLen (.list xs) = .ok (.fro (.int xs.length)) := rfl
@[simp] theorem len_t (xs : List D) : dLen (.tuple xs) = .ok (.fro (.int xs.length)) := rfl
@[simp] theorem len_s {z : Str} (h : z.length ≤ 16000000) : dLen (.str z) = .ok (.fro (.int z.length)) := by simp [dLen, h]
@[simp] theorem min_ii (i j : Int) : dMin (.int i) (.int j) = .ok (.fro (.int (min i j))) := by
  show Res.ok (R.fro (.int (if j < i then j else i))) = _
  rw [show (if j < i then j else i) = min i j by rw [Int.min_def]; split <;> split <;> omega]
@[simp] theorem max_ii (i j : Int) : dMax (.int i) (.int j) = .ok (.fro (.int (max i j))) := by
  show Res.ok (R.fro (.int (if j > i then j else i))) = _
  rw [show (if j > i then j else i) = max i j by rw [Int.max_def]; split <;> split <;> omega]
@[simp] theorem str_s (z : Str) : dStr (.str z) = .ok (.fro (.str z)) := rfl
@[simp] theorem str_i {i : Int} (h : i.natAbs.log2 < 1920) : dStr (.int i) = .ok (.fro (.str (toString i))) := by simp [dStr, h]
@[simp] theorem tup_l (xs : List D) : dTuple (.list xs) = .ok (.fro (.tuple xs)) := rfl
@[simp] theorem tup_t (xs : List D) : dTuple (.tuple xs) = .ok (.fro (.tuple xs)) := rfl
@[simp] theorem lst_l (xs : List D) : dList (.list xs) = .ok (.own (.lst xs)) := rfl
@[simp] theorem lst_t (xs : List D) : dList (.tuple xs) = .ok (.own (.lst xs)) := rfl
@[simp] theorem strsOf_map (ys : List Str) : strsOf (ys.map .str) = some ys := by
  induction ys with
  | nil => rfl
  | cons y ys ih => simp [strsOf, ih]
theorem join_l {z : Str} {xs : List D} {ys : List Str} (e : xs = ys.map .str) (h : (ys.map (·.length)).sum + ys.length * z.length ≤ 16000000) : dJoin (.str z) (.list xs) = .ok (.fro (.str (Txt.join z ys))) := by
  subst e
  simp only [dJoin, dJoinL, strsOf_map, if_pos h]
  rfl
theorem join_t {z : Str} {xs : List D} {ys : List Str} (e : xs = ys.map .str) (h : (ys.map (·.length)).sum + ys.length * z.length ≤ 16000000) : dJoin (.str z) (.tuple xs) = .ok (.fro (.str (Txt.join z ys))) := by
  subst e
  simp only [dJoin, dJoinL, strsOf_map, if_pos h]
  rfl
def jlen (z : Str) (ys : List Str) : Nat := (ys.map (·.length)).sum + ys.length * z.length
@[simp] theorem join_lf {α : Type} {z : Str} {vs : List α} {f : α → Str} (h : jlen z (vs.map f) ≤ 16000000) : dJoin (.str z) (.list (vs.map fun v => .str (f v))) = .ok (.fro (.str (Txt.join z (vs.map f)))) :=
  join_l (by rw [List.map_map]; rfl) h
@[simp] theorem join_tf {α : Type} {z : Str} {vs : List α} {f : α → Str} (h : jlen z (vs.map f) ≤ 16000000) : dJoin (.str z) (.tuple (vs.map fun v => .str (f v))) = .ok (.fro (.str (Txt.join z (vs.map f)))) :=
  join_t (by rw [List.map_map]; rfl) h
@[simp] theorem join_ls {z : Str} {ys : List Str} (h : jlen z ys ≤ 16000000) : dJoin (.str z) (.list (ys.map .str)) = .ok (.fro (.str (Txt.join z ys))) := join_l rfl h
@[simp] theorem join_ts {z : Str} {ys : List Str} (h : jlen z ys ≤ 16000000) : dJoin (.str z) (.tuple (ys.map .str)) = .ok (.fro (.str (Txt.join z ys))) := join_t rfl h
theorem repr_s {z : Str} (h : (reprText z).length ≤ 16000000) : dRepr (.str z) = .ok (.fro (.str (reprText z))) := by
  simp [dRepr, PyData.showable, PyData.hasDict, PyData.depth, PyData.shown, h]
@[simp] theorem isi_int_none  : dIsi "int" .none = .ok (.fro (.bool false)) := rfl
@[simp] theorem isi_int_bool (b : Bool) : dIsi "int" (.bool b) = .ok (.fro (.bool true)) := rfl
@[simp] theorem isi_int_int (b : Int) : dIsi "int" (.int b) = .ok (.fro (.bool true)) := rfl
@[simp] theorem isi_int_str (b : Str) : dIsi "int" (.str b) = .ok (.fro (.bool false)) := rfl
@[simp] theorem isi_int_list (b : List D) : dIsi "int" (.list b) = .ok (.fro (.bool false)) := rfl
@[simp] theorem isi_int_tuple (b : List D) : dIsi "int" (.tuple b) = .ok (.fro (.bool false)) := rfl
@[simp] theorem isi_int_dict (b : List (D × D)) : dIsi "int" (.dict b) = .ok (.fro (.bool false)) := rfl
@[simp] theorem isi_bool_none  : dIsi "bool" .none = .ok (.fro (.bool false)) := rfl
@[simp] theorem isi_bool_bool (b : Bool) : dIsi "bool" (.bool b) = .ok (.fro (.bool true)) := rfl
@[simp] theorem isi_bool_int (b : Int) : dIsi "bool" (.int b) = .ok (.fro (.bool false)) := rfl
@[simp] theorem isi_bool_str (b : Str) : dIsi "bool" (.str b) = .ok (.fro (.bool false)) := rfl
@[simp] theorem isi_bool_list (b : List D) : dIsi "bool" (.list b) = .ok (.fro (.bool false)) := rfl
@[simp] theorem isi_bool_tuple (b : List D) : dIsi "bool" (.tuple b) = .ok (.fro (.bool false)) := rfl
@[simp] theorem isi_bool_dict (b : List (D × D)) : dIsi "bool" (.dict b) = .ok (.fro (.bool false)) := rfl
@[simp] theorem isi_str_none  : dIsi "str" .none = .ok (.fro (.bool false)) := rfl
@[simp] theorem isi_str_bool (b : Bool) : dIsi "str" (.bool b) = .ok (.fro (.bool false)) := rfl
@[simp] theorem isi_str_int (b : Int) : dIsi "str" (.int b) = .ok (.fro (.bool false)) := rfl
@[simp] theorem isi_str_str (b : Str) : dIsi "str" (.str b) = .ok (.fro (.bool true)) := rfl
@[simp] theorem isi_str_list (b : List D) : dIsi "str" (.list b) = .ok (.fro (.bool false)) := rfl
@[simp] theorem isi_str_tuple (b : List D) : dIsi "str" (.tuple b) = .ok (.fro (.bool false)) := rfl
@[simp] theorem isi_str_dict (b : List (D × D)) : dIsi "str" (.dict b) = .ok (.fro (.bool false)) := rfl
@[simp] theorem isi_tuple_none  : dIsi "tuple" .none = .ok (.fro (.bool false)) := rfl
@[simp] theorem isi_tuple_bool (b : Bool) : dIsi "tuple" (.bool b) = .ok (.fro (.bool false)) := rfl
@[simp] theorem isi_tuple_int (b : Int) : dIsi "tuple" (.int b) = .ok (.fro (.bool false)) := rfl
@[simp] theorem isi_tuple_str (b : Str) : dIsi "tuple" (.str b) = .ok (.fro (.bool false)) := rfl
@[simp] theorem isi_tuple_list (b : List D) : dIsi "tuple" (.list b) = .ok (.fro (.bool false)) := rfl
@[simp] theorem isi_tuple_tuple (b : List D) : dIsi "tuple" (.tuple b) = .ok (.fro (.bool true)) := rfl
@[simp] theorem isi_tuple_dict (b : List (D × D)) : dIsi "tuple" (.dict b) = .ok (.fro (.bool false)) := rfl
@[simp] theorem isi_list_none  : dIsi "list" .none = .ok (.fro (.bool false)) := rfl
@[simp] theorem isi_list_bool (b : Bool) : dIsi "list" (.bool b) = .ok (.fro (.bool false)) := rfl
@[simp] theorem isi_list_int (b : Int) : dIsi "list" (.int b) = .ok (.fro (.bool false)) := rfl
@[simp] theorem isi_list_str (b : Str) : dIsi "list" (.str b) = .ok (.fro (.bool false)) := rfl
@[simp] theorem isi_list_list (b : List D) : dIsi "list" (.list b) = .ok (.fro (.bool true)) := rfl
@[simp] theorem isi_list_tuple (b : List D) : dIsi "list" (.tuple b) = .ok (.fro (.bool false)) := rfl
@[simp] theorem isi_list_dict (b : List (D × D)) : dIsi "list" (.dict b) = .ok (.fro (.bool false)) := rfl
@[simp] theorem isi_dict_none  : dIsi "dict" .none = .ok (.fro (.bool false)) := rfl
@[simp] theorem isi_dict_bool (b : Bool) : dIsi "dict" (.bool b) = .ok (.fro (.bool false)) := rfl
@[simp] theorem isi_dict_int (b : Int) : dIsi "dict" (.int b) = .ok (.fro (.bool false)) := rfl
@[simp] theorem isi_dict_str (b : Str) : dIsi "dict" (.str b) = .ok (.fro (.bool false)) := rfl
@[simp] theorem isi_dict_list (b : List D) : dIsi "dict" (.list b) = .ok (.fro (.bool false)) := rfl
@[simp] theorem isi_dict_tuple (b : List D) : dIsi "dict" (.tuple b) = .ok (.fro (.bool false)) := rfl
@[simp] theorem isi_dict_dict (b : List (D × D)) : dIsi "dict" (.dict b) = .ok (.fro (.bool true)) := rfl
end
/-- a comprehension whose element tells f of the item -/
theorem lcGo_map {α : Type} {g f : α → D} {b : BM} {tt : TM} {me : EM} {vs : List Nat} {Γ : Gm} : ∀ (xs : List α) (acc : List D),
    (∀ x ∈ xs, ∃ Γ1 Γ2 r, b (g x) Γ = .ok Γ1 ∧ tt Γ1 = .ok (true, Γ1) ∧ me Γ1 = .ok (r, Γ2) ∧ r.dat = f x ∧ wipeG Γ2 vs = Γ) → lcGo b tt me vs (xs.map g) Γ acc = .ok (acc ++ xs.map f, Γ)
  | [], acc, _ => by simp [lcGo]
  | x :: xs, acc, h => by
    obtain ⟨Γ1, Γ2, r, h1, h2, h3, h4, h5⟩ := h x (by simp)
    rw [List.map_cons]
    unfold lcGo
    simp only [h1, h2, h3, h4, h5, Res.noEr_ok, Res.bind_ok, if_true]
    rw [lcGo_map xs _ fun e he => h e (List.mem_cons_of_mem _ he)]
    simp
theorem eLc_map {α : Type} (xs : List α) (g f : α → D) {mi : IM} {b : BM} {tt : TM} {me : EM} {vs : List Nat} {Γ Γ1 : Gm} (hi : mi Γ = .ok (xs.map g, Γ1)) (hl : xs.length ≤ 16000000)
    (h : ∀ x ∈ xs, ∃ Γ2 Γ3 r, b (g x) (wipeG Γ1 vs) = .ok Γ2 ∧ tt Γ2 = .ok (true, Γ2) ∧ me Γ2 = .ok (r, Γ3) ∧ r.dat = f x ∧ wipeG Γ3 vs = wipeG Γ1 vs) :
    eLc mi b tt me vs Γ = .ok (.own (.lst (xs.map f)), backG Γ1 (wipeG Γ1 vs) vs) := by
  unfold eLc
  rw [hi]
  simp only [Res.bind_ok, List.length_map, if_pos (show xs.length ≤ lim from hl)]
  rw [lcGo_map xs [] h]
  simp
theorem iR1_eq {ms : AM} {Γ Γ1 : Gm} {n : Int} (h : ms Γ = .ok ([.int n], Γ1)) (h1 : n < 4611686018427387904 ∧ -4611686018427387904 ≤ n) : iR1 ms Γ = .ok ((List.range n.toNat).map (fun i => .int ((i : Nat) : Int)), Γ1) := by
  unfold iR1
  rw [h]
  simp only [Res.bind_ok]
  rw [if_pos ⟨by omega, by omega⟩]
  unfold rangeD
  simp
/-! loops -/
theorem forGo_inv {α : Type} {g : α → D} {b : BM} {body : SM} {tmp : List Nat} (I : Nat → Gm → Prop) {xs : List α} (h : ∀ i x Γ, xs[i]? = some x → I i Γ → ∃ Γ1 Γ2, b (g x) Γ = .ok Γ1 ∧ (body Γ1 = .ok (.nx Γ2) ∨ body Γ1 = .ok (.ct Γ2)) ∧ I (i + 1) (wipeG Γ2 tmp)) :
    ∀ (i : Nat) (Γ : Gm), i ≤ xs.length → I i Γ → ∃ Γ', sFor.forGo b body tmp ((xs.drop i).map g) Γ = .ok (.nx Γ') ∧ I xs.length Γ' := by
  intro i Γ hi hI
  induction hk : xs.length - i generalizing i Γ with
  | zero =>
    have e : i = xs.length := by omega
    subst e
    rw [List.drop_length]
    exact ⟨Γ, rfl, hI⟩
  | succ k ih =>
    have hlt : i < xs.length := by omega
    obtain ⟨Γ1, Γ2, h1, h2, h3⟩ := h i _ Γ (List.getElem?_eq_getElem hlt) hI
    obtain ⟨Γ', e, hJ⟩ := ih (i + 1) (wipeG Γ2 tmp) hlt h3 (by omega)
    refine ⟨Γ', ?_, hJ⟩
    rw [List.drop_eq_getElem_cons hlt, List.map_cons]
    unfold sFor.forGo
    rw [h1]
    simp only [Res.noEr_ok, Res.bind_ok]
    rcases h2 with h2 | h2 <;> rw [h2] <;> exact e
/-- a loop by its invariant -/
theorem sFor_inv {α : Type} (xs : List α) (g : α → D) (I : Nat → Gm → Prop) {mi : IM} {b : BM} {body : SM} {tmp : List Nat} {Γ Γ1 : Gm} (hi : mi Γ = .ok (xs.map g, Γ1)) (h0 : I 0 Γ1)
    (h : ∀ i x Γ, xs[i]? = some x → I i Γ → ∃ Γ1 Γ2, b (g x) Γ = .ok Γ1 ∧ (body Γ1 = .ok (.nx Γ2) ∨ body Γ1 = .ok (.ct Γ2)) ∧ I (i + 1) (wipeG Γ2 tmp)) : ∃ Γ', sFor mi b body tmp Γ = .ok (.nx Γ') ∧ I xs.length Γ' := by
  unfold sFor
  rw [hi]
  exact forGo_inv I h 0 Γ1 (Nat.zero_le _) h0

def Tells (x : Res (R × List SV)) (P : R → Prop) : Prop := ∃ r g, x = .ok (r, g) ∧ P r
@[simp] theorem tells_ok (r : R) (g : List SV) (P : R → Prop) : Tells (.ok (r, g)) P = P r := by
  refine propext ⟨?_, fun h => ⟨r, g, rfl, h⟩⟩
  rintro ⟨r', g', e, h⟩
  cases e
  exact h
theorem Tells.call {x : Res (R × List SV)} {P : R → Prop} (h : Tells x P) : ∃ r, (∀ Γ, callRes x Γ = .ok (r, Γ)) ∧ P r := by
  obtain ⟨r, g, e, h⟩ := h
  exact ⟨r, fun Γ => by rw [e]; rfl, h⟩
end Fw

namespace Fw
open PySem L2 PySem.Spec PyProof.Rows

/-! ## values of the program: whole numbers, texts, rows -/
inductive Val where
  | i (n : Int)
  | s (x : Str)
  | r (vs : List Val)
namespace Val
mutual
def toD : Val → D
  | .i n => .int n
  | .s x => .str x
  | .r vs => .tuple (toDs vs)
def toDs : List Val → List D
  | [] => []
  | v :: vs => toD v :: toDs vs
end
mutual
def stamp : Val → Str
  | .i n => toString n
  | .s x => "'" ++ x
  | .r vs => "(" ++ Txt.join "," (stamps vs) ++ ")"
def stamps : List Val → List Str
  | [] => []
  | v :: vs => stamp v :: stamps vs
end
mutual
def dep : Val → Nat
  | .i _ => 0
  | .s _ => 0
  | .r vs => 1 + deps vs
def deps : List Val → Nat
  | [] => 0
  | v :: vs => max (dep v) (deps vs)
end
mutual
/-- a bound of the stamp's signs -/
def wt : Val → Nat
  | .i n => (Str.ofString (toString n)).length
  | .s x => x.length + 1
  | .r vs => 2 + wts vs
def wts : List Val → Nat
  | [] => 0
  | v :: vs => wt v + 1 + wts vs
end
mutual
def Ok : Val → Prop
  | .i n => n.natAbs.log2 < 1920
  | .s _ => True
  | .r vs => Oks vs
def Oks : List Val → Prop
  | [] => True
  | v :: vs => Ok v ∧ Oks vs
end
@[simp] theorem toD_i (n : Int) : (Val.i n).toD = .int n := rfl
@[simp] theorem toD_s (n : Str) : (Val.s n).toD = .str n := rfl
@[simp] theorem stamp_i (n : Int) : (Val.i n).stamp = Str.ofString (toString n) := rfl
@[simp] theorem stamp_s (n : Str) : (Val.s n).stamp = "'" ++ n := rfl
@[simp] theorem toDs_eq : ∀ vs : List Val, toDs vs = vs.map toD
  | [] => rfl
  | v :: vs => by rw [toDs, toDs_eq vs]; rfl
@[simp] theorem stamps_eq : ∀ vs : List Val, stamps vs = vs.map stamp
  | [] => rfl
  | v :: vs => by rw [stamps, stamps_eq vs]; rfl
@[simp] theorem toD_r (vs : List Val) : (Val.r vs).toD = .tuple (vs.map toD) := by rw [toD, toDs_eq]
@[simp] theorem stamp_r (vs : List Val) : (Val.r vs).stamp = "(" ++ Txt.join "," (vs.map stamp) ++ ")" := by rw [stamp, stamps_eq]
theorem deps_le {vs : List Val} {v : Val} (h : v ∈ vs) : dep v ≤ deps vs := by
  induction vs with
  | nil => cases h
  | cons w vs ih =>
    unfold deps
    rcases List.mem_cons.mp h with e | h
    · subst e; omega
    · have := ih h; omega
theorem oks_mem {vs : List Val} {v : Val} (o : Oks vs) (h : v ∈ vs) : Ok v := by
  induction vs with
  | nil => cases h
  | cons w vs ih =>
    unfold Oks at o
    rcases List.mem_cons.mp h with e | h
    · subst e; exact o.1
    · exact ih o.2 h
theorem wts_mem {vs : List Val} {v : Val} (h : v ∈ vs) : wt v ≤ wts vs := by
  induction vs with
  | nil => cases h
  | cons w vs ih =>
    unfold wts
    rcases List.mem_cons.mp h with e | h
    · subst e; omega
    · have := ih h; omega
end Val
end Fw
namespace Fw
open PySem L2 PySem.Spec PyProof.Rows
theorem join_len (y : Str) : ∀ xs : List Str, (Str.join y xs).length ≤ (xs.map (·.length)).sum + xs.length * y.length
  | [] => Nat.zero_le _
  | [x] => by show x.length ≤ _; simp
  | x :: z :: r => by
    show (x ++ y ++ Str.join y (z :: r)).length ≤ _
    have ih := join_len y (z :: r)
    rw [len_app, len_app]
    simp only [List.map_cons, List.sum_cons, List.length_cons] at ih ⊢
    rw [Nat.succ_mul]
    omega
theorem txt_join (y : Str) (xs : List Str) : Txt.join y xs = Str.join y xs := TL.join_eq y xs
namespace Val
theorem sum_le {α : Type} (f g : α → Nat) (xs : List α) (h : ∀ x ∈ xs, f x ≤ g x) : (xs.map f).sum ≤ (xs.map g).sum := by
  induction xs with
  | nil => exact Nat.le_refl _
  | cons x xs ih =>
    have h1 := h x (by simp)
    have h2 := ih fun y hy => h y (List.mem_cons_of_mem _ hy)
    simp only [List.map_cons, List.sum_cons]
    omega
theorem wts_eq (vs : List Val) : wts vs = (vs.map wt).sum + vs.length := by
  induction vs with
  | nil => rfl
  | cons v vs ih => rw [wts, ih]; simp; omega
theorem jlen_cons (z x : Str) (xs : List Str) : jlen z (x :: xs) = x.length + z.length + jlen z xs := by
  unfold jlen
  simp only [List.map_cons, List.sum_cons, List.length_cons, Nat.succ_mul]
  omega
theorem jlen_nil (z : Str) : jlen z [] = 0 := by simp [jlen]
theorem join_le (z : Str) (xs : List Str) : (Txt.join z xs).length ≤ jlen z xs := by rw [txt_join]; exact join_len z xs
theorem jlen_wts (vs : List Val) (h : ∀ v ∈ vs, v.stamp.length ≤ v.wt) : jlen "," (vs.map stamp) ≤ wts vs := by
  induction vs with
  | nil => exact Nat.le_of_eq (jlen_nil _)
  | cons v vs ih =>
    have h1 := h v (by simp)
    have h2 := ih fun w hw => h w (List.mem_cons_of_mem _ hw)
    rw [List.map_cons, jlen_cons]
    unfold wts
    have c : ((",") : Str).length = 1 := rfl
    rw [c]
    omega
theorem stamp_len (n : Nat) : ∀ v : Val, v.dep < n → v.stamp.length ≤ v.wt := by
  induction n with
  | zero => intro v h; cases h
  | succ n ih =>
    intro v h
    cases v with
    | i k => exact Nat.le_refl _
    | s x =>
      show (("'" : Str) ++ x).length ≤ x.length + 1
      rw [len_app]
      show 1 + x.length ≤ x.length + 1
      omega
    | r vs =>
      have hd : ∀ v ∈ vs, v.stamp.length ≤ v.wt := fun v hv => ih v (by have := deps_le hv; have h' : 1 + deps vs < n + 1 := h; omega)
      show (("(" : Str) ++ Txt.join "," (stamps vs) ++ ")").length ≤ 2 + wts vs
      rw [len_app, len_app, stamps_eq, txt_join]
      have j := join_le "," (vs.map stamp)
      have k := jlen_wts vs hd
      have c2 : (("(") : Str).length = 1 := rfl
      have c3 : ((")") : Str).length = 1 := rfl
      rw [← txt_join, c2, c3]
      omega
end Val
end Fw

namespace Fw
open PySem L2 PySem.Spec PyProof.Rows
/-- the same, where the first turn freezes what it reads -/
theorem lcGo_map1 {α : Type} {g f : α → D} {b : BM} {tt : TM} {me : EM} {vs : List Nat} {A B : Gm} : ∀ (xs : List α) (acc : List D) (Γ : Gm), (Γ = A ∨ Γ = B) → xs ≠ [] →
    (∀ x ∈ xs, ∀ Γ, (Γ = A ∨ Γ = B) → ∃ Γ1 Γ2 r, b (g x) Γ = .ok Γ1 ∧ tt Γ1 = .ok (true, Γ1) ∧ me Γ1 = .ok (r, Γ2) ∧ r.dat = f x ∧ wipeG Γ2 vs = B) → lcGo b tt me vs (xs.map g) Γ acc = .ok (acc ++ xs.map f, B)
  | [], acc, _, _, h, _ => absurd rfl h
  | [x], acc, Γ, e, _, h => by
    obtain ⟨Γ1, Γ2, r, h1, h2, h3, h4, h5⟩ := h x (by simp) Γ e
    rw [List.map_cons]
    unfold lcGo
    simp only [h1, h2, h3, h4, h5, Res.noEr_ok, Res.bind_ok, if_true]
    simp [lcGo]
  | x :: y :: xs, acc, Γ, e, _, h => by
    obtain ⟨Γ1, Γ2, r, h1, h2, h3, h4, h5⟩ := h x (by simp) Γ e
    rw [List.map_cons]
    unfold lcGo
    simp only [h1, h2, h3, h4, h5, Res.noEr_ok, Res.bind_ok, if_true]
    rw [lcGo_map1 (y :: xs) _ B (.inr rfl) (by simp) fun e he => h e (List.mem_cons_of_mem _ he)]
    simp
theorem eLc_map1 {α : Type} (xs : List α) (g f : α → D) (B : Gm) {mi : IM} {b : BM} {tt : TM} {me : EM} {vs : List Nat} {Γ Γ1 : Gm} (hi : mi Γ = .ok (xs.map g, Γ1)) (hl : xs.length ≤ 16000000) (hne : xs ≠ [])
    (h : ∀ x ∈ xs, ∀ Γ0, (Γ0 = wipeG Γ1 vs ∨ Γ0 = B) → ∃ Γ2 Γ3 r, b (g x) Γ0 = .ok Γ2 ∧ tt Γ2 = .ok (true, Γ2) ∧ me Γ2 = .ok (r, Γ3) ∧ r.dat = f x ∧ wipeG Γ3 vs = B) :
    eLc mi b tt me vs Γ = .ok (.own (.lst (xs.map f)), backG Γ1 B vs) := by
  unfold eLc
  rw [hi]
  simp only [Res.bind_ok, List.length_map, if_pos (show xs.length ≤ lim from hl)]
  rw [lcGo_map1 xs [] _ (.inl rfl) hne h]
  simp
theorem rng_ne {n : Nat} (h : 0 < n) : List.range n ≠ [] := by
  intro e
  have := congrArg List.length e
  simp at this
  omega
end Fw
namespace Fw
open PySem L2 PySem.Spec PyProof.Rows
theorem eLc_some {α β : Type} (Q : β → Prop) (h : β → D) (xs : List α) (g : α → D) {mi : IM} {b : BM} {tt : TM} {me : EM} {vs : List Nat} {Γ Γ1 : Gm} (hi : mi Γ = .ok (xs.map g, Γ1)) (hl : xs.length ≤ 16000000)
    (hx : ∀ x ∈ xs, ∃ Γ2 Γ3 r y, b (g x) (wipeG Γ1 vs) = .ok Γ2 ∧ tt Γ2 = .ok (true, Γ2) ∧ me Γ2 = .ok (r, Γ3) ∧ r.dat = h y ∧ Q y ∧ wipeG Γ3 vs = wipeG Γ1 vs) :
    ∃ ys : List β, ys.length = xs.length ∧ (∀ y ∈ ys, Q y) ∧ eLc mi b tt me vs Γ = .ok (.own (.lst (ys.map h)), backG Γ1 (wipeG Γ1 vs) vs) := by
  have go : ∀ (xs : List α) (acc : List D), (∀ x ∈ xs, ∃ Γ2 Γ3 r y, b (g x) (wipeG Γ1 vs) = .ok Γ2 ∧ tt Γ2 = .ok (true, Γ2) ∧ me Γ2 = .ok (r, Γ3) ∧ r.dat = h y ∧ Q y ∧ wipeG Γ3 vs = wipeG Γ1 vs) →
      ∃ ys : List β, ys.length = xs.length ∧ (∀ y ∈ ys, Q y) ∧ lcGo b tt me vs (xs.map g) (wipeG Γ1 vs) acc = .ok (acc ++ ys.map h, wipeG Γ1 vs) := by
    intro xs
    induction xs with
    | nil => intro acc _; exact ⟨[], rfl, by simp, by simp [lcGo]⟩
    | cons x xs ih =>
      intro acc hx
      obtain ⟨Γ2, Γ3, r, y, h1, h2, h3, h4, h5, h6⟩ := hx x (by simp)
      obtain ⟨ys, l, q, e⟩ := ih (acc ++ [h y]) fun z hz => hx z (List.mem_cons_of_mem _ hz)
      refine ⟨y :: ys, by simp [l], ?_, ?_⟩
      · intro z hz
        rcases List.mem_cons.mp hz with rfl | hz
        · exact h5
        · exact q z hz
      · rw [List.map_cons]
        unfold lcGo
        simp only [h1, h2, h3, h4, h6, Res.noEr_ok, Res.bind_ok, if_true]
        rw [e]
        simp
  obtain ⟨ys, l, q, e⟩ := go xs [] hx
  refine ⟨ys, l, q, ?_⟩
  unfold eLc
  rw [hi]
  simp only [Res.bind_ok, List.length_map, if_pos (show xs.length ≤ lim from hl)]
  rw [e]
  simp
@[simp] theorem mApp_eq (xs : List D) (d : D) (h : xs.length < 16000000) : mAppend xs [d] = some (.none, xs ++ [d]) := by simp [mAppend, h]
@[simp] theorem mExt_l (xs ds : List D) (h : xs.length + ds.length ≤ 16000000) : mExtend xs [.list ds] = some (.none, xs ++ ds) := by simp [mExtend, h]
@[simp] theorem mExt_t (xs ds : List D) (h : xs.length + ds.length ≤ 16000000) : mExtend xs [.tuple ds] = some (.none, xs ++ ds) := by simp [mExtend, h]
@[simp] theorem join_1 (y x : Str) : Str.join y [x] = x := rfl
theorem join_2 (y x z : Str) (r : List Str) : Str.join y (x :: z :: r) = x ++ (y ++ Str.join y (z :: r)) := Str.append_assoc _ _ _
theorem joinL {z : Str} {ds : List D} (ys : List Str) (e : ds = ys.map .str) (h : jlen z ys ≤ 16000000) : dJoin (.str z) (.list ds) = .ok (.fro (.str (Str.join z ys))) := by
  subst e
  rw [← txt_join]
  exact join_ls h
theorem joinT {z : Str} {ds : List D} (ys : List Str) (e : ds = ys.map .str) (h : jlen z ys ≤ 16000000) : dJoin (.str z) (.tuple ds) = .ok (.fro (.str (Str.join z ys))) := by
  subst e
  rw [← txt_join]
  exact join_ts h
@[simp] theorem sl_l (xs : List D) (lo hi : Option Int) : dSl (.list xs) lo hi = .ok (.own (.lst (Fw.cutD xs lo hi))) := rfl
@[simp] theorem sl_t (xs : List D) (lo hi : Option Int) : dSl (.tuple xs) lo hi = .ok (.fro (.tuple (Fw.cutD xs lo hi))) := rfl
@[simp] theorem cut_map {α β : Type} (f : α → β) (xs : List α) (lo hi : Option Int) : Fw.cutD (xs.map f) lo hi = (Fw.cutD xs lo hi).map f := by
  simp [Fw.cutD, List.map_take, List.map_drop]
theorem cut_hi {α : Type} (xs : List α) (n : Nat) (h : n ≤ xs.length) : Fw.cutD xs none (some (n : Int)) = xs.take n := by
  unfold Fw.cutD
  rw [HT.sIx_nat, HT.sIx_none, Nat.min_eq_left h]
  rfl
theorem cut_lo {α : Type} (xs : List α) (n : Nat) (h : n ≤ xs.length) : Fw.cutD xs (some (n : Int)) none = xs.drop n := by
  unfold Fw.cutD
  rw [HT.sIx_nat, HT.sIx_none, Nat.min_eq_left h]
  exact List.take_of_length_le (by rw [List.length_drop]; exact Nat.le_refl _)
end Fw

namespace W
open PySem L2 Fw PySem.Spec PyProof.Rows
def top (i : Nat) : Stmt := PySem.Challenge.pw_redo_k83_reports.main.body.getD i (.Pass ⟨0, 0, 0, 0⟩)
abbrev s_stamp_of : Stmt := top 1
abbrev sc_stamp_of.N : List Str := ["value", "part"]
abbrev sc_stamp_of.P : List Str := ["value"]
theorem sc_stamp_of : FnScope sc_stamp_of.N sc_stamp_of.P (defScope s_stamp_of) := ⟨rfl, rfl, rfl, by decide +kernel, rfl, by decide +kernel, by decide +kernel⟩
def m_stamp_of : Nat → Fn
  | 0 => fun _ => .no
  | n + 1 => runFn 1
    (sSeq (sIf (tVal (eUn (dIsi "tuple") (eVar 0)))
    (sRet (eBin dAdd (eBin dAdd (eC (.str "(")) (eMethS (two dJoin) (eC (.str ",")) (aCons (eLc (iAny (eVar 0)) (bName 1) tYesM (eFn (m_stamp_of n) (aCons (eVar 1) aNil)) [1]) aNil))) (eC (.str ")"))))
    sNx)
    (sSeq (sIf (tVal (eUn (dIsi "str") (eVar 0)))
    (sRet (eBin dAdd (eC (.str "'")) (eVar 0)))
    sNx)
    (sRet (eCall (one dStr) (aCons (eVar 0) aNil)))))
abbrev s_result_text : Stmt := top 3
abbrev sc_result_text.N : List Str := ["result", "words"]
abbrev sc_result_text.P : List Str := ["result"]
theorem sc_result_text : FnScope sc_result_text.N sc_result_text.P (defScope s_result_text) := ⟨rfl, rfl, rfl, by decide +kernel, rfl, by decide +kernel, by decide +kernel⟩
def b_result_text : SM :=
    (sSeq (sIf (tVal (eBin dEq (eBin dIx (eVar 0) (eC (.int 0))) (eC (.str "made"))))
    (sRet (eBin dAdd (eC (.str "made ")) (eFn (m_stamp_of 30) (aCons (eBin dIx (eVar 0) (eC (.int 1))) aNil))))
    sNx)
    (sSeq (sSet 1 (eLst (aCons (eBin dIx (eVar 0) (eC (.int 0))) aNil)))
    (sSeq (sIf (tVal (eBin dEq (eBin dIx (eVar 0) (eC (.int 0))) (eC (.str "fails"))))
    (sDrop (eMut mAppend 1 (aCons (eBin dIx (eVar 0) (eC (.int 2))) aNil)))
    sNx)
    (sRet (eMethS (two dJoin) (eC (.str " ")) (aCons (eBin dAdd (eBin dAdd (eVar 1) (eLst (aCons (eC (.str "by")) aNil))) (eCall (one dList) (aCons (eBin dIx (eVar 0) (eC (.int 1))) aNil))) aNil))))))
def m_result_text : Fn := runFn 1 b_result_text
abbrev s_log_text : Stmt := top 4
abbrev sc_log_text.N : List Str := ["row"]
abbrev sc_log_text.P : List Str := ["row"]
theorem sc_log_text : FnScope sc_log_text.N sc_log_text.P (defScope s_log_text) := ⟨rfl, rfl, rfl, by decide +kernel, rfl, by decide +kernel, by decide +kernel⟩
def b_log_text : SM :=
    (sRet (eBin dAdd (eBin dAdd (eBin dIx (eVar 0) (eC (.int 0))) (eC (.str " "))) (eBin dIx (eVar 0) (eC (.int 1)))))
def m_log_text : Fn := runFn 0 b_log_text
abbrev s_reason_text : Stmt := top 5
abbrev sc_reason_text.N : List Str := ["reason", "words", "part"]
abbrev sc_reason_text.P : List Str := ["reason"]
theorem sc_reason_text : FnScope sc_reason_text.N sc_reason_text.P (defScope s_reason_text) := ⟨rfl, rfl, rfl, by decide +kernel, rfl, by decide +kernel, by decide +kernel⟩
def l_reason_text_0 : SM :=
    (sIf (tVal (eUn (dIsi "tuple") (eVar 2)))
    (sDrop (eMut mExtend 1 (aCons (eVar 2) aNil)))
    (sDrop (eMut mAppend 1 (aCons (eCall (one dStr) (aCons (eVar 2) aNil)) aNil))))
def b_reason_text : SM :=
    (sSeq (sIf (tVal (eBin dIs (eVar 0) (eC .none)))
    (sRet (eC (.str "-")))
    sNx)
    (sSeq (sSet 1 (eLst aNil))
    (sSeq (sFor (iAny (eVar 0)) (bName 2)
    l_reason_text_0 [2])
    (sRet (eMethS (two dJoin) (eC (.str " ")) (aCons (eVar 1) aNil))))))
def m_reason_text : Fn := runFn 2 b_reason_text
abbrev s_law_draw : Stmt := top 7
abbrev sc_law_draw.N : List Str := ["_law_script", "_law_k", "_law_many", "_law_cell", "_law_left", "_law_mixed"]
abbrev sc_law_draw.P : List Str := ["_law_script", "_law_k", "_law_many"]
theorem sc_law_draw : FnScope sc_law_draw.N sc_law_draw.P (defScope s_law_draw) := ⟨rfl, rfl, rfl, by decide +kernel, rfl, by decide +kernel, by decide +kernel⟩
def b_law_draw : SM :=
    (sSeq (sSet 3 (eC (.int 0)))
    (sSeq (sIf (tVal (eBin dGt (eCall (one dLen) (aCons (eVar 0) aNil)) (eC (.int 0))))
    (sSeq (sSet 3 (eBin dIx (eVar 0) (eBin dMod (eVar 1) (eCall (one dLen) (aCons (eVar 0) aNil)))))
    (sSeq (sSet 4 (eBin dShr (eVar 3) (eBin dMul (eC (.int 7)) (eCall (two dMin) (aCons (eC (.int 90)) (aCons (eBin dDiv (eVar 1) (eCall (one dLen) (aCons (eVar 0) aNil))) aNil))))))
    (sIf (tAndM (tVal (eBin dGe (eVar 3) (eBin dPow (eC (.int 10)) (eC (.int 18))))) (tVal (eBin dGt (eVar 4) (eC (.int 127)))))
    (sRet (eBin dMod (eVar 4) (eVar 2)))
    sNx)))
    sNx)
    (sSeq (sSet 5 (eBin dMod (eBin dMul (eBin dAdd (eBin dAdd (eBin dAdd (eBin dMod (eVar 3) (eC (.int 999999937))) (eBin dMul (eBin dMul (eC (.int 31)) (eVar 1)) (eVar 1))) (eBin dMul (eC (.int 7)) (eVar 1))) (eC (.int 1))) (eC (.int 48271))) (eC (.int 2147483647))))
    (sRet (eBin dMod (eBin dDiv (eBin dMod (eBin dMul (eBin dDiv (eVar 5) (eC (.int 7))) (eC (.int 69621))) (eC (.int 2147483629))) (eC (.int 5))) (eVar 2))))))
def m_law_draw : Fn := runFn 3 b_law_draw
abbrev s_law_stamp : Stmt := top 8
abbrev sc_law_stamp.N : List Str := ["_law_value_here", "_law_part"]
abbrev sc_law_stamp.P : List Str := ["_law_value_here"]
theorem sc_law_stamp : FnScope sc_law_stamp.N sc_law_stamp.P (defScope s_law_stamp) := ⟨rfl, rfl, rfl, by decide +kernel, rfl, by decide +kernel, by decide +kernel⟩
def m_law_stamp : Nat → Fn
  | 0 => fun _ => .no
  | n + 1 => runFn 1
    (sSeq (sIf (tVal (eUn (dIsi "int") (eVar 0)))
    (sRet (eCall (one dStr) (aCons (eVar 0) aNil)))
    sNx)
    (sSeq (sIf (tVal (eUn (dIsi "str") (eVar 0)))
    (sRet (eBin dAdd (eC (.str "'")) (eVar 0)))
    sNx)
    (sRet (eBin dAdd (eBin dAdd (eC (.str "(")) (eMethS (two dJoin) (eC (.str ",")) (aCons (eLc (iAny (eVar 0)) (bName 1) tYesM (eFn (m_law_stamp n) (aCons (eVar 1) aNil)) [1]) aNil))) (eC (.str ")"))))))
abbrev s_law_names : Stmt := top 9
abbrev sc_law_names.N : List Str := ["_law_script", "_law_k", "_law_menu", "_law_first", "_law_step", "_law_j"]
abbrev sc_law_names.P : List Str := ["_law_script", "_law_k"]
theorem sc_law_names : FnScope sc_law_names.N sc_law_names.P (defScope s_law_names) := ⟨rfl, rfl, rfl, by decide +kernel, rfl, by decide +kernel, by decide +kernel⟩
def b_law_names : SM :=
    (sSeq (sSet 2 (eLst (aCons (eC (.str "a")) (aCons (eC (.str "ab")) (aCons (eC (.str "abc")) (aCons (eC (.str "b")) (aCons (eC (.str "told")) (aCons (eC (.str "made")) (aCons (eC (.str "say")) (aCons (eC (.str "want")) (aCons (eC (.str "wants")) (aCons (eC (.str "ba")) (aCons (eC (.str "zz")) (aCons (eC (.str "x")) aNil))))))))))))))
    (sSeq (sSet 3 (eFn m_law_draw (aCons (eVar 0) (aCons (eVar 1) (aCons (eC (.int 12)) aNil)))))
    (sSeq (sSet 4 (eBin dIx (eLst (aCons (eC (.int 1)) (aCons (eC (.int 5)) (aCons (eC (.int 7)) (aCons (eC (.int 11)) aNil))))) (eFn m_law_draw (aCons (eVar 0) (aCons (eBin dAdd (eVar 1) (eC (.int 1))) (aCons (eC (.int 4)) aNil))))))
    (sRet (eLc (iR1 (aCons (eBin dAdd (eC (.int 4)) (eFn m_law_draw (aCons (eVar 0) (aCons (eBin dAdd (eVar 1) (eC (.int 2))) (aCons (eC (.int 4)) aNil))))) aNil)) (bName 5) tYesM (eBin dIx (eVar 2) (eBin dMod (eBin dAdd (eVar 3) (eBin dMul (eVar 4) (eVar 5))) (eC (.int 12)))) [5])))))
def m_law_names : Fn := runFn 4 b_law_names
abbrev s_law_value : Stmt := top 10
abbrev sc_law_value.N : List Str := ["_law_script", "_law_k", "_law_names_here", "_law_some"]
abbrev sc_law_value.P : List Str := ["_law_script", "_law_k", "_law_names_here"]
theorem sc_law_value : FnScope sc_law_value.N sc_law_value.P (defScope s_law_value) := ⟨rfl, rfl, rfl, by decide +kernel, rfl, by decide +kernel, by decide +kernel⟩
def b_law_value : SM :=
    (sSeq (sSet 3 (eBin dAdd (eLst (aCons (eC (.int 0)) (aCons (eC (.int 1)) (aCons (eC (.int 2)) (aCons (eUn dNeg (eC (.int 3))) (aCons (eC (.str "")) (aCons (eC (.str "a")) (aCons (eC (.str "-0")) (aCons (eTup aNil) (aCons (eTup (aCons (eC (.int 1)) (aCons (eC (.str "b")) aNil))) (aCons (eTup (aCons (eC (.str "a")) (aCons (eTup (aCons (eC (.int 0)) aNil)) aNil))) (aCons (eBin dPow (eC (.int 10)) (eC (.int 18))) (aCons (eC (.int 1)) (aCons (eC (.int 0)) aNil)))))))))))))) (eVar 2)))
    (sRet (eBin dIx (eVar 3) (eFn m_law_draw (aCons (eVar 0) (aCons (eVar 1) (aCons (eCall (one dLen) (aCons (eVar 3) aNil)) aNil)))))))
def m_law_value : Fn := runFn 1 b_law_value
abbrev s_law_result : Stmt := top 11
abbrev sc_law_result.N : List Str := ["_law_script", "_law_k", "_law_names_here", "_law_row", "_law_value_here", "_law_sort", "_law_j"]
abbrev sc_law_result.P : List Str := ["_law_script", "_law_k", "_law_names_here"]
theorem sc_law_result : FnScope sc_law_result.N sc_law_result.P (defScope s_law_result) := ⟨rfl, rfl, rfl, by decide +kernel, rfl, by decide +kernel, by decide +kernel⟩
def b_law_result : SM :=
    (sSeq (sSet 3 (eLc (iR1 (aCons (eBin dAdd (eC (.int 1)) (eFn m_law_draw (aCons (eVar 0) (aCons (eBin dAdd (eVar 1) (eC (.int 5))) (aCons (eC (.int 4)) aNil))))) aNil)) (bName 6) tYesM (eBin dIx (eVar 2) (eFn m_law_draw (aCons (eVar 0) (aCons (eBin dAdd (eVar 1) (eVar 6)) (aCons (eCall (one dLen) (aCons (eVar 2) aNil)) aNil))))) [6]))
    (sSeq (sSet 4 (eFn m_law_value (aCons (eVar 0) (aCons (eBin dAdd (eVar 1) (eC (.int 6))) (aCons (eVar 2) aNil)))))
    (sSeq (sSet 5 (eBin dIx (eLst (aCons (eC (.str "made")) (aCons (eC (.str "fails")) (aCons (eC (.str "lacks")) (aCons (eC (.str "ring")) aNil))))) (eFn m_law_draw (aCons (eVar 0) (aCons (eBin dAdd (eVar 1) (eC (.int 7))) (aCons (eC (.int 4)) aNil))))))
    (sSeq (sIf (tVal (eBin dEq (eVar 5) (eC (.str "made"))))
    (sRet (eTup (aCons (eTup (aCons (eC (.str "made")) (aCons (eVar 4) aNil))) (aCons (eBin dAdd (eC (.str "made ")) (eFn (m_law_stamp 30) (aCons (eVar 4) aNil))) aNil))))
    sNx)
    (sSeq (sIf (tVal (eBin dEq (eVar 5) (eC (.str "fails"))))
    (sRet (eTup (aCons (eTup (aCons (eC (.str "fails")) (aCons (eCall (one dTuple) (aCons (eVar 3) aNil)) (aCons (eBin dIx (eVar 2) (eC (.int 0))) aNil)))) (aCons (eBin dAdd (eBin dAdd (eBin dAdd (eC (.str "fails ")) (eBin dIx (eVar 2) (eC (.int 0)))) (eC (.str " by "))) (eMethS (two dJoin) (eC (.str " ")) (aCons (eVar 3) aNil))) aNil))))
    sNx)
    (sSeq (sIf (tVal (eBin dEq (eVar 5) (eC (.str "ring"))))
    (sSet 3 (eBin dAdd (eVar 3) (eSl (eVar 3) pNone (pSome (eC (.int 1))))))
    sNx)
    (sRet (eTup (aCons (eTup (aCons (eVar 5) (aCons (eCall (one dTuple) (aCons (eVar 3) aNil)) aNil))) (aCons (eBin dAdd (eBin dAdd (eVar 5) (eC (.str " by "))) (eMethS (two dJoin) (eC (.str " ")) (aCons (eVar 3) aNil))) aNil))))))))))
def m_law_result : Fn := runFn 4 b_law_result
abbrev s_law_reason : Stmt := top 12
abbrev sc_law_reason.N : List Str := ["_law_script", "_law_k", "_law_names_here", "_law_number", "_law_name", "_law_stamp_here", "_law_end", "_law_way", "_law_word"]
abbrev sc_law_reason.P : List Str := ["_law_script", "_law_k", "_law_names_here"]
theorem sc_law_reason : FnScope sc_law_reason.N sc_law_reason.P (defScope s_law_reason) := ⟨rfl, rfl, rfl, by decide +kernel, rfl, by decide +kernel, by decide +kernel⟩
def b_law_reason : SM :=
    (sSeq (sSet 3 (eFn m_law_draw (aCons (eVar 0) (aCons (eVar 1) (aCons (eC (.int 12)) aNil)))))
    (sSeq (sSet 4 (eBin dIx (eVar 2) (eFn m_law_draw (aCons (eVar 0) (aCons (eBin dAdd (eVar 1) (eC (.int 1))) (aCons (eCall (one dLen) (aCons (eVar 2) aNil)) aNil))))))
    (sSeq (sSet 5 (eFn (m_law_stamp 30) (aCons (eFn m_law_value (aCons (eVar 0) (aCons (eBin dAdd (eVar 1) (eC (.int 2))) (aCons (eVar 2) aNil)))) aNil)))
    (sSeq (sSet 6 (eBin dIx (eLst (aCons (eTup (aCons (eC (.str "made")) (aCons (eVar 5) aNil))) (aCons (eTup (aCons (eC (.str "fails")) (aCons (eVar 4) aNil))) (aCons (eTup (aCons (eC (.str "wants")) (aCons (eVar 4) aNil))) (aCons (eTup (aCons (eC (.str "lacks")) aNil)) aNil))))) (eFn m_law_draw (aCons (eVar 0) (aCons (eBin dAdd (eVar 1) (eC (.int 3))) (aCons (eC (.int 4)) aNil))))))
    (sSeq (sSet 7 (eFn m_law_draw (aCons (eVar 0) (aCons (eBin dAdd (eVar 1) (eC (.int 4))) (aCons (eC (.int 5)) aNil)))))
    (sSeq (sIf (tVal (eBin dEq (eVar 7) (eC (.int 0))))
    (sRet (eTup (aCons (eC .none) (aCons (eC (.str "-")) aNil))))
    sNx)
    (sSeq (sIf (tVal (eBin dEq (eVar 7) (eC (.int 1))))
    (sSeq (sSet 8 (eBin dIx (eLst (aCons (eC (.str "none")) (aCons (eC (.str "recipe")) aNil))) (eFn m_law_draw (aCons (eVar 0) (aCons (eBin dAdd (eVar 1) (eC (.int 5))) (aCons (eC (.int 2)) aNil))))))
    (sRet (eTup (aCons (eTup (aCons (eVar 8) aNil)) (aCons (eVar 8) aNil)))))
    sNx)
    (sSeq (sIf (tVal (eBin dEq (eVar 7) (eC (.int 2))))
    (sRet (eTup (aCons (eTup (aCons (eC (.str "wanted")) (aCons (eVar 4) (aCons (eVar 5) aNil)))) (aCons (eBin dAdd (eBin dAdd (eBin dAdd (eC (.str "wanted ")) (eVar 4)) (eC (.str " "))) (eVar 5)) aNil))))
    sNx)
    (sRet (eTup (aCons (eTup (aCons (eC (.str "read")) (aCons (eVar 3) (aCons (eVar 4) (aCons (eVar 5) (aCons (eVar 6) aNil)))))) (aCons (eMethS (two dJoin) (eC (.str " ")) (aCons (eBin dAdd (eLst (aCons (eC (.str "read")) (aCons (eCall (one dStr) (aCons (eVar 3) aNil)) (aCons (eVar 4) (aCons (eVar 5) aNil))))) (eCall (one dList) (aCons (eVar 6) aNil))) aNil)) aNil))))))))))))
def m_law_reason : Fn := runFn 6 b_law_reason
abbrev s_law : Stmt := top 13
abbrev sc_law.N : List Str := ["_law_script", "_law_names_here", "_law_number", "_law_k", "_law_result_here", "_law_text", "_law_word", "_law_name", "_law_reason_here"]
abbrev sc_law.P : List Str := ["_law_script"]
theorem sc_law : FnScope sc_law.N sc_law.P (defScope s_law) := ⟨rfl, rfl, rfl, by decide +kernel, rfl, by decide +kernel, by decide +kernel⟩
def l_law_0 : SM :=
    (sSeq (sSet 3 (eBin dAdd (eC (.int 10)) (eBin dMul (eC (.int 30)) (eVar 2))))
    (sSeq (sUnp [4, 5] (eFn m_law_result (aCons (eVar 0) (aCons (eVar 3) (aCons (eVar 1) aNil)))))
    (sSeq (sIf (tVal (eBin dNe (eCall (one dRepr) (aCons (eFn m_result_text (aCons (eVar 4) aNil)) aNil)) (eCall (one dRepr) (aCons (eVar 5) aNil))))
    (sRet (eC (.bool false)))
    sNx)
    (sSeq (sSet 6 (eBin dIx (eLst (aCons (eC (.str "kept")) (aCons (eC (.str "done")) (aCons (eC (.str "fetched")) (aCons (eC (.str "untold")) (aCons (eC (.str "stale")) aNil)))))) (eFn m_law_draw (aCons (eVar 0) (aCons (eBin dAdd (eVar 3) (eC (.int 10))) (aCons (eC (.int 5)) aNil))))))
    (sSeq (sSet 7 (eBin dIx (eVar 1) (eFn m_law_draw (aCons (eVar 0) (aCons (eBin dAdd (eVar 3) (eC (.int 11))) (aCons (eCall (one dLen) (aCons (eVar 1) aNil)) aNil))))))
    (sSeq (sIf (tVal (eBin dNe (eCall (one dRepr) (aCons (eFn m_log_text (aCons (eTup (aCons (eVar 6) (aCons (eVar 7) aNil))) aNil)) aNil)) (eCall (one dRepr) (aCons (eBin dAdd (eBin dAdd (eVar 6) (eC (.str " "))) (eVar 7)) aNil))))
    (sRet (eC (.bool false)))
    sNx)
    (sSeq (sUnp [8, 5] (eFn m_law_reason (aCons (eVar 0) (aCons (eBin dAdd (eVar 3) (eC (.int 12))) (aCons (eVar 1) aNil)))))
    (sIf (tVal (eBin dNe (eCall (one dRepr) (aCons (eFn m_reason_text (aCons (eVar 8) aNil)) aNil)) (eCall (one dRepr) (aCons (eVar 5) aNil))))
    (sRet (eC (.bool false)))
    sNx))))))))
def b_law : SM :=
    (sSeq (sSet 1 (eFn m_law_names (aCons (eVar 0) (aCons (eC (.int 0)) aNil))))
    (sSeq (sFor (iR1 (aCons (eC (.int 8)) aNil)) (bName 2)
    l_law_0 [2, 3, 4, 5, 6, 7, 8])
    (sRet (eC (.bool true)))))
def m_law : Fn := runFn 8 b_law
@[simp] theorem lit_0 : (Str.ofString "").length = 0 := by decide
@[simp] theorem lit_1 : (Str.ofString " ").length = 1 := by decide
@[simp] theorem lit_2 : (Str.ofString " by ").length = 4 := by decide
@[simp] theorem lit_3 : (Str.ofString "'").length = 1 := by decide
@[simp] theorem lit_4 : (Str.ofString "(").length = 1 := by decide
@[simp] theorem lit_5 : (Str.ofString ")").length = 1 := by decide
@[simp] theorem lit_6 : (Str.ofString ",").length = 1 := by decide
@[simp] theorem lit_7 : (Str.ofString "-").length = 1 := by decide
@[simp] theorem lit_8 : (Str.ofString "-0").length = 2 := by decide
@[simp] theorem lit_9 : (Str.ofString "a").length = 1 := by decide
@[simp] theorem lit_10 : (Str.ofString "ab").length = 2 := by decide
@[simp] theorem lit_11 : (Str.ofString "abc").length = 3 := by decide
@[simp] theorem lit_12 : (Str.ofString "b").length = 1 := by decide
@[simp] theorem lit_13 : (Str.ofString "ba").length = 2 := by decide
@[simp] theorem lit_14 : (Str.ofString "by").length = 2 := by decide
@[simp] theorem lit_15 : (Str.ofString "done").length = 4 := by decide
@[simp] theorem lit_16 : (Str.ofString "fails").length = 5 := by decide
@[simp] theorem lit_17 : (Str.ofString "fails ").length = 6 := by decide
@[simp] theorem lit_18 : (Str.ofString "fetched").length = 7 := by decide
@[simp] theorem lit_19 : (Str.ofString "kept").length = 4 := by decide
@[simp] theorem lit_20 : (Str.ofString "lacks").length = 5 := by decide
@[simp] theorem lit_21 : (Str.ofString "made").length = 4 := by decide
@[simp] theorem lit_22 : (Str.ofString "made ").length = 5 := by decide
@[simp] theorem lit_23 : (Str.ofString "none").length = 4 := by decide
@[simp] theorem lit_24 : (Str.ofString "read").length = 4 := by decide
@[simp] theorem lit_25 : (Str.ofString "recipe").length = 6 := by decide
@[simp] theorem lit_26 : (Str.ofString "ring").length = 4 := by decide
@[simp] theorem lit_27 : (Str.ofString "say").length = 3 := by decide
@[simp] theorem lit_28 : (Str.ofString "stale").length = 5 := by decide
@[simp] theorem lit_29 : (Str.ofString "told").length = 4 := by decide
@[simp] theorem lit_30 : (Str.ofString "untold").length = 6 := by decide
@[simp] theorem lit_31 : (Str.ofString "want").length = 4 := by decide
@[simp] theorem lit_32 : (Str.ofString "wanted").length = 6 := by decide
@[simp] theorem lit_33 : (Str.ofString "wanted ").length = 7 := by decide
@[simp] theorem lit_34 : (Str.ofString "wants").length = 5 := by decide
@[simp] theorem lit_35 : (Str.ofString "x").length = 1 := by decide
@[simp] theorem lit_36 : (Str.ofString "zz").length = 2 := by decide
structure Tx (K : PySem.W.Frag) (mg : Str → Option Value) : Prop where
  z_int : mg "int" = none
  z_isinstance : mg "isinstance" = none
  z_len : mg "len" = none
  z_list : mg "list" = none
  z_min : mg "min" = none
  z_range : mg "range" = none
  z_repr : mg "repr" = none
  z_str : mg "str" = none
  z_tuple : mg "tuple" = none
  h_stamp_of : Hd K mg "stamp_of" sc_stamp_of.P s_stamp_of
  h_result_text : Hd K mg "result_text" sc_result_text.P s_result_text
  h_log_text : Hd K mg "log_text" sc_log_text.P s_log_text
  h_reason_text : Hd K mg "reason_text" sc_reason_text.P s_reason_text
  h_law_draw : Hd K mg "_law_draw" sc_law_draw.P s_law_draw
  h_law_stamp : Hd K mg "_law_stamp" sc_law_stamp.P s_law_stamp
  h_law_names : Hd K mg "_law_names" sc_law_names.P s_law_names
  h_law_value : Hd K mg "_law_value" sc_law_value.P s_law_value
  h_law_result : Hd K mg "_law_result" sc_law_result.P s_law_result
  h_law_reason : Hd K mg "_law_reason" sc_law_reason.P s_law_reason
  h_law : Hd K mg "law" sc_law.P s_law
section
variable {P : Program} {w : World} {K : PySem.W.Frag} {mg : Str → Option Value}
theorem okr_stamp_of (T : Tx K mg) (n : Nat) : GF P w K mg (0 + n) "stamp_of" sc_stamp_of.P (m_stamp_of n) := by
  induction n with
  | zero => exact GF.zero T.h_stamp_of
  | succ n ih =>
    have ih_stamp_of := ih
    exact GF.def0 T.h_stamp_of sc_stamp_of rfl (fun base f cdv A outer s H E hg hr =>
      (dss_cons (ds_if (dt_val (de_isi "tuple" (de_var 0) T.z_isinstance bt_isinstance T.z_tuple bt_tuple) (fun _ => rfl))
      (dss_one (ds_ret (de_bin op_addD (de_bin op_addD de_str (de_ms PySem.F.slot_str_join PySem.F.type_str_join mt_joinD de_str (da_cons (de_lc (own := [("part", 1)]) (di_any (de_var 0)) rfl sc_stamp_of.nd (blkOk_by (N := sc_stamp_of.N) (sc := defScope s_stamp_of) (by decide +kernel)) (fun _ _ _ _ _ => (dg_name (i := 1) sc_stamp_of.nd rfl (by first | exact Or.inl rfl | exact Or.inr rfl))) (fun _ _ _ _ _ => dts_nil) (fun _ _ _ _ _ => (de_f ih_stamp_of (da_cons (de_var 1) da_nil) hg (hr.mono (Nat.le_refl _)))) (by decide)) da_nil))) de_str)))
      dss_nil)
      (dss_cons (ds_if (dt_val (de_isi "str" (de_var 0) T.z_isinstance bt_isinstance T.z_str bt_str) (fun _ => rfl))
      (dss_one (ds_ret (de_bin op_addD de_str (de_var 0))))
      dss_nil)
      (dss_one (ds_ret (de_callTy call_strD (da_cons (de_var 0) da_nil) T.z_str bt_str))))))
theorem ok_stamp_of (T : Tx K mg) (n : Nat) : GF P w K mg (0 + n) "stamp_of" sc_stamp_of.P (m_stamp_of n) := (okr_stamp_of T n)
theorem ok_result_text (T : Tx K mg) : GF P w K mg 31 "result_text" sc_result_text.P m_result_text := by
  delta m_result_text b_result_text
  exact GF.def0 T.h_result_text sc_result_text rfl (fun base f cdv A outer s H E hg hr =>
      (dss_cons (ds_if (dt_cmp (op_eqDD hr) bo_eq (de_ix ix_D (de_var 0) de_int) de_str)
      (dss_one (ds_ret (de_bin op_addD de_str (de_f (ok_stamp_of T 30) (da_cons (de_ix ix_D (de_var 0) de_int) da_nil) hg (hr.mono (by decide))))))
      dss_nil)
      (dss_cons (ds_set (i := 1) (de_lst (da_cons (de_ix ix_D (de_var 0) de_int) da_nil)) sc_result_text.nd)
      (dss_cons (ds_if (dt_cmp (op_eqDD hr) bo_eq (de_ix ix_D (de_var 0) de_int) de_str)
      (dss_one (ds_drop (de_mut (i := 1) PySem.F.slot_list_append PySem.F.type_list_append mt_appendD (da_cons (de_ix ix_D (de_var 0) de_int) da_nil))))
      dss_nil)
      (dss_one (ds_ret (de_ms PySem.F.slot_str_join PySem.F.type_str_join mt_joinD de_str (da_cons (de_bin op_addD (de_bin op_addD (de_var 1) (de_lst (da_cons de_str da_nil))) (de_callTy call_listD (da_cons (de_ix ix_D (de_var 0) de_int) da_nil) T.z_list bt_list)) da_nil))))))))
theorem ok_log_text (T : Tx K mg) : GF P w K mg 1 "log_text" sc_log_text.P m_log_text := by
  delta m_log_text b_log_text
  exact GF.def0 T.h_log_text sc_log_text rfl (fun base f cdv A outer s H E hg hr =>
      (dss_one (ds_ret (de_bin op_addD (de_bin op_addD (de_ix ix_D (de_var 0) de_int) de_str) (de_ix ix_D (de_var 0) de_int)))))
theorem ok_reason_text (T : Tx K mg) : GF P w K mg 1 "reason_text" sc_reason_text.P m_reason_text := by
  delta m_reason_text b_reason_text l_reason_text_0
  exact GF.def0 T.h_reason_text sc_reason_text rfl (fun base f cdv A outer s H E hg hr =>
      (dss_cons (ds_if (dt_cmp op_isND bo_is (de_var 0) de_non)
      (dss_one (ds_ret de_str))
      dss_nil)
      (dss_cons (ds_set (i := 1) (de_lst da_nil) sc_reason_text.nd)
      (dss_cons (ds_for [2] (di_any (de_var 0)) (dg_name (i := 2) sc_reason_text.nd rfl (by first | exact Or.inl rfl | exact Or.inr rfl))
      (dss_one (ds_if (dt_val (de_isi "tuple" (de_var 2) T.z_isinstance bt_isinstance T.z_tuple bt_tuple) (fun _ => rfl))
      (dss_one (ds_drop (de_mut (i := 1) PySem.F.slot_list_extend PySem.F.type_list_extend mt_extendD (da_cons (de_var 2) da_nil))))
      (dss_one (ds_drop (de_mut (i := 1) PySem.F.slot_list_append PySem.F.type_list_append mt_appendD (da_cons (de_callTy call_strD (da_cons (de_var 2) da_nil) T.z_str bt_str) da_nil)))))) PassesOwn.never rfl)
      (dss_one (ds_ret (de_ms PySem.F.slot_str_join PySem.F.type_str_join mt_joinD de_str (da_cons (de_var 1) da_nil))))))))
theorem ok_law_draw (T : Tx K mg) : GF P w K mg 1 "_law_draw" sc_law_draw.P m_law_draw := by
  delta m_law_draw b_law_draw
  exact GF.def0 T.h_law_draw sc_law_draw rfl (fun base f cdv A outer s H E hg hr =>
      (dss_cons (ds_set (i := 3) de_int sc_law_draw.nd)
      (dss_cons (ds_if (dt_cmp op_gtD bo_gt (de_callB call_lenD' (da_cons (de_var 0) da_nil) T.z_len bt_len) de_int)
      (dss_cons (ds_set (i := 3) (de_ix ix_D (de_var 0) (de_bin op_modD (de_var 1) (de_callB call_lenD' (da_cons (de_var 0) da_nil) T.z_len bt_len))) sc_law_draw.nd)
      (dss_cons (ds_set (i := 4) (de_bin op_shrD (de_var 3) (de_bin op_mulD de_int (de_callB (call_minD rfl) (da_cons de_int (da_cons (de_bin op_divD (de_var 1) (de_callB call_lenD' (da_cons (de_var 0) da_nil) T.z_len bt_len)) da_nil)) T.z_min bt_min))) sc_law_draw.nd)
      (dss_one (ds_if (dt_w (dw_and (dt_cmp op_geD bo_ge (de_var 3) (de_bin op_powD de_int de_int)) (dw_and1 (dt_cmp op_gtD bo_gt (de_var 4) de_int))))
      (dss_one (ds_ret (de_bin op_modD (de_var 4) (de_var 2))))
      dss_nil))))
      dss_nil)
      (dss_cons (ds_set (i := 5) (de_bin op_modD (de_bin op_mulD (de_bin op_addD (de_bin op_addD (de_bin op_addD (de_bin op_modD (de_var 3) de_int) (de_bin op_mulD (de_bin op_mulD de_int (de_var 1)) (de_var 1))) (de_bin op_mulD de_int (de_var 1))) de_int) de_int) de_int) sc_law_draw.nd)
      (dss_one (ds_ret (de_bin op_modD (de_bin op_divD (de_bin op_modD (de_bin op_mulD (de_bin op_divD (de_var 5) de_int) de_int) de_int) de_int) (de_var 2))))))))
theorem okr_law_stamp (T : Tx K mg) (n : Nat) : GF P w K mg (0 + n) "_law_stamp" sc_law_stamp.P (m_law_stamp n) := by
  induction n with
  | zero => exact GF.zero T.h_law_stamp
  | succ n ih =>
    have ih_law_stamp := ih
    exact GF.def0 T.h_law_stamp sc_law_stamp rfl (fun base f cdv A outer s H E hg hr =>
      (dss_cons (ds_if (dt_val (de_isi "int" (de_var 0) T.z_isinstance bt_isinstance T.z_int bt_int) (fun _ => rfl))
      (dss_one (ds_ret (de_callTy call_strD (da_cons (de_var 0) da_nil) T.z_str bt_str)))
      dss_nil)
      (dss_cons (ds_if (dt_val (de_isi "str" (de_var 0) T.z_isinstance bt_isinstance T.z_str bt_str) (fun _ => rfl))
      (dss_one (ds_ret (de_bin op_addD de_str (de_var 0))))
      dss_nil)
      (dss_one (ds_ret (de_bin op_addD (de_bin op_addD de_str (de_ms PySem.F.slot_str_join PySem.F.type_str_join mt_joinD de_str (da_cons (de_lc (own := [("_law_part", 1)]) (di_any (de_var 0)) rfl sc_law_stamp.nd (blkOk_by (N := sc_law_stamp.N) (sc := defScope s_law_stamp) (by decide +kernel)) (fun _ _ _ _ _ => (dg_name (i := 1) sc_law_stamp.nd rfl (by first | exact Or.inl rfl | exact Or.inr rfl))) (fun _ _ _ _ _ => dts_nil) (fun _ _ _ _ _ => (de_f ih_law_stamp (da_cons (de_var 1) da_nil) hg (hr.mono (Nat.le_refl _)))) (by decide)) da_nil))) de_str))))))
theorem ok_law_stamp (T : Tx K mg) (n : Nat) : GF P w K mg (0 + n) "_law_stamp" sc_law_stamp.P (m_law_stamp n) := (okr_law_stamp T n)
theorem ok_law_names (T : Tx K mg) : GF P w K mg 2 "_law_names" sc_law_names.P m_law_names := by
  delta m_law_names b_law_names
  exact GF.def0 T.h_law_names sc_law_names rfl (fun base f cdv A outer s H E hg hr =>
      (dss_cons (ds_set (i := 2) (de_lst (da_cons de_str (da_cons de_str (da_cons de_str (da_cons de_str (da_cons de_str (da_cons de_str (da_cons de_str (da_cons de_str (da_cons de_str (da_cons de_str (da_cons de_str (da_cons de_str da_nil))))))))))))) sc_law_names.nd)
      (dss_cons (ds_set (i := 3) (de_f (ok_law_draw T) (da_cons (de_var 0) (da_cons (de_var 1) (da_cons de_int da_nil))) hg (hr.mono (by decide))) sc_law_names.nd)
      (dss_cons (ds_set (i := 4) (de_ix ix_D (de_lst (da_cons de_int (da_cons de_int (da_cons de_int (da_cons de_int da_nil))))) (de_f (ok_law_draw T) (da_cons (de_var 0) (da_cons (de_bin op_addD (de_var 1) de_int) (da_cons de_int da_nil))) hg (hr.mono (by decide)))) sc_law_names.nd)
      (dss_one (ds_ret (de_lc (own := [("_law_j", 5)]) (di_r1 (da_cons (de_bin op_addD de_int (de_f (ok_law_draw T) (da_cons (de_var 0) (da_cons (de_bin op_addD (de_var 1) de_int) (da_cons de_int da_nil))) hg (hr.mono (by decide)))) da_nil) T.z_range) rfl sc_law_names.nd (blkOk_by (N := sc_law_names.N) (sc := defScope s_law_names) (by decide +kernel)) (fun _ _ _ _ _ => (dg_name (i := 5) sc_law_names.nd rfl (by first | exact Or.inl rfl | exact Or.inr rfl))) (fun _ _ _ _ _ => dts_nil) (fun _ _ _ _ _ => (de_ix ix_D (de_var 2) (de_bin op_modD (de_bin op_addD (de_var 3) (de_bin op_mulD (de_var 4) (de_var 5))) de_int))) (by decide))))))))
theorem ok_law_value (T : Tx K mg) : GF P w K mg 2 "_law_value" sc_law_value.P m_law_value := by
  delta m_law_value b_law_value
  exact GF.def0 T.h_law_value sc_law_value rfl (fun base f cdv A outer s H E hg hr =>
      (dss_cons (ds_set (i := 3) (de_bin op_addD (de_lst (da_cons de_int (da_cons de_int (da_cons de_int (da_cons (de_un un_negD de_int) (da_cons de_str (da_cons de_str (da_cons de_str (da_cons (de_tup da_nil) (da_cons (de_tup (da_cons de_int (da_cons de_str da_nil))) (da_cons (de_tup (da_cons de_str (da_cons (de_tup (da_cons de_int da_nil)) da_nil))) (da_cons (de_bin op_powD de_int de_int) (da_cons de_int (da_cons de_int da_nil)))))))))))))) (de_var 2)) sc_law_value.nd)
      (dss_one (ds_ret (de_ix ix_D (de_var 3) (de_f (ok_law_draw T) (da_cons (de_var 0) (da_cons (de_var 1) (da_cons (de_callB call_lenD' (da_cons (de_var 3) da_nil) T.z_len bt_len) da_nil))) hg (hr.mono (by decide))))))))
theorem ok_law_result (T : Tx K mg) : GF P w K mg 31 "_law_result" sc_law_result.P m_law_result := by
  delta m_law_result b_law_result
  exact GF.def0 T.h_law_result sc_law_result rfl (fun base f cdv A outer s H E hg hr =>
      (dss_cons (ds_setLc (i := 3) (own := [("_law_j", 6)]) (di_r1 (da_cons (de_bin op_addD de_int (de_f (ok_law_draw T) (da_cons (de_var 0) (da_cons (de_bin op_addD (de_var 1) de_int) (da_cons de_int da_nil))) hg (hr.mono (by decide)))) da_nil) T.z_range) rfl sc_law_result.nd (blkOk_by (N := sc_law_result.N) (sc := defScope s_law_result) (by decide +kernel)) (fun _ _ _ _ _ => (dg_name (i := 6) sc_law_result.nd rfl (by first | exact Or.inl rfl | exact Or.inr rfl))) (fun _ _ _ _ _ => dts_nil) (fun _ _ _ _ _ => (de_ix ix_D (de_var 2) (de_f (ok_law_draw T) (da_cons (de_var 0) (da_cons (de_bin op_addD (de_var 1) (de_var 6)) (da_cons (de_callB call_lenD' (da_cons (de_var 2) da_nil) T.z_len bt_len) da_nil))) hg (hr.mono (by decide))))) (by decide) rfl rfl (sw_true rfl rfl rfl (by decide +kernel)))
      (dss_cons (ds_set (i := 4) (de_f (ok_law_value T) (da_cons (de_var 0) (da_cons (de_bin op_addD (de_var 1) de_int) (da_cons (de_var 2) da_nil))) hg (hr.mono (by decide))) sc_law_result.nd)
      (dss_cons (ds_set (i := 5) (de_ix ix_D (de_lst (da_cons de_str (da_cons de_str (da_cons de_str (da_cons de_str da_nil))))) (de_f (ok_law_draw T) (da_cons (de_var 0) (da_cons (de_bin op_addD (de_var 1) de_int) (da_cons de_int da_nil))) hg (hr.mono (by decide)))) sc_law_result.nd)
      (dss_cons (ds_if (dt_cmp (op_eqDD hr) bo_eq (de_var 5) de_str)
      (dss_one (ds_ret (de_tup (da_cons (de_tup (da_cons de_str (da_cons (de_var 4) da_nil))) (da_cons (de_bin op_addD de_str (de_f (ok_law_stamp T 30) (da_cons (de_var 4) da_nil) hg (hr.mono (by decide)))) da_nil)))))
      dss_nil)
      (dss_cons (ds_if (dt_cmp (op_eqDD hr) bo_eq (de_var 5) de_str)
      (dss_one (ds_ret (de_tup (da_cons (de_tup (da_cons de_str (da_cons (de_callTy call_tupleD (da_cons (de_var 3) da_nil) T.z_tuple bt_tuple) (da_cons (de_ix ix_D (de_var 2) de_int) da_nil)))) (da_cons (de_bin op_addD (de_bin op_addD (de_bin op_addD de_str (de_ix ix_D (de_var 2) de_int)) de_str) (de_ms PySem.F.slot_str_join PySem.F.type_str_join mt_joinD de_str (da_cons (de_var 3) da_nil))) da_nil)))))
      dss_nil)
      (dss_cons (ds_if (dt_cmp (op_eqDD hr) bo_eq (de_var 5) de_str)
      (dss_one (ds_set (i := 3) (de_bin op_addD (de_var 3) (de_sl (de_var 3) do_none (do_some de_int))) sc_law_result.nd))
      dss_nil)
      (dss_one (ds_ret (de_tup (da_cons (de_tup (da_cons (de_var 5) (da_cons (de_callTy call_tupleD (da_cons (de_var 3) da_nil) T.z_tuple bt_tuple) da_nil))) (da_cons (de_bin op_addD (de_bin op_addD (de_var 5) de_str) (de_ms PySem.F.slot_str_join PySem.F.type_str_join mt_joinD de_str (da_cons (de_var 3) da_nil))) da_nil))))))))))))
theorem ok_law_reason (T : Tx K mg) : GF P w K mg 31 "_law_reason" sc_law_reason.P m_law_reason := by
  delta m_law_reason b_law_reason
  exact GF.def0 T.h_law_reason sc_law_reason rfl (fun base f cdv A outer s H E hg hr =>
      (dss_cons (ds_set (i := 3) (de_f (ok_law_draw T) (da_cons (de_var 0) (da_cons (de_var 1) (da_cons de_int da_nil))) hg (hr.mono (by decide))) sc_law_reason.nd)
      (dss_cons (ds_set (i := 4) (de_ix ix_D (de_var 2) (de_f (ok_law_draw T) (da_cons (de_var 0) (da_cons (de_bin op_addD (de_var 1) de_int) (da_cons (de_callB call_lenD' (da_cons (de_var 2) da_nil) T.z_len bt_len) da_nil))) hg (hr.mono (by decide)))) sc_law_reason.nd)
      (dss_cons (ds_set (i := 5) (de_f (ok_law_stamp T 30) (da_cons (de_f (ok_law_value T) (da_cons (de_var 0) (da_cons (de_bin op_addD (de_var 1) de_int) (da_cons (de_var 2) da_nil))) hg (hr.mono (by decide))) da_nil) hg (hr.mono (by decide))) sc_law_reason.nd)
      (dss_cons (ds_set (i := 6) (de_ix ix_D (de_lst (da_cons (de_tup (da_cons de_str (da_cons (de_var 5) da_nil))) (da_cons (de_tup (da_cons de_str (da_cons (de_var 4) da_nil))) (da_cons (de_tup (da_cons de_str (da_cons (de_var 4) da_nil))) (da_cons (de_tup (da_cons de_str da_nil)) da_nil))))) (de_f (ok_law_draw T) (da_cons (de_var 0) (da_cons (de_bin op_addD (de_var 1) de_int) (da_cons de_int da_nil))) hg (hr.mono (by decide)))) sc_law_reason.nd)
      (dss_cons (ds_set (i := 7) (de_f (ok_law_draw T) (da_cons (de_var 0) (da_cons (de_bin op_addD (de_var 1) de_int) (da_cons de_int da_nil))) hg (hr.mono (by decide))) sc_law_reason.nd)
      (dss_cons (ds_if (dt_cmp (op_eqDD hr) bo_eq (de_var 7) de_int)
      (dss_one (ds_ret (de_tup (da_cons de_non (da_cons de_str da_nil)))))
      dss_nil)
      (dss_cons (ds_if (dt_cmp (op_eqDD hr) bo_eq (de_var 7) de_int)
      (dss_cons (ds_set (i := 8) (de_ix ix_D (de_lst (da_cons de_str (da_cons de_str da_nil))) (de_f (ok_law_draw T) (da_cons (de_var 0) (da_cons (de_bin op_addD (de_var 1) de_int) (da_cons de_int da_nil))) hg (hr.mono (by decide)))) sc_law_reason.nd)
      (dss_one (ds_ret (de_tup (da_cons (de_tup (da_cons (de_var 8) da_nil)) (da_cons (de_var 8) da_nil))))))
      dss_nil)
      (dss_cons (ds_if (dt_cmp (op_eqDD hr) bo_eq (de_var 7) de_int)
      (dss_one (ds_ret (de_tup (da_cons (de_tup (da_cons de_str (da_cons (de_var 4) (da_cons (de_var 5) da_nil)))) (da_cons (de_bin op_addD (de_bin op_addD (de_bin op_addD de_str (de_var 4)) de_str) (de_var 5)) da_nil)))))
      dss_nil)
      (dss_one (ds_ret (de_tup (da_cons (de_tup (da_cons de_str (da_cons (de_var 3) (da_cons (de_var 4) (da_cons (de_var 5) (da_cons (de_var 6) da_nil)))))) (da_cons (de_ms PySem.F.slot_str_join PySem.F.type_str_join mt_joinD de_str (da_cons (de_bin op_addD (de_lst (da_cons de_str (da_cons (de_callTy call_strD (da_cons (de_var 3) da_nil) T.z_str bt_str) (da_cons (de_var 4) (da_cons (de_var 5) da_nil))))) (de_callTy call_listD (da_cons (de_var 6) da_nil) T.z_list bt_list)) da_nil)) da_nil))))))))))))))
theorem ok_law (T : Tx K mg) : GF P w K mg 32 "law" sc_law.P m_law := by
  delta m_law b_law l_law_0
  exact GF.def0 T.h_law sc_law rfl (fun base f cdv A outer s H E hg hr =>
      (dss_cons (ds_set (i := 1) (de_f (ok_law_names T) (da_cons (de_var 0) (da_cons de_int da_nil)) hg (hr.mono (by decide))) sc_law.nd)
      (dss_cons (ds_for [2, 3, 4, 5, 6, 7, 8] (di_r1 (da_cons de_int da_nil) T.z_range) (dg_name (i := 2) sc_law.nd rfl (by first | exact Or.inl rfl | exact Or.inr rfl))
      (dss_cons (ds_set (i := 3) (de_bin op_addD de_int (de_bin op_mulD de_int (de_var 2))) sc_law.nd)
      (dss_cons (ds_unp (js := [4, 5]) (de_f (ok_law_result T) (da_cons (de_var 0) (da_cons (de_var 3) (da_cons (de_var 1) da_nil))) hg (hr.mono (by decide))) (dgs_cons (i := 4) (dgs_cons (i := 5) dgs_nil sc_law.nd rfl (by first | exact Or.inl rfl | exact Or.inr rfl)) sc_law.nd rfl (by first | exact Or.inl rfl | exact Or.inr rfl)) rfl rfl (fun h => pg_tup rfl h))
      (dss_cons (ds_if (dt_cmp (op_neDD hr) bo_ne (de_callB (call_reprD hg hr) (da_cons (de_f (ok_result_text T) (da_cons (de_var 4) da_nil) hg (hr.mono (by decide))) da_nil) T.z_repr bt_repr) (de_callB (call_reprD hg hr) (da_cons (de_var 5) da_nil) T.z_repr bt_repr))
      (dss_one (ds_ret de_bl))
      dss_nil)
      (dss_cons (ds_set (i := 6) (de_ix ix_D (de_lst (da_cons de_str (da_cons de_str (da_cons de_str (da_cons de_str (da_cons de_str da_nil)))))) (de_f (ok_law_draw T) (da_cons (de_var 0) (da_cons (de_bin op_addD (de_var 3) de_int) (da_cons de_int da_nil))) hg (hr.mono (by decide)))) sc_law.nd)
      (dss_cons (ds_set (i := 7) (de_ix ix_D (de_var 1) (de_f (ok_law_draw T) (da_cons (de_var 0) (da_cons (de_bin op_addD (de_var 3) de_int) (da_cons (de_callB call_lenD' (da_cons (de_var 1) da_nil) T.z_len bt_len) da_nil))) hg (hr.mono (by decide)))) sc_law.nd)
      (dss_cons (ds_if (dt_cmp (op_neDD hr) bo_ne (de_callB (call_reprD hg hr) (da_cons (de_f (ok_log_text T) (da_cons (de_tup (da_cons (de_var 6) (da_cons (de_var 7) da_nil))) da_nil) hg (hr.mono (by decide))) da_nil) T.z_repr bt_repr) (de_callB (call_reprD hg hr) (da_cons (de_bin op_addD (de_bin op_addD (de_var 6) de_str) (de_var 7)) da_nil) T.z_repr bt_repr))
      (dss_one (ds_ret de_bl))
      dss_nil)
      (dss_cons (ds_unp (js := [8, 5]) (de_f (ok_law_reason T) (da_cons (de_var 0) (da_cons (de_bin op_addD (de_var 3) de_int) (da_cons (de_var 1) da_nil))) hg (hr.mono (by decide))) (dgs_cons (i := 8) (dgs_cons (i := 5) dgs_nil sc_law.nd rfl (by first | exact Or.inl rfl | exact Or.inr rfl)) sc_law.nd rfl (by first | exact Or.inl rfl | exact Or.inr rfl)) rfl rfl (fun h => pg_tup rfl h))
      (dss_one (ds_if (dt_cmp (op_neDD hr) bo_ne (de_callB (call_reprD hg hr) (da_cons (de_f (ok_reason_text T) (da_cons (de_var 8) da_nil) hg (hr.mono (by decide))) da_nil) T.z_repr bt_repr) (de_callB (call_reprD hg hr) (da_cons (de_var 5) da_nil) T.z_repr bt_repr))
      (dss_one (ds_ret de_bl))
      dss_nil))))))))) PassesOwn.never rfl)
      (dss_one (ds_ret de_bl)))))
end
theorem tx_mk {K : PySem.W.Frag} {h : Heap} {mg : Str → Option Value} (X : K.In h) (G : h.Ns mainGlobals mg)
    (z_int : PySem.W.nsIn K mainGlobals "int" = some none)
    (z_isinstance : PySem.W.nsIn K mainGlobals "isinstance" = some none)
    (z_len : PySem.W.nsIn K mainGlobals "len" = some none)
    (z_list : PySem.W.nsIn K mainGlobals "list" = some none)
    (z_min : PySem.W.nsIn K mainGlobals "min" = some none)
    (z_range : PySem.W.nsIn K mainGlobals "range" = some none)
    (z_repr : PySem.W.nsIn K mainGlobals "repr" = some none)
    (z_str : PySem.W.nsIn K mainGlobals "str" = some none)
    (z_tuple : PySem.W.nsIn K mainGlobals "tuple" = some none)
    {f_stamp_of : Addr} {oc_stamp_of kV_stamp_of dc_stamp_of pm_stamp_of cd_stamp_of ct_stamp_of : Value} {od_stamp_of an_stamp_of : Option Addr} {sl_stamp_of : Array (Option Value)} (a_stamp_of : PySem.W.nsIn K mainGlobals "stamp_of" = some (some (.ref f_stamp_of)))
    (l_stamp_of : K.lookup f_stamp_of = some ⟨oc_stamp_of, od_stamp_of, .func (PySem.W.fnOf "stamp_of" "stamp_of" (defArgs s_stamp_of) (defBody s_stamp_of) (defScope s_stamp_of) .none kV_stamp_of dc_stamp_of pm_stamp_of an_stamp_of cd_stamp_of ct_stamp_of), sl_stamp_of⟩) (c_stamp_of : PySem.W.codeIn K cd_stamp_of "stamp_of" = true) (k_stamp_of : PySem.W.keepIn K (.ref f_stamp_of) = true)
    {f_result_text : Addr} {oc_result_text kV_result_text dc_result_text pm_result_text cd_result_text ct_result_text : Value} {od_result_text an_result_text : Option Addr} {sl_result_text : Array (Option Value)} (a_result_text : PySem.W.nsIn K mainGlobals "result_text" = some (some (.ref f_result_text)))
    (l_result_text : K.lookup f_result_text = some ⟨oc_result_text, od_result_text, .func (PySem.W.fnOf "result_text" "result_text" (defArgs s_result_text) (defBody s_result_text) (defScope s_result_text) .none kV_result_text dc_result_text pm_result_text an_result_text cd_result_text ct_result_text), sl_result_text⟩) (c_result_text : PySem.W.codeIn K cd_result_text "result_text" = true) (k_result_text : PySem.W.keepIn K (.ref f_result_text) = true)
    {f_log_text : Addr} {oc_log_text kV_log_text dc_log_text pm_log_text cd_log_text ct_log_text : Value} {od_log_text an_log_text : Option Addr} {sl_log_text : Array (Option Value)} (a_log_text : PySem.W.nsIn K mainGlobals "log_text" = some (some (.ref f_log_text)))
    (l_log_text : K.lookup f_log_text = some ⟨oc_log_text, od_log_text, .func (PySem.W.fnOf "log_text" "log_text" (defArgs s_log_text) (defBody s_log_text) (defScope s_log_text) .none kV_log_text dc_log_text pm_log_text an_log_text cd_log_text ct_log_text), sl_log_text⟩) (c_log_text : PySem.W.codeIn K cd_log_text "log_text" = true) (k_log_text : PySem.W.keepIn K (.ref f_log_text) = true)
    {f_reason_text : Addr} {oc_reason_text kV_reason_text dc_reason_text pm_reason_text cd_reason_text ct_reason_text : Value} {od_reason_text an_reason_text : Option Addr} {sl_reason_text : Array (Option Value)} (a_reason_text : PySem.W.nsIn K mainGlobals "reason_text" = some (some (.ref f_reason_text)))
    (l_reason_text : K.lookup f_reason_text = some ⟨oc_reason_text, od_reason_text, .func (PySem.W.fnOf "reason_text" "reason_text" (defArgs s_reason_text) (defBody s_reason_text) (defScope s_reason_text) .none kV_reason_text dc_reason_text pm_reason_text an_reason_text cd_reason_text ct_reason_text), sl_reason_text⟩) (c_reason_text : PySem.W.codeIn K cd_reason_text "reason_text" = true) (k_reason_text : PySem.W.keepIn K (.ref f_reason_text) = true)
    {f_law_draw : Addr} {oc_law_draw kV_law_draw dc_law_draw pm_law_draw cd_law_draw ct_law_draw : Value} {od_law_draw an_law_draw : Option Addr} {sl_law_draw : Array (Option Value)} (a_law_draw : PySem.W.nsIn K mainGlobals "_law_draw" = some (some (.ref f_law_draw)))
    (l_law_draw : K.lookup f_law_draw = some ⟨oc_law_draw, od_law_draw, .func (PySem.W.fnOf "_law_draw" "_law_draw" (defArgs s_law_draw) (defBody s_law_draw) (defScope s_law_draw) .none kV_law_draw dc_law_draw pm_law_draw an_law_draw cd_law_draw ct_law_draw), sl_law_draw⟩) (c_law_draw : PySem.W.codeIn K cd_law_draw "_law_draw" = true) (k_law_draw : PySem.W.keepIn K (.ref f_law_draw) = true)
    {f_law_stamp : Addr} {oc_law_stamp kV_law_stamp dc_law_stamp pm_law_stamp cd_law_stamp ct_law_stamp : Value} {od_law_stamp an_law_stamp : Option Addr} {sl_law_stamp : Array (Option Value)} (a_law_stamp : PySem.W.nsIn K mainGlobals "_law_stamp" = some (some (.ref f_law_stamp)))
    (l_law_stamp : K.lookup f_law_stamp = some ⟨oc_law_stamp, od_law_stamp, .func (PySem.W.fnOf "_law_stamp" "_law_stamp" (defArgs s_law_stamp) (defBody s_law_stamp) (defScope s_law_stamp) .none kV_law_stamp dc_law_stamp pm_law_stamp an_law_stamp cd_law_stamp ct_law_stamp), sl_law_stamp⟩) (c_law_stamp : PySem.W.codeIn K cd_law_stamp "_law_stamp" = true) (k_law_stamp : PySem.W.keepIn K (.ref f_law_stamp) = true)
    {f_law_names : Addr} {oc_law_names kV_law_names dc_law_names pm_law_names cd_law_names ct_law_names : Value} {od_law_names an_law_names : Option Addr} {sl_law_names : Array (Option Value)} (a_law_names : PySem.W.nsIn K mainGlobals "_law_names" = some (some (.ref f_law_names)))
    (l_law_names : K.lookup f_law_names = some ⟨oc_law_names, od_law_names, .func (PySem.W.fnOf "_law_names" "_law_names" (defArgs s_law_names) (defBody s_law_names) (defScope s_law_names) .none kV_law_names dc_law_names pm_law_names an_law_names cd_law_names ct_law_names), sl_law_names⟩) (c_law_names : PySem.W.codeIn K cd_law_names "_law_names" = true) (k_law_names : PySem.W.keepIn K (.ref f_law_names) = true)
    {f_law_value : Addr} {oc_law_value kV_law_value dc_law_value pm_law_value cd_law_value ct_law_value : Value} {od_law_value an_law_value : Option Addr} {sl_law_value : Array (Option Value)} (a_law_value : PySem.W.nsIn K mainGlobals "_law_value" = some (some (.ref f_law_value)))
    (l_law_value : K.lookup f_law_value = some ⟨oc_law_value, od_law_value, .func (PySem.W.fnOf "_law_value" "_law_value" (defArgs s_law_value) (defBody s_law_value) (defScope s_law_value) .none kV_law_value dc_law_value pm_law_value an_law_value cd_law_value ct_law_value), sl_law_value⟩) (c_law_value : PySem.W.codeIn K cd_law_value "_law_value" = true) (k_law_value : PySem.W.keepIn K (.ref f_law_value) = true)
    {f_law_result : Addr} {oc_law_result kV_law_result dc_law_result pm_law_result cd_law_result ct_law_result : Value} {od_law_result an_law_result : Option Addr} {sl_law_result : Array (Option Value)} (a_law_result : PySem.W.nsIn K mainGlobals "_law_result" = some (some (.ref f_law_result)))
    (l_law_result : K.lookup f_law_result = some ⟨oc_law_result, od_law_result, .func (PySem.W.fnOf "_law_result" "_law_result" (defArgs s_law_result) (defBody s_law_result) (defScope s_law_result) .none kV_law_result dc_law_result pm_law_result an_law_result cd_law_result ct_law_result), sl_law_result⟩) (c_law_result : PySem.W.codeIn K cd_law_result "_law_result" = true) (k_law_result : PySem.W.keepIn K (.ref f_law_result) = true)
    {f_law_reason : Addr} {oc_law_reason kV_law_reason dc_law_reason pm_law_reason cd_law_reason ct_law_reason : Value} {od_law_reason an_law_reason : Option Addr} {sl_law_reason : Array (Option Value)} (a_law_reason : PySem.W.nsIn K mainGlobals "_law_reason" = some (some (.ref f_law_reason)))
    (l_law_reason : K.lookup f_law_reason = some ⟨oc_law_reason, od_law_reason, .func (PySem.W.fnOf "_law_reason" "_law_reason" (defArgs s_law_reason) (defBody s_law_reason) (defScope s_law_reason) .none kV_law_reason dc_law_reason pm_law_reason an_law_reason cd_law_reason ct_law_reason), sl_law_reason⟩) (c_law_reason : PySem.W.codeIn K cd_law_reason "_law_reason" = true) (k_law_reason : PySem.W.keepIn K (.ref f_law_reason) = true)
    {f_law : Addr} {oc_law kV_law dc_law pm_law cd_law ct_law : Value} {od_law an_law : Option Addr} {sl_law : Array (Option Value)} (a_law : PySem.W.nsIn K mainGlobals "law" = some (some (.ref f_law)))
    (l_law : K.lookup f_law = some ⟨oc_law, od_law, .func (PySem.W.fnOf "law" "law" (defArgs s_law) (defBody s_law) (defScope s_law) .none kV_law dc_law pm_law an_law cd_law ct_law), sl_law⟩) (c_law : PySem.W.codeIn K cd_law "law" = true) (k_law : PySem.W.keepIn K (.ref f_law) = true)
    : Tx K mg where
  z_int := PySem.W.mg_none_of X G z_int
  z_isinstance := PySem.W.mg_none_of X G z_isinstance
  z_len := PySem.W.mg_none_of X G z_len
  z_list := PySem.W.mg_none_of X G z_list
  z_min := PySem.W.mg_none_of X G z_min
  z_range := PySem.W.mg_none_of X G z_range
  z_repr := PySem.W.mg_none_of X G z_repr
  z_str := PySem.W.mg_none_of X G z_str
  z_tuple := PySem.W.mg_none_of X G z_tuple
  h_stamp_of := hd_mk (ps := sc_stamp_of.P) (fun _ _ _ _ _ _ us hl => match us, hl with | [_], _ => rfl) X G a_stamp_of l_stamp_of c_stamp_of k_stamp_of
  h_result_text := hd_mk (ps := sc_result_text.P) (fun _ _ _ _ _ _ us hl => match us, hl with | [_], _ => rfl) X G a_result_text l_result_text c_result_text k_result_text
  h_log_text := hd_mk (ps := sc_log_text.P) (fun _ _ _ _ _ _ us hl => match us, hl with | [_], _ => rfl) X G a_log_text l_log_text c_log_text k_log_text
  h_reason_text := hd_mk (ps := sc_reason_text.P) (fun _ _ _ _ _ _ us hl => match us, hl with | [_], _ => rfl) X G a_reason_text l_reason_text c_reason_text k_reason_text
  h_law_draw := hd_mk (ps := sc_law_draw.P) (fun _ _ _ _ _ _ us hl => match us, hl with | [_, _, _], _ => rfl) X G a_law_draw l_law_draw c_law_draw k_law_draw
  h_law_stamp := hd_mk (ps := sc_law_stamp.P) (fun _ _ _ _ _ _ us hl => match us, hl with | [_], _ => rfl) X G a_law_stamp l_law_stamp c_law_stamp k_law_stamp
  h_law_names := hd_mk (ps := sc_law_names.P) (fun _ _ _ _ _ _ us hl => match us, hl with | [_, _], _ => rfl) X G a_law_names l_law_names c_law_names k_law_names
  h_law_value := hd_mk (ps := sc_law_value.P) (fun _ _ _ _ _ _ us hl => match us, hl with | [_, _, _], _ => rfl) X G a_law_value l_law_value c_law_value k_law_value
  h_law_result := hd_mk (ps := sc_law_result.P) (fun _ _ _ _ _ _ us hl => match us, hl with | [_, _, _], _ => rfl) X G a_law_result l_law_result c_law_result k_law_result
  h_law_reason := hd_mk (ps := sc_law_reason.P) (fun _ _ _ _ _ _ us hl => match us, hl with | [_, _, _], _ => rfl) X G a_law_reason l_law_reason c_law_reason k_law_reason
  h_law := hd_mk (ps := sc_law.P) (fun _ _ _ _ _ _ us hl => match us, hl with | [_], _ => rfl) X G a_law l_law c_law k_law
end W

namespace W
open PySem L2 Fw PySem.Spec PyProof.Rows
local macro_rules | `(tactic| walk_at "ev") => `(tactic| simp (disch := first | omega | (simp; done) | (simp; omega)))
theorem draw_ok (ns : List Int) (k n : Int) (hk : 0 ≤ k) (hk2 : k < 1000000) (hn : 0 < n) (hl : ns.length ≤ 63) : Tells (m_law_draw [.d (.list (ns.map .int)), .d (.int k), .d (.int n)]) (fun d => ∃ r, d = .fro (.int r) ∧ 0 ≤ r ∧ r < n) := by
  unfold m_law_draw b_law_draw
  have em : ∀ x : Int, 0 ≤ x % n ∧ x % n < n := fun x => ⟨Int.emod_nonneg x (by omega), Int.emod_lt_of_pos x hn⟩
  simp (disch := first | omega | (simp; done) | (simp; omega))
  by_cases h : 0 < ns.length
  · have h0 : 0 ≤ k % (ns.length : Int) := Int.emod_nonneg k (by omega)
    have h1 : k % (ns.length : Int) < ns.length := Int.emod_lt_of_pos k (by omega)
    have h2 : 0 ≤ k / (ns.length : Int) := Int.ediv_nonneg hk (by omega)
    simp only [h, decide_true, cnd_true]
    simp (disch := first | omega | (simp; done) | (simp; omega))
    generalize decide ((1000000000000000000 : Int) ≤ _) = c1

    cases c1
    · simp (disch := first | omega | (simp; done) | (simp; omega))
      exact em _
    · simp (disch := first | omega | (simp; done) | (simp; omega))
      generalize decide ((127 : Int) < _) = c2
      cases c2
      · simp (disch := first | omega | (simp; done) | (simp; omega))
        exact em _
      · simp (disch := first | omega | (simp; done) | (simp; omega))
        exact em _
  · simp only [h, decide_false, cnd_false]
    simp (disch := first | omega | (simp; done) | (simp; omega))
    exact em _
end W

namespace W
open PySem L2 Fw PySem.Spec PyProof.Rows
local macro_rules | `(tactic| walk_at "ev") => `(tactic| simp (disch := first | omega | (simp; done) | (simp; omega)))
theorem stamp_of_ok (n : Nat) : ∀ v : Val, v.dep < n → v.Ok → v.wt ≤ 16000000 → Tells (m_stamp_of n [.d v.toD]) (fun q => q = .fro (.str v.stamp)) := by
  induction n with
  | zero => intro v h; cases h
  | succ n ih =>
    intro v h o w
    unfold m_stamp_of
    cases v with
    | i k =>
      have o' : k.natAbs.log2 < 1920 := o
      walk_at "ev"
    | s x =>
      have w' : x.length + 1 ≤ 16000000 := w
      walk_at "ev"
    | r vs =>
      have w' : 2 + Val.wts vs ≤ 16000000 := w
      have hd : ∀ v ∈ vs, v.dep < n := fun v hv => by have := Val.deps_le hv; have h' : 1 + Val.deps vs < n + 1 := h; omega
      have j := Val.jlen_wts vs fun v hv => Val.stamp_len n v (hd v hv)
      have j2 := Val.join_le "," (vs.map Val.stamp)
      have hl : vs.length ≤ Val.wts vs := by rw [Val.wts_eq]; omega
      walk_at "ev"
      rw [eLc_map vs Val.toD (fun v => .str v.stamp) (Γ1 := [.d (.tuple (vs.map Val.toD)), .no]) (by walk_at "ev") (by omega) ?_]
      · walk_at "ev"
      · intro v hv
        obtain ⟨r, hr, e⟩ := (ih v (hd v hv) (Val.oks_mem o hv) (by have := Val.wts_mem hv; omega)).call
        subst e
        exact ⟨_, _, .fro (.str v.stamp), rfl, rfl, by walk_at "ev"; rw [hr], rfl, by walk_at "ev"⟩
end W

namespace W
open PySem L2 Fw PySem.Spec PyProof.Rows
local macro_rules | `(tactic| walk_at "ev") => `(tactic| simp (disch := first | omega | (simp; done) | (simp; omega)) [*, -List.getD_eq_getElem?_getD])
def menu : List Str := ["a", "ab", "abc", "b", "told", "made", "say", "want", "wants", "ba", "zz", "x"]
@[simp] theorem menu_eq : ([.str "a", .str "ab", .str "abc", .str "b", .str "told", .str "made", .str "say", .str "want", .str "wants", .str "ba", .str "zz", .str "x"] : List D) = menu.map .str := rfl
def steps : List Int := [1, 5, 7, 11]
@[simp] theorem steps_eq : ([.int 1, .int 5, .int 7, .int 11] : List D) = steps.map .int := rfl
@[simp] theorem menu_len : menu.length = 12 := rfl
@[simp] theorem steps_len : steps.length = 4 := rfl
theorem getD_mem {α : Type} {xs : List α} {n : Nat} {d : α} (h : n < xs.length) : xs.getD n d ∈ xs := by
  rw [List.getD_eq_getElem?_getD, List.getElem?_eq_getElem h]
  exact List.getElem_mem h
theorem steps_mem : ∀ x ∈ steps, 0 ≤ x ∧ x ≤ 11 := by decide
theorem names_ok (ns : List Int) (k : Int) (hk : 0 ≤ k) (hk2 : k < 900000) (hl : ns.length ≤ 63) : Tells (m_law_names [.d (.list (ns.map .int)), .d (.int k)]) (fun q => ∃ ys : List Str, q = .own (.lst (ys.map .str)) ∧ 4 ≤ ys.length ∧ ys.length ≤ 7 ∧ ∀ y ∈ ys, y ∈ menu) := by
  unfold m_law_names b_law_names
  obtain ⟨_, e1, r1, rfl, a1, b1⟩ := (draw_ok ns k 12 (by omega) (by omega) (by omega) hl).call
  obtain ⟨_, e2, r2, rfl, a2, b2⟩ := (draw_ok ns (k + 1) 4 (by omega) (by omega) (by omega) hl).call
  obtain ⟨_, e3, r3, rfl, a3, b3⟩ := (draw_ok ns (k + 2) 4 (by omega) (by omega) (by omega) hl).call
  have hs := steps_mem _ (getD_mem (xs := steps) (n := r2.toNat) (d := 0) (by simp; omega))
  walk_at "ev"
  generalize steps.getD r2.toNat 0 = st at hs ⊢
  have hm : ∀ x : Nat, 0 ≤ (r1 + st * x) % 12 ∧ (r1 + st * x) % 12 < 12 := fun x => ⟨by omega, by omega⟩
  rw [eLc_map1 (List.range (4 + r3).toNat) (fun i => .int ((i : Nat) : Int)) (fun i => .str (menu.getD ((r1 + st * (i : Nat)) % 12).toNat "")) [.d (.list (ns.map .int)), .d (.int k), .d (.list (menu.map .str)), .d (.int r1), .d (.int st), .no] (iR1_eq (Γ1 := [.d (.list (ns.map .int)), .d (.int k), .ow (.lst (menu.map .str)), .d (.int r1), .d (.int st), .no]) (n := 4 + r3) (by walk_at "ev") (by omega)) (by simp; omega) (rng_ne (by omega)) ?_]
  · walk_at "ev"
    refine ⟨(List.range (4 + r3).toNat).map fun i => menu.getD ((r1 + st * (i : Nat)) % 12).toNat "", ?_, ?_, ?_, ?_⟩
    · simp
    · simp; omega
    · simp; omega
    · intro y hy
      obtain ⟨i, _, rfl⟩ := List.mem_map.mp hy
      have := hm i
      exact getD_mem (by simp; omega)
  · intro x hx Γ0 hΓ
    have := hm x
    rcases hΓ with rfl | rfl
    · refine ⟨_, _, .fro (.str _), rfl, rfl, by walk_at "ev"; rfl, rfl, ?_⟩
      walk_at "ev"
    · refine ⟨_, _, .fro (.str _), rfl, rfl, by walk_at "ev"; rfl, rfl, ?_⟩
      walk_at "ev"
end W

namespace W
open PySem L2 Fw PySem.Spec PyProof.Rows
local macro_rules | `(tactic| walk_at "ev") => `(tactic| simp (disch := first | omega | (simp; done) | (simp; omega)) [*, -List.getD_eq_getElem?_getD])
/-- signs that stand in a text of the program -/
def Chr (x : Str) : Prop := ∀ c ∈ x.cps.toList, c < 16 ^ 8
theorem chr_of (s : String) : Chr (Str.ofString s) := by
  intro c h
  rw [Str.ofString_eq_toList] at h
  have : c ∈ (s.toList.map fun c => c.toNat) := by simpa using h
  obtain ⟨d, _, rfl⟩ := List.mem_map.mp this
  have := d.valid
  have h2 : d.val.toNat.isValidChar := this
  show d.val.toNat < 16 ^ 8
  rcases h2 with h2 | h2
  · omega
  · omega
theorem chr_app {x y : Str} (hx : Chr x) (hy : Chr y) : Chr (x ++ y) := by
  intro c h
  have : c ∈ (x.cps ++ y.cps).toList := h
  rw [Array.toList_append] at this
  rcases List.mem_append.mp this with h | h
  · exact hx c h
  · exact hy c h
theorem chr_join {y : Str} (hy : Chr y) : ∀ xs : List Str, (∀ x ∈ xs, Chr x) → Chr (Str.join y xs)
  | [], _ => chr_of ""
  | [x], h => h x (by simp)
  | x :: z :: r, h => by
    show Chr (x ++ y ++ Str.join y (z :: r))
    exact chr_app (chr_app (h x (by simp)) hy) (chr_join hy (z :: r) fun e he => h e (List.mem_cons_of_mem _ he))
theorem chr_i (n : Int) : Chr (Val.i n).stamp := chr_of _
theorem chr_s {x : Str} (h : Chr x) : Chr (Val.s x).stamp := chr_app (chr_of _) h
theorem chr_r {vs : List Val} (h : ∀ v ∈ vs, Chr v.stamp) : Chr (Val.r vs).stamp := by
  rw [Val.stamp_r, txt_join]
  refine chr_app (chr_app (chr_of _) (chr_join (chr_of _) _ ?_)) (chr_of _)
  intro x hx
  obtain ⟨v, hv, rfl⟩ := List.mem_map.mp hx
  exact h v hv
theorem chr_nil : ∀ v ∈ ([] : List Val), Chr v.stamp := by intro v h; cases h
theorem chr_cons {v : Val} {vs : List Val} (h : Chr v.stamp) (hs : ∀ v ∈ vs, Chr v.stamp) : ∀ w ∈ v :: vs, Chr w.stamp := by
  intro w hw
  rcases List.mem_cons.mp hw with rfl | hw
  · exact h
  · exact hs w hw
def vals : List Val := [.i 0, .i 1, .i 2, .i (-3), .s "", .s "a", .s "-0", .r [], .r [.i 1, .s "b"], .r [.s "a", .r [.i 0]], .i 1000000000000000000, .i 1, .i 0]
@[simp] theorem vals_len : vals.length = 13 := rfl
theorem vals_eq : ([.int 0, .int 1, .int 2, .int (-3), .str "", .str "a", .str "-0", .tuple [], .tuple [.int 1, .str "b"], .tuple [.str "a", .tuple [.int 0]], .int 1000000000000000000, .int 1, .int 0] : List D) = vals.map Val.toD := rfl
structure VOk (v : Val) : Prop where
  dep : v.dep < 5
  ok : v.Ok
  wt : v.wt ≤ 100
  chr : Chr v.stamp
theorem vals_ok : ∀ v ∈ vals, VOk v := by
  intro v h
  simp only [vals, List.mem_cons, List.not_mem_nil, or_false] at h
  rcases h with rfl | rfl | rfl | rfl | rfl | rfl | rfl | rfl | rfl | rfl | rfl | rfl | rfl <;> refine ⟨by decide, ?_, by decide, ?_⟩
  all_goals first
    | (simp [Val.Ok, Val.Oks]; done)
    | (simp [Val.Ok, Val.Oks]; decide)
    | exact chr_i _
    | exact chr_s (chr_of _)
    | exact chr_r chr_nil
    | exact chr_r (chr_cons (chr_i _) (chr_cons (chr_s (chr_of _)) chr_nil))
    | exact chr_r (chr_cons (chr_s (chr_of _)) (chr_cons (chr_r (chr_cons (chr_i _) chr_nil)) chr_nil))
theorem menu_ok : ∀ x ∈ menu, VOk (.s x) := by
  intro v h
  have : ∀ x ∈ menu, (Val.s x).dep < 5 ∧ (Val.s x).wt ≤ 100 := by decide
  refine ⟨(this _ h).1, trivial, (this _ h).2, ?_⟩
  rw [Val.stamp_s]
  refine chr_app (chr_of _) ?_
  have : ∀ x ∈ menu, ∀ c ∈ x.cps.toList, c < 16 ^ 8 := by decide
  exact this v h
end W

namespace W
open PySem L2 Fw PySem.Spec PyProof.Rows
local macro_rules | `(tactic| walk_at "ev") => `(tactic| simp (disch := first | omega | (simp; done) | (simp; omega)) [*, -List.getD_eq_getElem?_getD])
theorem law_stamp_ok (n : Nat) : ∀ v : Val, v.dep < n → v.Ok → v.wt ≤ 16000000 → Tells (m_law_stamp n [.d v.toD]) (fun q => q = .fro (.str v.stamp)) := by
  induction n with
  | zero => intro v h; cases h
  | succ n ih =>
    intro v h o w
    unfold m_law_stamp
    cases v with
    | i k =>
      have o' : k.natAbs.log2 < 1920 := o
      walk_at "ev"
    | s x =>
      have w' : x.length + 1 ≤ 16000000 := w
      walk_at "ev"
    | r vs =>
      have w' : 2 + Val.wts vs ≤ 16000000 := w
      have hd : ∀ v ∈ vs, v.dep < n := fun v hv => by have := Val.deps_le hv; have h' : 1 + Val.deps vs < n + 1 := h; omega
      have j := Val.jlen_wts vs fun v hv => Val.stamp_len n v (hd v hv)
      have j2 := Val.join_le "," (vs.map Val.stamp)
      have hl : vs.length ≤ Val.wts vs := by rw [Val.wts_eq]; omega
      simp (disch := first | omega | (simp; done) | (simp; omega))
      rw [eLc_map vs Val.toD (fun v => .str v.stamp) (Γ1 := [.d (.tuple (vs.map Val.toD)), .no]) (by walk_at "ev") (by omega) ?_]
      · simp (disch := first | omega | (simp; done) | (simp; omega))
      · intro v hv
        obtain ⟨r, hr, e⟩ := (ih v (hd v hv) (Val.oks_mem o hv) (by have := Val.wts_mem hv; omega)).call
        subst e
        exact ⟨_, _, .fro (.str v.stamp), rfl, rfl, by simp; rw [hr], rfl, by simp⟩
theorem str_vals (ys : List Str) : (ys.map .str : List D) = (ys.map Val.s).map Val.toD := by rw [List.map_map]; rfl
theorem ix_v {vs : List Val} {i : Int} (h : 0 ≤ i ∧ i < vs.length) : dIx (.list (vs.map Val.toD)) (.int i) = .ok (.fro (vs.getD i.toNat (.i 0)).toD) := by
  rw [ix_l (by rw [List.length_map]; exact h)]
  exact congrArg (fun z => Res.ok (R.fro z)) (getD_map Val.toD vs _ .none (.i 0) (by omega))
@[simp] theorem vals_cons (ys : List Str) : (.int 0 :: .int 1 :: .int 2 :: .int (-3) :: .str "" :: .str "a" :: .str "-0" :: .tuple [] :: .tuple [.int 1, .str "b"] :: .tuple [.str "a", .tuple [.int 0]] :: .int 1000000000000000000 :: .int 1 :: .int 0 :: ys.map .str : List D) = (vals ++ ys.map Val.s).map Val.toD := by
  rw [List.map_append, ← vals_eq, ← str_vals]
  rfl
theorem value_ok (ns : List Int) (ys : List Str) (k : Int) (hk : 0 ≤ k) (hk2 : k < 900000) (hl : ns.length ≤ 63) (hy1 : 4 ≤ ys.length) (hy2 : ys.length ≤ 7) (hy : ∀ y ∈ ys, y ∈ menu) : Tells (m_law_value [.d (.list (ns.map .int)), .d (.int k), .d (.list (ys.map .str))]) (fun q => ∃ v, q = .fro v.toD ∧ VOk v) := by
  unfold m_law_value b_law_value
  obtain ⟨_, e1, r1, rfl, a1, b1⟩ := (draw_ok ns k (13 + ys.length) (by omega) (by omega) (by omega) hl).call
  have hv : (vals ++ ys.map Val.s).length = 13 + ys.length := by simp
  have hi : dIx (.list ((vals ++ ys.map Val.s).map Val.toD)) (.int r1) = .ok (.fro ((vals ++ ys.map Val.s).getD r1.toNat (.i 0)).toD) := ix_v ⟨a1, by omega⟩
  simp (disch := first | omega | (simp; done) | (simp; omega)) [e1, hi, -List.map_append, -List.getD_eq_getElem?_getD]
  refine ⟨_, rfl, ?_⟩
  rcases List.mem_append.mp (getD_mem (xs := vals ++ ys.map Val.s) (n := r1.toNat) (d := .i 0) (by omega)) with h | h
  · exact vals_ok _ h
  · obtain ⟨y, h1, h2⟩ := List.mem_map.mp h
    rw [← h2]
    exact menu_ok y (hy y h1)
end W

namespace W
open PySem L2 Fw PySem.Spec PyProof.Rows
local macro_rules | `(tactic| walk_at "ev") => `(tactic| simp (disch := first | omega | (simp; done) | (simp; omega)) [*, -List.getD_eq_getElem?_getD, List.getD_cons_zero, List.getD_cons_succ])
theorem menu_chr : ∀ x ∈ menu, Chr x ∧ x.length ≤ 5 := by
  have : ∀ x ∈ menu, (∀ c ∈ x.cps.toList, c < 16 ^ 8) ∧ x.length ≤ 5 := by decide
  exact this
/-- names of the menu -/
structure Nms (zs : List Str) : Prop where
  ne : zs ≠ []
  len : zs.length ≤ 9
  mem : ∀ z ∈ zs, z ∈ menu
theorem Nms.chr {zs : List Str} (h : Nms zs) : Chr (Str.join " " zs) := chr_join (chr_of _) _ fun z hz => (menu_chr z (h.mem z hz)).1
theorem jl_le {zs : List Str} (h : ∀ z ∈ zs, z.length ≤ 100) : jlen " " zs ≤ 101 * zs.length := by
  unfold jlen
  have e : ((" " : Str)).length = 1 := rfl
  rw [e]
  have := Val.sum_le (fun z : Str => z.length) (fun _ => 100) zs h
  have e2 : (zs.map fun _ => 100).sum = 100 * zs.length := by
    clear this h
    induction zs with
    | nil => rfl
    | cons z zs ih => simp only [List.map_cons, List.sum_cons, ih, List.length_cons]; omega
  have e3 : zs.map (fun z : Str => z.length) = zs.map (·.length) := rfl
  omega
theorem join_le2 {zs : List Str} (h : ∀ z ∈ zs, z.length ≤ 100) : (Str.join " " zs).length ≤ 101 * zs.length := Nat.le_trans (by rw [← txt_join]; exact Val.join_le " " zs) (jl_le h)
theorem Nms.j {zs : List Str} (h : Nms zs) : jlen " " zs ≤ 909 := by
  have := jl_le fun z hz => Nat.le_trans (menu_chr z (h.mem z hz)).2 (by decide)
  have := h.len
  omega
theorem Nms.l {zs : List Str} (h : Nms zs) : (Str.join " " zs).length ≤ 909 := Nat.le_trans (by rw [← txt_join]; exact Val.join_le " " zs) h.j
theorem jlc (x : Str) (zs : List Str) : jlen " " (x :: zs) = x.length + 1 + jlen " " zs := Val.jlen_cons " " x zs
theorem rt_made {v : Val} (h : VOk v) : Tells (m_result_text [.d (.tuple [.str "made", v.toD])]) (fun q => q = .fro (.str ("made " ++ v.stamp))) := by
  unfold m_result_text b_result_text
  obtain ⟨r, e, rfl⟩ := (stamp_of_ok 30 v (Nat.lt_trans h.dep (by decide)) h.ok (Nat.le_trans h.wt (by decide))).call
  have hl := Val.stamp_len 5 v h.dep
  have := h.wt
  walk_at "ev"
theorem rt_fails {zs : List Str} (h : Nms zs) {n : Str} (hn : n ∈ menu) : Tells (m_result_text [.d (.tuple [.str "fails", .tuple (zs.map .str), .str n])]) (fun q => q = .fro (.str ("fails " ++ n ++ " by " ++ Str.join " " zs))) := by
  unfold m_result_text b_result_text
  have hj := h.j
  have hl := h.len
  have := (menu_chr n hn).2
  have e : dJoin (.str " ") (.list (.str "fails" :: .str n :: .str "by" :: zs.map .str)) = .ok (.fro (.str (Str.join " " ("fails" :: n :: "by" :: zs)))) := joinL _ rfl (by 
      have e1 : ("fails" : Str).length = 5 := by decide
      have e2 : ("by" : Str).length = 2 := by decide
      rw [jlc, jlc, jlc]
      omega)
  simp (decide := true) (disch := first | omega | (simp; done) | (simp; omega))
  rw [e]
  simp
  cases zs with
  | nil => exact absurd rfl h.ne
  | cons z zs =>
    rw [join_2, join_2, join_2]
    have e1 : (Str.ofString "fails ") = Str.ofString "fails" ++ Str.ofString " " := by decide
    have e2 : (Str.ofString " by ") = Str.ofString " " ++ Str.ofString "by" ++ Str.ofString " " := by decide
    rw [e1, e2]
    simp only [Str.append_assoc]
theorem rt_other {s : Str} (hs : s = "lacks" ∨ s = "ring") {zs : List Str} (h : Nms zs) : Tells (m_result_text [.d (.tuple [.str s, .tuple (zs.map .str)])]) (fun q => q = .fro (.str (s ++ " by " ++ Str.join " " zs))) := by
  have hj := h.j
  have hl := h.len
  have e : dJoin (.str " ") (.list (.str s :: .str "by" :: zs.map .str)) = .ok (.fro (.str (Str.join " " (s :: "by" :: zs)))) := joinL _ rfl (by 
      have e1 : s.length ≤ 5 := by rcases hs with rfl | rfl <;> decide
      have e2 : ("by" : Str).length = 2 := by decide
      rw [jlc, jlc]
      omega)
  unfold m_result_text b_result_text
  have h1 : s ≠ "made" := by rcases hs with rfl | rfl <;> decide
  have h2 : s ≠ "fails" := by rcases hs with rfl | rfl <;> decide
  simp (decide := true) (disch := first | omega | (simp; done) | (simp; omega)) [h1, h2]
  rw [e]
  simp
  cases zs with
  | nil => exact absurd rfl h.ne
  | cons z zs =>
    rw [join_2, join_2]
    have e2 : (Str.ofString " by ") = Str.ofString " " ++ Str.ofString "by" ++ Str.ofString " " := by decide
    rw [e2]
    simp only [Str.append_assoc]
end W

namespace W
open PySem L2 Fw PySem.Spec PyProof.Rows
local macro_rules | `(tactic| walk_at "ev") => `(tactic| simp (decide := true) (disch := first | omega | (simp; done) | (simp [-List.getD_eq_getElem?_getD]; omega)) [*, -List.getD_eq_getElem?_getD, List.getD_cons_zero, List.getD_cons_succ, txt_join])
def sorts : List Str := ["made", "fails", "lacks", "ring"]
@[simp] theorem sorts_eq : ([.str "made", .str "fails", .str "lacks", .str "ring"] : List D) = sorts.map .str := rfl
@[simp] theorem sorts_len : sorts.length = 4 := rfl
theorem sorts_mem : ∀ x ∈ sorts, x = "made" ∨ x = "fails" ∨ x = "lacks" ∨ x = "ring" := by decide
theorem result_ok (ns : List Int) (ys : List Str) (k : Int) (hk : 0 ≤ k) (hk2 : k < 800000) (hl : ns.length ≤ 63) (hy1 : 4 ≤ ys.length) (hy2 : ys.length ≤ 7) (hy : ∀ y ∈ ys, y ∈ menu) :
    Tells (m_law_result [.d (.list (ns.map .int)), .d (.int k), .d (.list (ys.map .str))]) (fun q => ∃ res x, q = .fro (.tuple [res, .str x]) ∧ Tells (m_result_text [.d res]) (fun q => q = .fro (.str x)) ∧ Chr x ∧ x.length ≤ 1000) := by
  unfold m_law_result b_law_result
  obtain ⟨_, e1, r1, rfl, a1, b1⟩ := (draw_ok ns (k + 5) 4 (by omega) (by omega) (by omega) hl).call
  obtain ⟨_, e2, v, rfl, hv⟩ := (value_ok ns ys (k + 6) (by omega) (by omega) hl hy1 hy2 hy).call
  obtain ⟨_, e3, r3, rfl, a3, b3⟩ := (draw_ok ns (k + 7) 4 (by omega) (by omega) (by omega) hl).call
  obtain ⟨_, e4, rfl⟩ := (law_stamp_ok 30 v (Nat.lt_trans hv.dep (by decide)) hv.ok (Nat.le_trans hv.wt (by decide))).call
  obtain ⟨zs, z1, z2, z3⟩ := eLc_some (Q := fun z => z ∈ ys) (h := PyData.str) (xs := List.range (1 + r1).toNat) (g := fun i => .int ((i : Nat) : Int)) (b := bName 6) (tt := tYesM) (me := eBin dIx (eVar 2) (eFn m_law_draw (aCons (eVar 0) (aCons (eBin dAdd (eVar 1) (eVar 6)) (aCons (eCall (one dLen) (aCons (eVar 2) aNil)) aNil))))) (vs := [6]) (mi := iR1 (aCons (eBin dAdd (eC (.int 1)) (eFn m_law_draw (aCons (eVar 0) (aCons (eBin dAdd (eVar 1) (eC (.int 5))) (aCons (eC (.int 4)) aNil))))) aNil)) (Γ := [.d (.list (ns.map .int)), .d (.int k), .d (.list (ys.map .str)), .no, .no, .no, .no]) (iR1_eq (Γ1 := [.d (.list (ns.map .int)), .d (.int k), .d (.list (ys.map .str)), .no, .no, .no, .no]) (n := 1 + r1) (by walk_at "ev") (by omega)) (by simp; omega) (by
      intro x hx
      have hx : x < (1 + r1).toNat := List.mem_range.mp hx
      obtain ⟨_, e5, r5, rfl, a5, b5⟩ := (draw_ok ns (k + x) ys.length (by omega) (by omega) (by omega) hl).call
      refine ⟨_, [.d (.list (ns.map .int)), .d (.int k), .d (.list (ys.map .str)), .no, .no, .no, .d (.int x)], .fro (.str (ys.getD r5.toNat "")), ys.getD r5.toNat "", rfl, rfl, ?_, rfl, getD_mem (by omega), ?_⟩
      · walk_at "ev"
      · walk_at "ev")
  have hz : Nms zs := ⟨by intro e; subst e; simp at z1; omega, by simp at z1; omega, fun z hz => hy z (z2 z hz)⟩
  have hz' : Nms (zs ++ zs.take 1) := ⟨by intro e; exact hz.ne (List.append_eq_nil_iff.mp e).1, by have := List.length_range (n := (1 + r1).toNat); rw [List.length_append, List.length_take]; omega, fun z h => by
    rcases List.mem_append.mp h with h | h
    · exact hz.mem z h
    · exact hz.mem z (List.mem_of_mem_take h)⟩
  have hc : Fw.cutD zs none (some 1) = zs.take 1 := cut_hi zs 1 (by have := hz.ne; cases zs with | nil => exact absurd rfl this | cons _ _ => simp)
  have hs := sorts_mem _ (getD_mem (xs := sorts) (n := r3.toNat) (d := "") (by simp; omega))
  have h0 : ys.getD 0 "" ∈ menu := hy _ (getD_mem (by omega))
  have l0 := (menu_chr _ h0).2
  have hj := hz.j
  have hj' := hz'.j
  have hl1 := hz.l
  have hl2 := hz'.l
  have hl3 := hz.len
  have hl4 := hz'.len
  have lv := Val.stamp_len 5 v hv.dep
  have lw := hv.wt
  have hs' : sorts.getD r3.toNat "" = "made" ∨ sorts.getD r3.toNat "" = "fails" ∨ sorts.getD r3.toNat "" = "lacks" ∨ sorts.getD r3.toNat "" = "ring" := hs
  clear hs
  rcases hs' with h | h | h | h
  · walk_at "ev"
    exact ⟨_, _, ⟨rfl, rfl⟩, rt_made hv, chr_app (chr_of _) hv.chr, by simp; omega⟩
  · walk_at "ev"
    refine ⟨_, _, ⟨rfl, rfl⟩, ?_, ?_, ?_⟩
    · have := rt_fails hz h0
      simpa using this
    · exact chr_app (chr_app (chr_app (chr_of _) (menu_chr _ h0).1) (chr_of _)) hz.chr
    · simp [-List.getD_eq_getElem?_getD]
      omega
  · walk_at "ev"
    refine ⟨_, _, ⟨rfl, rfl⟩, ?_, ?_, ?_⟩
    · simpa using rt_other (s := "lacks") (.inl rfl) hz
    · exact chr_app (chr_app (chr_of _) (chr_of _)) hz.chr
    · simp
      omega
  · have hm : (zs.map .str ++ (zs.take 1).map .str : List D) = (zs ++ zs.take 1).map .str := by rw [List.map_append]
    simp (decide := true) (disch := first | omega | (simp; done) | (simp [-List.getD_eq_getElem?_getD]; omega)) [*, -List.getD_eq_getElem?_getD, List.getD_cons_zero, List.getD_cons_succ, txt_join, -List.map_append, -List.map_take]
    refine ⟨_, _, ⟨rfl, rfl⟩, ?_, ?_, ?_⟩
    · simpa using rt_other (s := "ring") (.inr rfl) hz'
    · exact chr_app (chr_app (chr_of _) (chr_of _)) hz'.chr
    · rw [len_app, len_app, lit_2]
      have : ("ring" : Str).length = 4 := by decide
      omega
end W

namespace W
open PySem L2 Fw PySem.Spec PyProof.Rows
local macro_rules | `(tactic| walk_at "ev") => `(tactic| simp (decide := true) (disch := first | omega | (simp; done) | (simp [-List.getD_eq_getElem?_getD]; omega)) [*, -List.getD_eq_getElem?_getD, List.getD_cons_zero, List.getD_cons_succ, txt_join])
theorem log_text_ok {x y : Str} (h1 : x.length ≤ 1000) (h2 : y.length ≤ 1000) : Tells (m_log_text [.d (.tuple [.str x, .str y])]) (fun q => q = .fro (.str (x ++ " " ++ y))) := by
  unfold m_log_text b_log_text
  walk_at "ev"
theorem reason_none : Tells (m_reason_text [.d .none]) (fun q => q = .fro (.str "-")) := by
  unfold m_reason_text b_reason_text
  walk_at "ev"
/-- parts of a reason: texts, small numbers, rows of texts -/
inductive Part where
  | s (x : Str)
  | i (n : Int)
  | r (xs : List Str)
def Part.toD : Part → D
  | .s x => .str x
  | .i n => .int n
  | .r xs => .tuple (xs.map .str)
def Part.words : Part → List Str
  | .s x => [x]
  | .i n => [Str.ofString (toString n)]
  | .r xs => xs
def Part.Ok : Part → Prop
  | .s x => x.length ≤ 100
  | .i n => n.natAbs.log2 < 1920 ∧ (Str.ofString (toString n)).length ≤ 100
  | .r xs => xs.length ≤ 10 ∧ ∀ x ∈ xs, x.length ≤ 100
theorem Part.wl {p : Part} (h : p.Ok) : p.words.length ≤ 10 ∧ ∀ x ∈ p.words, x.length ≤ 100 := by
  cases p with
  | s x => exact ⟨by simp [words], by intro y hy; simp [words] at hy; subst hy; exact h⟩
  | i x => exact ⟨by simp [words], by intro y hy; simp [words] at hy; subst hy; exact h.2⟩
  | r x => exact h
theorem words_len (ps : List Part) (h : ∀ p ∈ ps, p.Ok) : (ps.flatMap Part.words).length ≤ 10 * ps.length ∧ ∀ x ∈ ps.flatMap Part.words, x.length ≤ 100 := by
  induction ps with
  | nil => exact ⟨by simp, by simp⟩
  | cons p ps ih =>
    have h1 := Part.wl (h p (by simp))
    have h2 := ih fun q hq => h q (List.mem_cons_of_mem _ hq)
    rw [List.flatMap_cons, List.length_append, List.length_cons]
    refine ⟨by omega, ?_⟩
    intro x hx
    rcases List.mem_append.mp hx with hx | hx
    · exact h1.2 x hx
    · exact h2.2 x hx
theorem reason_ok (ps : List Part) (hl : ps.length ≤ 9) (h : ∀ p ∈ ps, p.Ok) : Tells (m_reason_text [.d (.tuple (ps.map Part.toD))]) (fun q => q = .fro (.str (Str.join " " (ps.flatMap Part.words)))) := by
  unfold m_reason_text b_reason_text
  obtain ⟨Γ', e, hI⟩ := sFor_inv ps Part.toD (fun i Γ => Γ = [.d (.tuple (ps.map Part.toD)), .ow (.lst (((ps.take i).flatMap Part.words).map .str)), .no]) (mi := iAny (eVar 0)) (b := bName 2) (body := l_reason_text_0) (tmp := [2]) (Γ := [.d (.tuple (ps.map Part.toD)), .ow (.lst []), .no]) (by walk_at "ev"; rfl) (by simp) (by
      intro i p Γ hp e
      subst e
      have hm : p ∈ ps := List.mem_of_getElem? hp
      have hi : i < ps.length := (List.getElem?_eq_some_iff.mp hp).1
      have ht : ps.take (i + 1) = ps.take i ++ [p] := by rw [List.take_add_one, hp]; rfl
      have hw := words_len (ps.take i) fun q hq => h q (List.mem_of_mem_take hq)
      have hw1 := hw.1
      have ho := h p hm
      have hpw := (Part.wl ho).1
      have hti : (ps.take i).length ≤ 9 := by rw [List.length_take]; omega
      have hlen : ((((ps.take i).flatMap Part.words).map .str : List D)).length ≤ 100 := by rw [List.length_map]; omega
      generalize hg : (((ps.take i).flatMap Part.words).map .str : List D) = acc at hlen ⊢
      refine ⟨_, [.d (.tuple (ps.map Part.toD)), .ow (.lst (acc ++ p.words.map .str)), .d p.toD], rfl, .inl ?_, ?_⟩
      · cases p with
        | s x => simp (disch := first | omega | (simp; done) | (simp; omega)) [l_reason_text_0, Part.toD, Part.words]
        | i n => 
          have h1 : n.natAbs.log2 < 1920 := ho.1
          simp (disch := first | omega | (simp; done) | (simp; omega)) [l_reason_text_0, Part.toD, Part.words]
        | r xs => 
          have h2 : xs.length ≤ 10 := ho.1
          simp (disch := first | omega | (simp; done) | (simp; omega)) [l_reason_text_0, Part.toD, Part.words]
      · simp [ht, ← hg])
  have hw := words_len ps h
  have hj := jl_le hw.2
  have e2 : (ps.take ps.length).flatMap Part.words = ps.flatMap Part.words := by rw [List.take_length]
  rw [e2] at hI
  subst hI
  have := joinL (z := " ") (ps.flatMap Part.words) rfl (by omega)
  simp
  rw [e]
  simp
  rw [this]
  simp
end W

namespace W
open PySem L2 Fw PySem.Spec PyProof.Rows
local macro_rules | `(tactic| walk_at "ev") => `(tactic| simp (decide := true) (disch := first | omega | (simp; done) | (simp [-List.getD_eq_getElem?_getD]; omega)) [*, -ix_ls, -ix_l, -List.getD_eq_getElem?_getD, List.getD_cons_zero, List.getD_cons_succ, txt_join])
theorem small_txt {n : Int} (h0 : 0 ≤ n) (h1 : n < 12) : n.natAbs.log2 < 1920 ∧ (Str.ofString (toString n)).length ≤ 100 := by
  have h : ∀ m : Nat, m < 12 → (Str.ofString (toString ((m : Nat) : Int))).length ≤ 100 := by decide
  obtain ⟨m, rfl⟩ := Int.eq_ofNat_of_zero_le h0
  refine ⟨?_, h m (by omega)⟩
  have := Nat.log2_le_self m
  rw [Int.natAbs_natCast]
  omega
def wordsL : List Str := ["none", "recipe"]
@[simp] theorem wordsL_eq : ([.str "none", .str "recipe"] : List D) = wordsL.map .str := rfl
@[simp] theorem wordsL_len : wordsL.length = 2 := rfl
theorem wordsL_mem : ∀ x ∈ wordsL, (∀ c ∈ x.cps.toList, c < 16 ^ 8) ∧ x.length ≤ 100 := by decide
theorem law_reason_ok (ns : List Int) (ys : List Str) (k : Int) (hk : 0 ≤ k) (hk2 : k < 800000) (hl : ns.length ≤ 63) (hy1 : 4 ≤ ys.length) (hy2 : ys.length ≤ 7) (hy : ∀ y ∈ ys, y ∈ menu) :
    Tells (m_law_reason [.d (.list (ns.map .int)), .d (.int k), .d (.list (ys.map .str))]) (fun q => ∃ res x, q = .fro (.tuple [res, .str x]) ∧ Tells (m_reason_text [.d res]) (fun q => q = .fro (.str x)) ∧ Chr x ∧ x.length ≤ 10000) := by
  unfold m_law_reason b_law_reason
  obtain ⟨_, e1, r1, rfl, a1, b1⟩ := (draw_ok ns k 12 (by omega) (by omega) (by omega) hl).call
  obtain ⟨_, e2, r2, rfl, a2, b2⟩ := (draw_ok ns (k + 1) ys.length (by omega) (by omega) (by omega) hl).call
  obtain ⟨_, e3, v, rfl, hv⟩ := (value_ok ns ys (k + 2) (by omega) (by omega) hl hy1 hy2 hy).call
  obtain ⟨_, e4, rfl⟩ := (law_stamp_ok 30 v (Nat.lt_trans hv.dep (by decide)) hv.ok (Nat.le_trans hv.wt (by decide))).call
  obtain ⟨_, e5, r5, rfl, a5, b5⟩ := (draw_ok ns (k + 3) 4 (by omega) (by omega) (by omega) hl).call
  obtain ⟨_, e6, r6, rfl, a6, b6⟩ := (draw_ok ns (k + 4) 5 (by omega) (by omega) (by omega) hl).call
  obtain ⟨_, e7, r7, rfl, a7, b7⟩ := (draw_ok ns (k + 5) 2 (by omega) (by omega) (by omega) hl).call
  have lv := Val.stamp_len 5 v hv.dep
  have lw := hv.wt
  have hn : ys.getD r2.toNat "" ∈ menu := hy _ (getD_mem (by omega))
  have ln := menu_chr _ hn
  have hx : dIx (.list (ys.map .str)) (.int r2) = .ok (.fro (.str (ys.getD r2.toNat ""))) := ix_ls ⟨a2, b2⟩
  generalize ys.getD r2.toNat "" = nm at hn ln hx
  have hcv := hv.chr
  have ln2 := ln.2
  have lv2 : v.stamp.length ≤ 100 := by omega
  obtain ⟨e, he, h1, h2, h3⟩ : ∃ e : List Str, dIx (.list [.tuple [.str "made", .str v.stamp], .tuple [.str "fails", .str nm], .tuple [.str "wants", .str nm], .tuple [.str "lacks"]]) (.int r5) = .ok (.fro (.tuple (e.map .str))) ∧ (∀ x ∈ e, Chr x ∧ x.length ≤ 100) ∧ e.length ≤ 2 ∧ e ≠ [] := by
    have h : r5 = 0 ∨ r5 = 1 ∨ r5 = 2 ∨ r5 = 3 := by omega
    have f1 : ∀ a b : Str, Chr a ∧ a.length ≤ 100 → Chr b ∧ b.length ≤ 100 → ∀ x ∈ [a, b], Chr x ∧ x.length ≤ 100 := by
      intro a b ha hb x hx
      simp at hx
      rcases hx with rfl | rfl
      · exact ha
      · exact hb
    rcases h with rfl | rfl | rfl | rfl
    · exact ⟨["made", v.stamp], rfl, f1 _ _ ⟨chr_of _, by decide⟩ ⟨hcv, lv2⟩, by simp, by simp⟩
    · exact ⟨["fails", nm], rfl, f1 _ _ ⟨chr_of _, by decide⟩ ⟨ln.1, by omega⟩, by simp, by simp⟩
    · exact ⟨["wants", nm], rfl, f1 _ _ ⟨chr_of _, by decide⟩ ⟨ln.1, by omega⟩, by simp, by simp⟩
    · exact ⟨["lacks"], rfl, by intro x hx; simp at hx; subst hx; exact ⟨chr_of _, by decide⟩, by simp, by simp⟩
  have hw := wordsL_mem _ (getD_mem (xs := wordsL) (n := r7.toNat) (d := "") (by simp; omega))
  have hwd : dIx (.list (wordsL.map .str)) (.int r7) = .ok (.fro (.str (wordsL.getD r7.toNat ""))) := ix_ls ⟨a7, b7⟩
  have hs := small_txt a1 b1
  have hs1 := hs.1
  have hs2 := hs.2
  have h : r6 = 0 ∨ r6 = 1 ∨ r6 = 2 ∨ (r6 ≠ 0 ∧ r6 ≠ 1 ∧ r6 ≠ 2) := by omega
  rcases h with h | h | h | ⟨h, h', h''⟩
  · walk_at "ev"
    exact ⟨_, _, ⟨rfl, rfl⟩, reason_none, chr_of _, by decide⟩
  · walk_at "ev"
    refine ⟨_, _, ⟨rfl, rfl⟩, ?_, hw.1, by omega⟩
    simpa [Part.toD, Part.words] using reason_ok [.s (wordsL.getD r7.toNat "")] (by simp) (by intro p hp; rw [List.mem_singleton.mp hp]; exact hw.2)
  · walk_at "ev"
    refine ⟨_, _, ⟨rfl, rfl⟩, ?_, chr_app (chr_app (chr_app (chr_of _) ln.1) (chr_of _)) hcv, by simp; omega⟩
    have q := reason_ok [.s "wanted", .s nm, .s v.stamp] (by simp) (by
      intro p hp
      simp at hp
      rcases hp with rfl | rfl | rfl
      · show (("wanted") : Str).length ≤ 100
        decide
      · show nm.length ≤ 100
        omega
      · exact lv2)
    have e1 : (Str.ofString "wanted ") = Str.ofString "wanted" ++ Str.ofString " " := by decide
    simp only [List.map_cons, List.map_nil, Part.toD, List.flatMap_cons, List.flatMap_nil, Part.words, List.singleton_append, List.nil_append, List.append_nil, List.cons_append, join_2, join_1] at q
    rw [e1]
    simpa only [Str.append_assoc] using q
  · have hj : dJoin (.str " ") (.list (.str "read" :: .str (Str.ofString r1.repr) :: .str nm :: .str v.stamp :: e.map .str)) = .ok (.fro (.str (Str.join " " ("read" :: Str.ofString r1.repr :: nm :: v.stamp :: e)))) := joinL _ rfl (by
      have := jl_le fun x hx => (h1 x hx).2
      have c1 : (("read") : Str).length = 4 := by decide
      have c2 : (Str.ofString r1.repr).length ≤ 100 := hs2
      rw [jlc, jlc, jlc, jlc]
      omega)
    walk_at "ev"
    have q := reason_ok [.s "read", .i r1, .s nm, .s v.stamp, .r e] (by simp) (by
      intro p hp
      simp at hp
      rcases hp with rfl | rfl | rfl | rfl | rfl
      · show (("read") : Str).length ≤ 100
        decide
      · exact hs
      · show nm.length ≤ 100
        omega
      · exact lv2
      · exact ⟨by omega, fun x hx => (h1 x hx).2⟩)
    have all : ∀ x ∈ ("read" :: toString r1 :: nm :: v.stamp :: e : List Str), Chr x ∧ x.length ≤ 100 := by
      intro x hx
      simp at hx
      rcases hx with rfl | rfl | rfl | rfl | hx
      · exact ⟨chr_of _, by decide⟩
      · exact ⟨chr_of _, hs2⟩
      · exact ⟨ln.1, by omega⟩
      · exact ⟨hcv, lv2⟩
      · exact h1 x hx
    refine ⟨_, _, ⟨rfl, rfl⟩, ?_, chr_join (chr_of _) _ fun x hx => (all x hx).1, ?_⟩
    · simpa [Part.toD, Part.words] using q
    · have := join_le2 fun x hx => (all x hx).2
      simp at this
      omega
end W

namespace W
open PySem L2 Fw PySem.Spec PyProof.Rows
local macro_rules | `(tactic| walk_at "ev") => `(tactic| simp (decide := true) (disch := first | omega | (simp; done) | (simp [-List.getD_eq_getElem?_getD]; omega)) [*, -ix_ls, -ix_l, -List.getD_eq_getElem?_getD, List.getD_cons_zero, List.getD_cons_succ, txt_join])
theorem rep_ok {x : Str} (h : Chr x) (hl : x.length ≤ 10000) : dRepr (.str x) = .ok (.fro (.str (reprText x))) := repr_s (by
  have := StrLaws.reprText_len x h
  omega)
def logs : List Str := ["kept", "done", "fetched", "untold", "stale"]
@[simp] theorem logs_eq : ([.str "kept", .str "done", .str "fetched", .str "untold", .str "stale"] : List D) = logs.map .str := rfl
@[simp] theorem logs_len : logs.length = 5 := rfl
theorem logs_mem : ∀ x ∈ logs, (∀ c ∈ x.cps.toList, c < 16 ^ 8) ∧ x.length ≤ 100 := by decide
theorem turn (ns : List Int) (hl : ns.length ≤ 63) (ys : List Str) (hy1 : 4 ≤ ys.length) (hy2 : ys.length ≤ 7) (hy : ∀ y ∈ ys, y ∈ menu) (x : Nat) (hx : x < 8) (Γ : Gm) (hΓ : Γ = [.d (.list (ns.map .int)), .ow (.lst (ys.map .str)), .no, .no, .no, .no, .no, .no, .no] ∨ Γ = [.d (.list (ns.map .int)), .d (.list (ys.map .str)), .no, .no, .no, .no, .no, .no, .no]) :
    ∃ Γ2, l_law_0 (Γ.set 2 (.d (.int x))) = .ok (.nx Γ2) ∧ wipeG Γ2 [2, 3, 4, 5, 6, 7, 8] = [.d (.list (ns.map .int)), .d (.list (ys.map .str)), .no, .no, .no, .no, .no, .no, .no] := by
  obtain ⟨_, f1, res, t, rfl, q1, c1, l1⟩ := (result_ok ns ys (10 + 30 * x) (by omega) (by omega) hl hy1 hy2 hy).call
  obtain ⟨_, f2, rfl⟩ := q1.call
  have f3 := rep_ok c1 (by omega)
  obtain ⟨_, f4, r4, rfl, a4, b4⟩ := (draw_ok ns (10 + 30 * x + 10) 5 (by omega) (by omega) (by omega) hl).call
  obtain ⟨_, f5, r5, rfl, a5, b5⟩ := (draw_ok ns (10 + 30 * x + 11) ys.length (by omega) (by omega) (by omega) hl).call
  have hw := logs_mem _ (getD_mem (xs := logs) (n := r4.toNat) (d := "") (by simp; omega))
  have hn := menu_chr _ (hy _ (getD_mem (xs := ys) (n := r5.toNat) (d := "") (by omega)))
  have g4 : dIx (.list (logs.map .str)) (.int r4) = .ok (.fro (.str (logs.getD r4.toNat ""))) := ix_ls ⟨a4, b4⟩
  have g5 : dIx (.list (ys.map .str)) (.int r5) = .ok (.fro (.str (ys.getD r5.toNat ""))) := ix_ls ⟨a5, b5⟩
  generalize logs.getD r4.toNat "" = w at hw g4
  generalize ys.getD r5.toNat "" = n at hn g5
  have w2 := hw.2
  have n2 := hn.2
  obtain ⟨_, f6, rfl⟩ := (log_text_ok (x := w) (y := n) (by omega) (by omega)).call
  have f7 := rep_ok (x := w ++ " " ++ n) (chr_app (chr_app hw.1 (chr_of _)) hn.1) (by simp; omega)
  obtain ⟨_, f8, res2, t2, rfl, q8, c8, l8⟩ := (law_reason_ok ns ys (10 + 30 * x + 12) (by omega) (by omega) hl hy1 hy2 hy).call
  obtain ⟨_, f9, rfl⟩ := q8.call
  have f10 := rep_ok c8 (by omega)
  refine ⟨[.d (.list (ns.map .int)), .d (.list (ys.map .str)), .d (.int x), .d (.int (10 + 30 * x)), .d res, .d (.str t2), .d (.str w), .d (.str n), .d res2], ?_, by simp⟩
  unfold l_law_0
  clear q1 q8
  rcases hΓ with rfl | rfl <;> walk_at "ev"
theorem law_true : ∀ ns : List Int, ns.length ≤ 63 → ∃ g, m_law [.d (.list (ns.map .int))] = .ok (.fro (.bool true), g) := by
  intro ns hl
  obtain ⟨_, e1, ys, rfl, hy1, hy2, hy⟩ := (names_ok ns 0 (by omega) (by omega) hl).call
  obtain ⟨Γ', e, hI⟩ := sFor_inv (List.range 8) (fun i => PyData.int ((i : Nat) : Int)) (fun _ Γ => Γ = [.d (.list (ns.map .int)), .ow (.lst (ys.map .str)), .no, .no, .no, .no, .no, .no, .no] ∨ Γ = [.d (.list (ns.map .int)), .d (.list (ys.map .str)), .no, .no, .no, .no, .no, .no, .no]) (mi := iR1 (aCons (eC (.int 8)) aNil)) (b := bName 2) (body := l_law_0) (tmp := [2, 3, 4, 5, 6, 7, 8]) (Γ := [.d (.list (ns.map .int)), .ow (.lst (ys.map .str)), .no, .no, .no, .no, .no, .no, .no]) (iR1_eq (n := 8) rfl (by omega)) (.inl rfl) (by
      intro i x Γ hx hΓ
      have hx : x < 8 := List.mem_range.mp (List.mem_of_getElem? hx)
      obtain ⟨Γ2, h1, h2⟩ := turn ns hl ys hy1 hy2 hy x hx Γ hΓ
      exact ⟨_, Γ2, rfl, .inl h1, .inr h2⟩)
  have key : Tells (m_law [.d (.list (ns.map .int))]) (fun q => q = .fro (.bool true)) := by
    unfold m_law b_law
    simp [e1]
    rw [e]
    rcases hI with rfl | rfl <;> simp
  obtain ⟨r, g, e, rfl⟩ := key
  exact ⟨g, e⟩
end W

open PySem PySem.W PyProof.Rows
set_option maxRecDepth 100000 in
set_option maxHeartbeats 0 in
theorem PySem.Challenge.cw_redo_k83_reports_holds : PySem.Challenge.rw_redo_k83_reports.Holds := by
  w_on; o_law; k_head; (case hw => w_witness2)
  k_fill
  refine Fw.walk_fw (l := PySem.Challenge.rw_redo_k83_reports) (k := 32) (x := "law") (m := W.m_law) (p := "_law_script") rfl rfl ⟨rfl, by decide, by decide⟩ (fun w h Y => PySem.W.kIn_of Y) rfl W.law_true ?F
  case F =>
    intro w mg h KX G
    refine W.ok_law (P := _) (w := w) ?T
    apply W.tx_mk KX G
    (case z_int => k_is)
    (case z_isinstance => k_is)
    (case z_len => k_is)
    (case z_list => k_is)
    (case z_min => k_is)
    (case z_range => k_is)
    (case z_repr => k_is)
    (case z_str => k_is)
    (case z_tuple => k_is)
    (case a_stamp_of => k_is)
    (case l_stamp_of => k_is)
    (case c_stamp_of => k_is)
    (case k_stamp_of => k_is)
    (case a_result_text => k_is)
    (case l_result_text => k_is)
    (case c_result_text => k_is)
    (case k_result_text => k_is)
    (case a_log_text => k_is)
    (case l_log_text => k_is)
    (case c_log_text => k_is)
    (case k_log_text => k_is)
    (case a_reason_text => k_is)
    (case l_reason_text => k_is)
    (case c_reason_text => k_is)
    (case k_reason_text => k_is)
    (case a_law_draw => k_is)
    (case l_law_draw => k_is)
    (case c_law_draw => k_is)
    (case k_law_draw => k_is)
    (case a_law_stamp => k_is)
    (case l_law_stamp => k_is)
    (case c_law_stamp => k_is)
    (case k_law_stamp => k_is)
    (case a_law_names => k_is)
    (case l_law_names => k_is)
    (case c_law_names => k_is)
    (case k_law_names => k_is)
    (case a_law_value => k_is)
    (case l_law_value => k_is)
    (case c_law_value => k_is)
    (case k_law_value => k_is)
    (case a_law_result => k_is)
    (case l_law_result => k_is)
    (case c_law_result => k_is)
    (case k_law_result => k_is)
    (case a_law_reason => k_is)
    (case l_law_reason => k_is)
    (case c_law_reason => k_is)
    (case k_law_reason => k_is)
    (case a_law => k_is)
    (case l_law => k_is)
    (case c_law => k_is)
    (case k_law => k_is)
