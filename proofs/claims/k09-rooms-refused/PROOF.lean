import PyProof.Rows.All
import Wide.All
import OpenK.AllK
import Wide.FinOn
import HandS.ForMost
import HandS.ForExc
import HandS.CallSlots
import HandS.IsInst
import HandS.TupAny
import HandS.Zip
import HandS.ExcField
import HandS.ExcInit
import HandS.ExcIs
import HandS.Deep
import HandS.SortInts
import HandS.Walk
import KE.GoesEnum
import HandS.Style
import HandS.Text
import PyProof.StrOps2
import HandS.Property
import HandS.MakeKwOnly
import HandS.Defaults
import HandS.CallLocal
import HandS.DictComp
import HandS.Dict
import HandS.TryOnly
import KE.KSuper
import HandS.ClsMeth
import KE.RegKSuper
import PyProof.P3In
import PySem.Challenge.RW_tagrooms_k09_rooms_refused
set_option Elab.async false
set_option linter.all false
set_option maxRecDepth 100000
set_option maxHeartbeats 4000000
/-! Dn: a def's meaning as a plain function of data (D), and the judgements that tie it to the layer. -/
namespace Dn
open PySem PySem.Spec PyProof.Rows L2

/-- data: values without addresses -/
inductive D where
  | non | bl (b : Bool) | int (i : Int) | str (x : Str)
  | tup (ds : List D) | lst (ds : List D) | dct (kvs : List (Key × D))
  | obj (C : Addr) (fs : List (Str × D)) | ref (a : Addr) | ty (n : String) | drw | scr (ns : List Int)

/-- the draws' state -/
structure Dr where
  cells : List Int
  turn : Int
  rests : List Int

/-- what is the same through a def's run: the written part, the draws' addresses, what was frozen and what stood at the entry -/
structure Bs where
  K : PySem.W.Frag
  dr : Addr
  rs : Addr
  cl : Addr
  ex : Addr := 0
  xd : Addr := 0
  xc : Addr := 0
  me : Addr := 0

mutual
inductive Rep (K : PySem.W.Frag) (dr : Addr) (H : Hp) : V → D → Prop
  | non : Rep K dr H .non .non
  | bl (b : Bool) : Rep K dr H (.bl b) (.bl b)
  | int (i : Int) : Rep K dr H (.int i) (.int i)
  | str (x : Str) : Rep K dr H (.str x) (.str x)
  | tup {a : Addr} {vs : List V} {ds : List D} : SqT K H a vs → RepL K dr H vs ds → Rep K dr H (.ref a) (.tup ds)
  | lst {a : Addr} {vs : List V} {ds : List D} : H a = some (.lst vs) → RepL K dr H vs ds → Rep K dr H (.ref a) (.lst ds)
  | dct {a : Addr} {vs : List (Key × V)} {kvs : List (Key × D)} : H a = some (.dK vs) → RepK K dr H vs kvs → Rep K dr H (.ref a) (.dct kvs)
  | obj {a C dx : Addr} {vs : List (Str × V)} {fs : List (Str × D)} : H a = some (.ins C dx vs) → RepF K dr H vs fs → Rep K dr H (.ref a) (.obj C fs)
  | ref (a : Addr) : Rep K dr H (.ref a) (.ref a)
  | ty (n : String) : Rep K dr H (.ty n) (.ty n)
  | drw : Rep K dr H (.ref dr) .drw
  | scr {a : Addr} {ns : List Int} : SqL K H a (ns.map V.int) → Rep K dr H (.ref a) (.scr ns)
inductive RepL (K : PySem.W.Frag) (dr : Addr) (H : Hp) : List V → List D → Prop
  | nil : RepL K dr H [] []
  | cons {v : V} {vs : List V} {d : D} {ds : List D} : Rep K dr H v d → RepL K dr H vs ds → RepL K dr H (v :: vs) (d :: ds)
inductive RepK (K : PySem.W.Frag) (dr : Addr) (H : Hp) : List (Key × V) → List (Key × D) → Prop
  | nil : RepK K dr H [] []
  | cons {k : Key} {v : V} {vs : List (Key × V)} {d : D} {ds : List (Key × D)} : Rep K dr H v d → RepK K dr H vs ds → RepK K dr H ((k, v) :: vs) ((k, d) :: ds)
inductive RepF (K : PySem.W.Frag) (dr : Addr) (H : Hp) : List (Str × V) → List (Str × D) → Prop
  | nil : RepF K dr H [] []
  | cons {k : Str} {v : V} {vs : List (Str × V)} {d : D} {ds : List (Str × D)} : Rep K dr H v d → RepF K dr H vs ds → RepF K dr H ((k, v) :: vs) ((k, d) :: ds)
end

def Ex (H H' : Hp) : Prop := ∀ a o, H a = some o → H' a = some o
theorem Ex.refl (H : Hp) : Ex H H := fun _ _ h => h
theorem Ex.trans {H H1 H2 : Hp} (a : Ex H H1) (b : Ex H1 H2) : Ex H H2 := fun x o h => b x o (a x o h)
theorem Ex.new {H : Hp} {p : Addr} {o : HO} (h : H p = none) : Ex H (upd H p o) := fun a u e => by
  rw [upd_ne (ne_of_none e h)]
  exact e
theorem ex_rd {H H' : Hp} {a : Addr} {u : HO} (e : Ex H H') (h : Rd H a u) : Rd H' a u := by
  rcases h with h | ⟨o, h⟩
  · exact Or.inl (e a _ h)
  · exact Or.inr ⟨o, e a _ h⟩
theorem ex_l {K : PySem.W.Frag} {H H' : Hp} {a : Addr} {xs : List V} (e : Ex H H') (h : SqL K H a xs) : SqL K H' a xs := by
  rcases h with h | h
  · exact Or.inl (ex_rd e h)
  · exact Or.inr h
theorem ex_t {K : PySem.W.Frag} {H H' : Hp} {a : Addr} {xs : List V} (e : Ex H H') (h : SqT K H a xs) : SqT K H' a xs := by
  rcases h with h | h
  · exact Or.inl (ex_rd e h)
  · exact Or.inr h

section
variable {K : PySem.W.Frag} {dr : Addr} {H H' : Hp}
mutual
theorem Rep.mono (e : Ex H H') : ∀ {v : V} {d : D}, Rep K dr H v d → Rep K dr H' v d
  | _, _, .non => .non
  | _, _, .bl b => .bl b
  | _, _, .int i => .int i
  | _, _, .str x => .str x
  | _, _, .tup h l => .tup (ex_t e h) (l.mono e)
  | _, _, .lst h l => .lst (e _ _ h) (l.mono e)
  | _, _, .dct h l => .dct (e _ _ h) (l.mono e)
  | _, _, .obj h l => .obj (e _ _ h) (l.mono e)
  | _, _, .ref a => .ref a
  | _, _, .ty n => .ty n
  | _, _, .drw => .drw
  | _, _, .scr h => .scr (ex_l e h)
theorem RepL.mono (e : Ex H H') : ∀ {vs : List V} {ds : List D}, RepL K dr H vs ds → RepL K dr H' vs ds
  | _, _, .nil => .nil
  | _, _, .cons h l => .cons (h.mono e) (l.mono e)
theorem RepK.mono (e : Ex H H') : ∀ {vs : List (Key × V)} {ds : List (Key × D)}, RepK K dr H vs ds → RepK K dr H' vs ds
  | _, _, .nil => .nil
  | _, _, .cons h l => .cons (h.mono e) (l.mono e)
theorem RepF.mono (e : Ex H H') : ∀ {vs : List (Str × V)} {ds : List (Str × D)}, RepF K dr H vs ds → RepF K dr H' vs ds
  | _, _, .nil => .nil
  | _, _, .cons h l => .cons (h.mono e) (l.mono e)
end
theorem RepL.length : ∀ {vs : List V} {ds : List D}, RepL K dr H vs ds → vs.length = ds.length
  | _, _, .nil => rfl
  | _, _, .cons _ l => by simp only [List.length_cons]; rw [l.length]
theorem RepL.get : ∀ {vs : List V} {ds : List D} {i : Nat} {d : D}, RepL K dr H vs ds → ds[i]? = some d → ∃ v, vs[i]? = some v ∧ Rep K dr H v d
  | _, _, _, _, .nil, e => by simp at e
  | _, _, 0, _, .cons h _, e => by simp at e; subst e; exact ⟨_, rfl, h⟩
  | _, _, i + 1, d, .cons _ l, e => by
    obtain ⟨v, h1, h2⟩ := l.get (i := i) (d := d) (by simpa using e)
    exact ⟨v, by simpa using h1, h2⟩
theorem RepL.getV : ∀ {vs : List V} {ds : List D} {i : Nat} {v : V}, RepL K dr H vs ds → vs[i]? = some v → ∃ d, ds[i]? = some d ∧ Rep K dr H v d
  | _, _, _, _, .nil, e => by simp at e
  | _, _, 0, _, .cons h _, e => by simp at e; subst e; exact ⟨_, rfl, h⟩
  | _, _, i + 1, v, .cons _ l, e => by
    obtain ⟨d, h1, h2⟩ := l.getV (i := i) (v := v) (by simpa using e)
    exact ⟨d, by simpa using h1, h2⟩
theorem RepL.append : ∀ {vs ws : List V} {ds es : List D}, RepL K dr H vs ds → RepL K dr H ws es → RepL K dr H (vs ++ ws) (ds ++ es)
  | _, _, _, _, .nil, m => m
  | _, _, _, _, .cons h l, m => .cons h (l.append m)
theorem RepL.take : ∀ {vs : List V} {ds : List D} (n : Nat), RepL K dr H vs ds → RepL K dr H (vs.take n) (ds.take n)
  | _, _, 0, _ => .nil
  | _, _, _ + 1, .nil => .nil
  | _, _, n + 1, .cons h l => .cons h (l.take n)
theorem RepL.drop : ∀ {vs : List V} {ds : List D} (n : Nat), RepL K dr H vs ds → RepL K dr H (vs.drop n) (ds.drop n)
  | _, _, 0, r => r
  | _, _, _ + 1, .nil => .nil
  | _, _, n + 1, .cons _ l => l.drop n
theorem RepL.set : ∀ {vs : List V} {ds : List D} (i : Nat) {v : V} {d : D}, RepL K dr H vs ds → Rep K dr H v d → RepL K dr H (vs.set i v) (ds.set i d)
  | _, _, _, _, _, .nil, _ => .nil
  | _, _, 0, _, _, .cons _ l, r => .cons r l
  | _, _, i + 1, _, _, .cons h l, r => .cons h (l.set i r)
theorem RepL.ints : ∀ (ns : List Int), RepL K dr H (ns.map V.int) (ns.map D.int)
  | [] => .nil
  | n :: r => .cons (.int n) (RepL.ints r)
theorem RepL.one {v : V} {d : D} (h : Rep K dr H v d) : RepL K dr H [v] [d] := .cons h .nil
end

/-! ### the locals, the state -/
/-- what a local holds: a frozen value; a list, a dict of its own; a list, a dict that is lent -/
inductive O where
  | v (d : D) | l (ds : List D) | d (kvs : List (Key × D)) | lt (ds : List D) | ld (kvs : List (Key × D)) | x (C : Addr) (fs : List (Str × D)) | ob (C : Addr) (fs : List (Str × D))
def O.own : O → Bool
  | .l _ => true
  | .d _ => true
  | .ob _ _ => true
  | _ => false
abbrev Env := List (Option O)

/-- the draws lie as the state says -/
structure DrR (B : Bs) (Hf : Hp) (S : Dr) (H : Hp) : Prop where
  dr : H B.dr = some (.lst [.ref B.cl, .int S.turn, .ref B.rs])
  cl : Hf B.cl = some (.lst (S.cells.map V.int))
  rs : H B.rs = some (.lst (S.rests.map V.int))
  ne : B.dr ≠ B.rs
def SlR (B : Bs) (bs : Hp × Hp) (Hf H : Hp) (v : V) : O → Prop
  | .v d => Rep B.K B.dr Hf v d
  | .l ds => ∃ a vs, v = .ref a ∧ H a = some (.lst vs) ∧ RepL B.K B.dr Hf vs ds ∧ Hf a = none ∧ bs.2 a = none
  | .d kvs => ∃ a vs, v = .ref a ∧ H a = some (.dK vs) ∧ RepK B.K B.dr Hf vs kvs ∧ Hf a = none ∧ bs.2 a = none
  | .lt ds => ∃ a vs, v = .ref a ∧ bs.2 a = some (.lst vs) ∧ a ≠ B.dr ∧ a ≠ B.rs ∧ RepL B.K B.dr Hf vs ds
  | .ld kvs => ∃ a vs, v = .ref a ∧ bs.2 a = some (.dK vs) ∧ a ≠ B.dr ∧ a ≠ B.rs ∧ RepK B.K B.dr Hf vs kvs
  | .ob C fs => v = .ref B.me ∧ ∃ dx vs, H B.me = some (.ins C dx vs) ∧ RepF B.K B.dr Hf vs fs ∧ Hf B.me = none ∧ bs.2 B.me = none
  | .x C fs => v = .ref B.ex ∧ C = B.xc ∧ B.xd ≠ B.dr ∧ B.xd ≠ B.rs ∧ ∃ fv, bs.2 B.xd = some (.xd fv) ∧ RepF B.K B.dr Hf fv fs

/-- all but the draws stands -/
def Go (B : Bs) (H H' : Hp) : Prop := ∀ a o, H a = some o → a ≠ B.dr → a ≠ B.rs → H' a = some o
theorem Go.refl {B : Bs} {H : Hp} : Go B H H := fun _ _ h _ _ => h
theorem Go.trans {B : Bs} {H H1 H2 : Hp} (a : Go B H H1) (b : Go B H1 H2) : Go B H H2 := fun x o h n m => b x o (a x o h n m) n m
theorem Go.of_ex {B : Bs} {H H' : Hp} (e : Ex H H') : Go B H H' := fun x o h _ _ => e x o h
theorem Go.new {B : Bs} {H : Hp} {p : Addr} {o : HO} (h : H p = none) : Go B H (upd H p o) := Go.of_ex (Ex.new h)
/-- an expression's step: what is frozen grows by what is new -/
structure Nx (B : Bs) (Hf H Hf' H' : Hp) : Prop where
  ex : Ex Hf Hf'
  exf : Ex Hf' H'
  fr : ∀ a o, Hf' a = some o → Hf a = some o ∨ H a = none
  go : Go B H H'
  nd : Hf' B.dr = none ∧ Hf' B.rs = none
theorem Nx.trans {B : Bs} {Hf H Hf1 H1 Hf2 H2 : Hp} (x : Nx B Hf H Hf1 H1) (y : Nx B Hf1 H1 Hf2 H2) : Nx B Hf H Hf2 H2 where
  ex := x.ex.trans y.ex
  exf := y.exf
  fr := fun a o h => by
    rcases y.fr a o h with q | q
    · exact x.fr a o q
    · right
      by_cases e1 : a = B.dr
      · subst e1; rw [y.nd.1] at h; cases h
      by_cases e2 : a = B.rs
      · subst e2; rw [y.nd.2] at h; cases h
      cases e : H a with
      | none => rfl
      | some u => rw [x.go a u e e1 e2] at q; cases q
  go := x.go.trans y.go
  nd := y.nd

/-- the locals and the heap as the plain state says -/
structure R (B : Bs) (bs : Hp × Hp) (Hf : Hp) (ρ : Env) (S : Dr) (σ : L2.St) (H : Hp) : Prop where
  ex : Ex Hf H
  exb : Ex bs.1 Hf
  fr : ∀ a o, Hf a = some o → bs.1 a = some o ∨ bs.2 a = none
  nd : Hf B.dr = none ∧ Hf B.rs = none
  go : Go B bs.2 H
  h0 : (∃ o, bs.2 B.dr = some o) ∧ ∃ o, bs.2 B.rs = some o
  drw : DrR B Hf S H
  len : ρ.length = σ.length
  sl : ∀ (i : Nat) o, ρ[i]? = some (some o) → ∃ v, σ[i]? = some (some v) ∧ SlR B bs Hf H v o
  inj : ∀ (i j : Nat) oi oj a, ρ[i]? = some (some oi) → ρ[j]? = some (some oj) → oi.own = true → oj.own = true → σ[i]? = some (some (V.ref a)) → σ[j]? = some (some (V.ref a)) → i = j

section
variable {B : Bs} {bs : Hp × Hp} {Hf Hf' H H' : Hp} {ρ : Env} {S S' : Dr} {σ : L2.St}
theorem R.own_at (r : R B bs Hf ρ S σ H) {i : Nat} {o : O} (h : ρ[i]? = some (some o)) (w : o.own = true) : ∃ a u, σ[i]? = some (some (V.ref a)) ∧ H a = some u ∧ Hf a = none ∧ bs.2 a = none := by
  obtain ⟨v, e, s⟩ := r.sl i o h
  cases o with
  | l ds => obtain ⟨a, vs, rfl, h1, _, h3, h4⟩ := s; exact ⟨a, _, e, h1, h3, h4⟩
  | d ds => obtain ⟨a, vs, rfl, h1, _, h3, h4⟩ := s; exact ⟨a, _, e, h1, h3, h4⟩
  | ob C fs => obtain ⟨rfl, dx, vs, h1, _, h3, h4⟩ := s; exact ⟨_, _, e, h1, h3, h4⟩
  | _ => cases w
theorem SlR.next (r : R B bs Hf ρ S σ H) (n : Nx B Hf H Hf' H') {v : V} {o : O} (s : SlR B bs Hf H v o) : SlR B bs Hf' H' v o := by
  have ne : ∀ a, bs.2 a = none → a ≠ B.dr ∧ a ≠ B.rs := fun a h => by
    obtain ⟨⟨o1, h1⟩, o2, h2⟩ := r.h0
    constructor
    · intro e; rw [e, h1] at h; cases h
    · intro e; rw [e, h2] at h; cases h
  cases o with
  | v d => exact Rep.mono n.ex s
  | l ds =>
    obtain ⟨a, vs, rfl, h1, h2, h3, h4⟩ := s
    obtain ⟨n1, n2⟩ := ne a h4
    refine ⟨a, vs, rfl, n.go a _ h1 n1 n2, h2.mono n.ex, ?_, h4⟩
    cases e : Hf' a with
    | none => rfl
    | some u =>
      rcases n.fr a u e with q | q
      · rw [h3] at q; cases q
      · rw [h1] at q; cases q
  | d ds =>
    obtain ⟨a, vs, rfl, h1, h2, h3, h4⟩ := s
    obtain ⟨n1, n2⟩ := ne a h4
    refine ⟨a, vs, rfl, n.go a _ h1 n1 n2, h2.mono n.ex, ?_, h4⟩
    cases e : Hf' a with
    | none => rfl
    | some u =>
      rcases n.fr a u e with q | q
      · rw [h3] at q; cases q
      · rw [h1] at q; cases q
  | lt ds =>
    obtain ⟨a, vs, rfl, h1, h2, h3, h4⟩ := s
    exact ⟨a, vs, rfl, h1, h2, h3, h4.mono n.ex⟩
  | ld ds =>
    obtain ⟨a, vs, rfl, h1, h2, h3, h4⟩ := s
    exact ⟨a, vs, rfl, h1, h2, h3, h4.mono n.ex⟩
  | x C fs =>
    obtain ⟨h1, h2, h3, h4, fv, h5, h6⟩ := s
    exact ⟨h1, h2, h3, h4, fv, h5, h6.mono n.ex⟩
  | ob C fs =>
    obtain ⟨rfl, dx, vs, h1, h2, h3, h4⟩ := s
    obtain ⟨n1, n2⟩ := ne _ h4
    refine ⟨rfl, dx, vs, n.go _ _ h1 n1 n2, h2.mono n.ex, ?_, h4⟩
    cases e : Hf' B.me with
    | none => rfl
    | some u =>
      rcases n.fr _ u e with q | q
      · rw [h3] at q; cases q
      · rw [h1] at q; cases q
/-- behind an expression -/
theorem R.next (r : R B bs Hf ρ S σ H) (n : Nx B Hf H Hf' H') (d : DrR B Hf' S' H') : R B bs Hf' ρ S' σ H' where
  ex := n.exf
  exb := r.exb.trans n.ex
  fr := fun a o h => by
    rcases n.fr a o h with q | q
    · exact r.fr a o q
    · right
      cases e : bs.2 a with
      | none => rfl
      | some u =>
        by_cases e1 : a = B.dr
        · rw [e1, n.nd.1] at h; cases h
        by_cases e2 : a = B.rs
        · rw [e2, n.nd.2] at h; cases h
        rw [r.go a u e e1 e2] at q; cases q
  nd := n.nd
  go := r.go.trans n.go
  h0 := r.h0
  drw := d
  len := r.len
  sl := fun i o h => by
    obtain ⟨v, e, s⟩ := r.sl i o h
    exact ⟨v, e, SlR.next r n s⟩
  inj := r.inj
theorem R.nx0 (r : R B bs Hf ρ S σ H) : Nx B Hf H Hf H := ⟨Ex.refl _, r.ex, fun _ _ h => .inl h, Go.refl, r.nd⟩
theorem R.dr_ne (r : R B bs Hf ρ S σ H) {p : Addr} (h : H p = none) : p ≠ B.dr ∧ p ≠ B.rs := by
  constructor
  · intro e; rw [e, r.drw.dr] at h; cases h
  · intro e; rw [e, r.drw.rs] at h; cases h
/-- the draws stand when a new object is laid -/
theorem DrR.new (d : DrR B Hf S H) {p : Addr} {o : HO} (h : H p = none) (e : Ex Hf Hf') : DrR B Hf' S (upd H p o) :=
  ⟨by rw [upd_ne (ne_of_none d.dr h)]; exact d.dr, e _ _ d.cl, by rw [upd_ne (ne_of_none d.rs h)]; exact d.rs, d.ne⟩
/-- a new object, not frozen -/
theorem R.new (r : R B bs Hf ρ S σ H) {p : Addr} {o : HO} (h : H p = none) : Nx B Hf H Hf (upd H p o) :=
  ⟨Ex.refl _, r.ex.trans (Ex.new h), fun _ _ z => .inl z, Go.new h, r.nd⟩
theorem R.freeH (r : R B bs Hf ρ S σ H) {p : Addr} (h : H p = none) : Hf p = none := by
  cases e : Hf p with
  | none => rfl
  | some u => rw [r.ex p u e] at h; cases h
theorem R.free0 (r : R B bs Hf ρ S σ H) {p : Addr} (h : H p = none) : bs.2 p = none := by
  obtain ⟨n1, n2⟩ := r.dr_ne h
  cases e : bs.2 p with
  | none => rfl
  | some u => rw [r.go p u e n1 n2] at h; cases h
/-- a new object, frozen at once -/
theorem R.newF (r : R B bs Hf ρ S σ H) {p : Addr} {o : HO} (h : H p = none) : Nx B Hf H (upd Hf p o) (upd H p o) := by
  have hf := r.freeH h
  obtain ⟨n1, n2⟩ := r.dr_ne h
  refine ⟨Ex.new hf, fun a u e => ?_, fun a u e => ?_, Go.new h, by rw [upd_ne (Ne.symm n1)]; exact r.nd.1, by rw [upd_ne (Ne.symm n2)]; exact r.nd.2⟩
  · by_cases q : a = p
    · subst q; rw [upd_same] at e ⊢; exact e
    · rw [upd_ne q] at e ⊢; exact r.ex a u e
  · by_cases q : a = p
    · subst q; exact .inr h
    · rw [upd_ne q] at e; exact .inl e
end

/-! ### what an expression gives -/
/-- a frozen value; a list, a dict that is looked at; a new one that nobody holds -/
inductive E where
  | v (d : D) | b (ds : List D) | n (ds : List D) | bd (kvs : List (Key × D)) | nd (kvs : List (Key × D))
def ER (B : Bs) (Hs Hf H : Hp) (v : V) : E → Prop
  | .v d => Rep B.K B.dr Hf v d
  | .b ds => ∃ a vs, v = .ref a ∧ H a = some (.lst vs) ∧ a ≠ B.dr ∧ a ≠ B.rs ∧ RepL B.K B.dr Hf vs ds
  | .bd ds => ∃ a vs, v = .ref a ∧ H a = some (.dK vs) ∧ a ≠ B.dr ∧ a ≠ B.rs ∧ RepK B.K B.dr Hf vs ds
  | .n ds => ∃ a vs, v = .ref a ∧ H a = some (.lst vs) ∧ a ≠ B.dr ∧ a ≠ B.rs ∧ RepL B.K B.dr Hf vs ds ∧ Hf a = none ∧ Hs a = none
  | .nd ds => ∃ a vs, v = .ref a ∧ H a = some (.dK vs) ∧ a ≠ B.dr ∧ a ≠ B.rs ∧ RepK B.K B.dr Hf vs ds ∧ Hf a = none ∧ Hs a = none
inductive Out (α : Type) where
  | ok (a : α) (S : Dr) | exc (C : Addr) (fs : List (Str × D)) (S : Dr) | stk
def ExR (B : Bs) (Hf' H' : Hp) (C : Addr) (fs : List (Str × D)) (d : Option Addr) : Prop := ∃ dd fv, d = some dd ∧ H' dd = some (.xd fv) ∧ Hf' dd = none ∧ RepF B.K B.dr Hf' fv fs
/-- the wanted end of an expression that comes out as o -/
def EPost (B : Bs) (W : WX) (Hf : Hp) (σ : L2.St) (H : Hp) {α β : Type} (rel : Hp → α → β → Hp → Hp → Prop) (o : Out α) (Q : β → Hp → Prop) : Prop :=
  match o with
  | .ok e S' => ∀ v Hf' H', Nx B Hf H Hf' H' → DrR B Hf' S' H' → rel H e v Hf' H' → Q v H'
  | .exc C fs S' => ∀ d Hf' H', Nx B Hf H Hf' H' → DrR B Hf' S' H' → ExR B Hf' H' C fs d → W (.ref C) d σ H'
  | .stk => False
abbrev erel (B : Bs) : Hp → E → V → Hp → Hp → Prop := fun Hs e v Hf' H' => ER B Hs Hf' H' v e
abbrev trel : Hp → Bool → Bool → Hp → Hp → Prop := fun _ b c _ _ => b = c
/-- the widest readings -/
def tW (X : Cx) (e : Expr) : TE := fun σ H Q => ∀ (pins : List (Addr × Obj)) (s : Shared), Inv X pins σ H s → wpAny (model X.prog X.w) X.A (eval e X.env) (EP X pins σ Q) X.xe s
def tWT (X : Cx) (e : Expr) : TT := fun σ H Q => ∀ (pins : List (Addr × Obj)) (s : Shared), Inv X pins σ H s → wpAny (model X.prog X.w) X.A (isTrue e X.env (eval e X.env)) (TP X pins σ Q) X.xe s
def tWA (X : Cx) (es : List Expr) : TA := fun σ H Q => ∀ (pos : Pos) (pins : List (Addr × Obj)) (s : Shared), Inv X pins σ H s → wpAny (model X.prog X.w) X.A (spliced (backTo pos (starEach es X.env))) (AP X pins σ Q) X.xe s
def tWS (X : Cx) (st : Stmt) : TS := fun D σ H => ∀ (pins : List (Addr × Obj)) (s : Shared), Inv X pins σ H s → wpAny (model X.prog X.w) X.A (exec st X.env) (SP X pins D) X.xe s
def tWSs (X : Cx) (st : List Stmt) : TS := fun D σ H => ∀ (pins : List (Addr × Obj)) (s : Shared), Inv X pins σ H s → wpAny (model X.prog X.w) X.A (execs st X.env) (SP X pins D) X.xe s
theorem pe_W {X : Cx} {e : Expr} : PE X e (tW X e) := ⟨fun pins s _ _ _ I h => h pins s I⟩
theorem pt_W {X : Cx} {e : Expr} : PT X e (tWT X e) := ⟨fun pins s _ _ _ I h => h pins s I⟩
theorem pa_W {X : Cx} {es : List Expr} : PA X es (tWA X es) := ⟨fun pos pins s _ _ _ I h => h pos pins s I⟩
theorem ps_W {X : Cx} {st : Stmt} : PS X st (tWS X st) := ⟨fun pins s _ _ _ I h => h pins s I⟩
theorem pss_W {X : Cx} {st : List Stmt} : PSs X st (tWSs X st) := ⟨fun pins s _ _ _ I h => h pins s I⟩
theorem tW_of {X : Cx} {e : Expr} {t : TE} (p : PE X e t) {σ : L2.St} {H : Hp} {Q : VK} (h : t σ H Q) : tW X e σ H Q := fun pins s I => p.run pins s σ H Q I h
theorem tWT_of {X : Cx} {e : Expr} {t : TT} (p : PT X e t) {σ : L2.St} {H : Hp} {Q : Bool → Hp → Prop} (h : t σ H Q) : tWT X e σ H Q := fun pins s I => p.run pins s σ H Q I h
theorem tWA_of {X : Cx} {es : List Expr} {t : TA} (p : PA X es t) {σ : L2.St} {H : Hp} {Q : List V → Hp → Prop} (h : t σ H Q) : tWA X es σ H Q := fun pos pins s I => p.run pos pins s σ H Q I h
theorem tWS_of {X : Cx} {st : Stmt} {t : TS} (p : PS X st t) {σ : L2.St} {H : Hp} {D : Ends} (h : t D σ H) : tWS X st D σ H := fun pins s I => p.run pins s σ H D I h
theorem tWSs_of {X : Cx} {st : List Stmt} {t : TS} (p : PSs X st t) {σ : L2.St} {H : Hp} {D : Ends} (h : t D σ H) : tWSs X st D σ H := fun pins s I => p.run pins s σ H D I h

structure JE (X : Cx) (W : WX) (B : Bs) (e : Expr) (f : Env → Dr → Out E) : Prop where
  of ::
  go : ∀ (bs : Hp × Hp) (σ : L2.St) (H : Hp) (ρ : Env) (S : Dr) (Hf : Hp) (Q : VK), R B bs Hf ρ S σ H → EPost B W Hf σ H (erel B) (f ρ S) Q → tW X e σ H Q
/-- a test -/
structure JT (X : Cx) (W : WX) (B : Bs) (e : Expr) (f : Env → Dr → Out Bool) : Prop where
  of ::
  go : ∀ (bs : Hp × Hp) (σ : L2.St) (H : Hp) (ρ : Env) (S : Dr) (Hf : Hp) (Q : Bool → Hp → Prop), R B bs Hf ρ S σ H → EPost B W Hf σ H trel (f ρ S) Q → tWT X e σ H Q
def ArR (B : Bs) (Hf H : Hp) (v : V) (o : O) : Prop := match o with
  | .v d => Rep B.K B.dr Hf v d
  | .lt ds => ∃ a vs, v = .ref a ∧ H a = some (.lst vs) ∧ a ≠ B.dr ∧ a ≠ B.rs ∧ RepL B.K B.dr Hf vs ds
  | .ld kvs => ∃ a vs, v = .ref a ∧ H a = some (.dK vs) ∧ a ≠ B.dr ∧ a ≠ B.rs ∧ RepK B.K B.dr Hf vs kvs
  | _ => False
def AsR (B : Bs) (Hf H : Hp) : List V → List O → Prop := Paired (ArR B Hf H)
abbrev arel (B : Bs) : Hp → List O → List V → Hp → Hp → Prop := fun _ os vs Hf' H' => AsR B Hf' H' vs os
/-- arguments -/
structure JA (X : Cx) (W : WX) (B : Bs) (es : List Expr) (f : Env → Dr → Out (List O)) : Prop where
  of ::
  go : ∀ (bs : Hp × Hp) (σ : L2.St) (H : Hp) (ρ : Env) (S : Dr) (Hf : Hp) (Q : List V → Hp → Prop), R B bs Hf ρ S σ H → EPost B W Hf σ H (arel B) (f ρ S) Q → tWA X es σ H Q

/-- what is new behind a step was new ahead of it -/
def Back (B : Bs) {α β : Type} (rel : Hp → α → β → Hp → Hp → Prop) : Prop :=
  ∀ (Hf H Hf' H' : Hp) (S' : Dr), Nx B Hf H Hf' H' → DrR B Hf' S' H' → ∀ e v Hf2 H2, rel H' e v Hf2 H2 → rel H e v Hf2 H2
theorem Nx.free {B : Bs} {Hf H Hf' H' : Hp} {S' : Dr} (n : Nx B Hf H Hf' H') (d : DrR B Hf' S' H') {a : Addr} (h : H' a = none) : H a = none := by
  cases e : H a with
  | none => rfl
  | some u =>
    by_cases e1 : a = B.dr
    · rw [e1, d.dr] at h; cases h
    by_cases e2 : a = B.rs
    · rw [e2, d.rs] at h; cases h
    rw [n.go a u e e1 e2] at h; cases h
theorem back_e {B : Bs} : Back B (erel B) := fun Hf H Hf' H' S' n d e v Hf2 H2 z => by
  cases e with
  | n ds => obtain ⟨a, vs, h1, h2, k1, k2, h3, h4, h5⟩ := z; exact ⟨a, vs, h1, h2, k1, k2, h3, h4, n.free d h5⟩
  | nd ds => obtain ⟨a, vs, h1, h2, k1, k2, h3, h4, h5⟩ := z; exact ⟨a, vs, h1, h2, k1, k2, h3, h4, n.free d h5⟩
  | _ => exact z
theorem back_t {B : Bs} : Back B trel := fun _ _ _ _ _ _ _ _ _ _ _ z => z
theorem back_a {B : Bs} : Back B (arel B) := fun _ _ _ _ _ _ _ _ _ _ _ z => z
section
variable {B : Bs} {bs : Hp × Hp} {W : WX} {Hs Hf Hf' H H' : Hp} {ρ : Env} {S S' : Dr} {σ : L2.St} {α β : Type} {rel : Hp → α → β → Hp → Hp → Prop} {o : Out α} {Q : β → Hp → Prop}
theorem EPost.mono {Q' : β → Hp → Prop} (h : EPost B W Hf σ H rel o Q) (k : ∀ v H', Q v H' → Q' v H') : EPost B W Hf σ H rel o Q' := by
  cases o with
  | ok e S' => exact fun v Hf' H' n d r => k _ _ (h v Hf' H' n d r)
  | exc C fs S' => exact h
  | stk => exact h
/-- behind a first step -/
theorem EPost.step (hb : Back B rel) (n : Nx B Hf H Hf' H') (d1 : DrR B Hf' S' H') (h : EPost B W Hf σ H rel o Q) : EPost B W Hf' σ H' rel o Q := by
  cases o with
  | ok e S' => exact fun v Hf2 H2 n2 d r => h v Hf2 H2 (n.trans n2) d (hb _ _ _ _ _ n d1 _ _ _ _ r)
  | exc C fs S' => exact fun d Hf2 H2 n2 z r => h d Hf2 H2 (n.trans n2) z r
  | stk => exact h
theorem ER.next (r : R B bs Hf ρ S σ H) (n : Nx B Hf H Hf' H') {v : V} {e : E} (s : ER B Hs Hf H v e) : ER B Hs Hf' H' v e := by
  have nf : ∀ {a u}, H a = some u → Hf a = none → Hf' a = none := fun {a u} h1 h3 => by
    cases e : Hf' a with
    | none => rfl
    | some u =>
      rcases n.fr a u e with q | q
      · rw [h3] at q; cases q
      · rw [h1] at q; cases q
  cases e with
  | v d => exact Rep.mono n.ex s
  | b ds =>
    obtain ⟨a, vs, rfl, h1, h2, h3, h4⟩ := s
    exact ⟨a, vs, rfl, n.go a _ h1 h2 h3, h2, h3, h4.mono n.ex⟩
  | bd ds =>
    obtain ⟨a, vs, rfl, h1, h2, h3, h4⟩ := s
    exact ⟨a, vs, rfl, n.go a _ h1 h2 h3, h2, h3, h4.mono n.ex⟩
  | n ds =>
    obtain ⟨a, vs, rfl, h1, k1, k2, h2, h3, h4⟩ := s
    exact ⟨a, vs, rfl, n.go a _ h1 k1 k2, k1, k2, h2.mono n.ex, nf h1 h3, h4⟩
  | nd ds =>
    obtain ⟨a, vs, rfl, h1, k1, k2, h2, h3, h4⟩ := s
    exact ⟨a, vs, rfl, n.go a _ h1 k1 k2, k1, k2, h2.mono n.ex, nf h1 h3, h4⟩
end

/-! ### argument lists without stars -/
def notStar : Expr → Bool
  | .Starred _ _ => false
  | _ => true
theorem star_c {e : Expr} {es : List Expr} {env : PySem.Env} (h : notStar e = true) : starEach (e :: es) env = (false, eval e env) :: starEach es env := by
  cases e <;> first | rfl | cases h
theorem star_0 {env : PySem.Env} : starEach [] env = [] := by rw [starEach]
theorem star_1 {e : Expr} {env : PySem.Env} (h : notStar e = true) : starEach [e] env = [(false, eval e env)] := by rw [star_c h, star_0]
theorem star_2 {e e' : Expr} {env : PySem.Env} (h : notStar e = true) (h' : notStar e' = true) : starEach [e, e'] env = [(false, eval e env), (false, eval e' env)] := by rw [star_c h, star_1 h']
theorem star_any {pos : Pos} {env : PySem.Env} : ∀ {es : List Expr}, es.all notStar = true → (backTo pos (starEach es env)).any (·.1) = false
  | [], _ => by rw [star_0]; rfl
  | e :: es, h => by
    rw [List.all_cons, Bool.and_eq_true] at h
    rw [star_c h.1]
    have ih := star_any (pos := pos) (env := env) h.2
    unfold backTo at ih ⊢
    rw [List.map_cons, List.any_cons]
    exact ih
end Dn

set_option Elab.async false
set_option linter.all false
set_option maxRecDepth 100000
set_option maxHeartbeats 4000000
namespace Dn
open PySem PySem.Spec PyProof.Rows L2

def Out.bind {α β : Type} (o : Out α) (k : α → Dr → Out β) : Out β := match o with
  | .ok a S => k a S
  | .exc C fs S => .exc C fs S
  | .stk => .stk
def Out.of {α : Type} (o : Option α) (S : Dr) : Out α := match o with
  | some a => .ok a S
  | none => .stk

section
variable {X : Cx} {W : WX} {B : Bs} {bs : Hp × Hp} {Hs Hf H : Hp} {ρ : Env} {S : Dr} {σ : L2.St} {α β : Type} {rel : Hp → α → β → Hp → Hp → Prop} {Q : β → Hp → Prop}
/-- an expression, then what is done with its value -/
theorem JE.bind {e : Expr} {fa : Env → Dr → Out E} {k : E → Dr → Out α} {P : VK} (ha : JE X W B e fa) (r : R B bs Hf ρ S σ H) (h : EPost B W Hf σ H rel ((fa ρ S).bind k) Q) (hb : Back B rel)
    (hk : ∀ e1 S1 v H1 Hf1, R B bs Hf1 ρ S1 σ H1 → Nx B Hf H Hf1 H1 → ER B H Hf1 H1 v e1 → EPost B W Hf1 σ H1 rel (k e1 S1) Q → P v H1) : tW X e σ H P := by
  refine ha.go bs σ H ρ S Hf P r ?_
  cases q : fa ρ S with
  | ok e1 S1 =>
    rw [q] at h
    exact fun v Hf1 H1 n d z => hk e1 S1 v H1 Hf1 (r.next n d) n z (EPost.step hb n d h)
  | exc C fs S1 => rw [q] at h; exact h
  | stk => rw [q] at h; exact h
theorem JT.bind {e : Expr} {fa : Env → Dr → Out Bool} {k : Bool → Dr → Out α} {P : Bool → Hp → Prop} (ha : JT X W B e fa) (r : R B bs Hf ρ S σ H) (h : EPost B W Hf σ H rel ((fa ρ S).bind k) Q) (hb : Back B rel)
    (hk : ∀ b S1 H1 Hf1, R B bs Hf1 ρ S1 σ H1 → Nx B Hf H Hf1 H1 → EPost B W Hf1 σ H1 rel (k b S1) Q → P b H1) : tWT X e σ H P := by
  refine ha.go bs σ H ρ S Hf P r ?_
  cases q : fa ρ S with
  | ok e1 S1 =>
    rw [q] at h
    refine fun v Hf1 H1 n d z => ?_
    subst z
    exact hk e1 S1 H1 Hf1 (r.next n d) n (EPost.step hb n d h)
  | exc C fs S1 => rw [q] at h; exact h
  | stk => rw [q] at h; exact h
theorem JA.bind {es : List Expr} {fa : Env → Dr → Out (List O)} {k : List O → Dr → Out α} {P : List V → Hp → Prop} (ha : JA X W B es fa) (r : R B bs Hf ρ S σ H) (h : EPost B W Hf σ H rel ((fa ρ S).bind k) Q) (hb : Back B rel)
    (hk : ∀ os S1 vs H1 Hf1, R B bs Hf1 ρ S1 σ H1 → Nx B Hf H Hf1 H1 → AsR B Hf1 H1 vs os → EPost B W Hf1 σ H1 rel (k os S1) Q → P vs H1) : tWA X es σ H P := by
  refine ha.go bs σ H ρ S Hf P r ?_
  cases q : fa ρ S with
  | ok e1 S1 =>
    rw [q] at h
    exact fun v Hf1 H1 n d z => hk e1 S1 v H1 Hf1 (r.next n d) n z (EPost.step hb n d h)
  | exc C fs S1 => rw [q] at h; exact h
  | stk => rw [q] at h; exact h
theorem JE.mk {e : Expr} {t : TE} {f : Env → Dr → Out E} (p : PE X e t) (h : ∀ (bs : Hp × Hp) (σ : L2.St) (H : Hp) (ρ : Env) (S : Dr) (Hf : Hp) (Q : VK), R B bs Hf ρ S σ H → EPost B W Hf σ H (erel B) (f ρ S) Q → t σ H Q) : JE X W B e f :=
  .of fun bs σ H ρ S Hf Q r q => tW_of p (h bs σ H ρ S Hf Q r q)
theorem JT.mk {e : Expr} {t : TT} {f : Env → Dr → Out Bool} (p : PT X e t) (h : ∀ (bs : Hp × Hp) (σ : L2.St) (H : Hp) (ρ : Env) (S : Dr) (Hf : Hp) (Q : Bool → Hp → Prop), R B bs Hf ρ S σ H → EPost B W Hf σ H trel (f ρ S) Q → t σ H Q) : JT X W B e f :=
  .of fun bs σ H ρ S Hf Q r q => tWT_of p (h bs σ H ρ S Hf Q r q)
/-- an end without a change -/
theorem EPost.now {e : E} {v : V} {Q : VK} (r : R B bs Hf ρ S σ H) (h : EPost B W Hf σ H (erel B) (.ok e S) Q) (z : ER B H Hf H v e) : Q v H := h v Hf H r.nx0 r.drw z
theorem EPost.nowT {b : Bool} {Q : Bool → Hp → Prop} (r : R B bs Hf ρ S σ H) (h : EPost B W Hf σ H trel (.ok b S) Q) : Q b H := h b Hf H r.nx0 r.drw rfl
end

/-! ### names and constants -/
def readO : O → Option E
  | .v d => some (.v d)
  | .l ds => some (.b ds)
  | .lt ds => some (.b ds)
  | .d k => some (.bd k)
  | .ld k => some (.bd k)
  | .x _ _ => none
  | .ob _ _ => none
def fVar (i : Nat) : Env → Dr → Out E := fun ρ S => match ρ[i]? with
  | some (some o) => Out.of (readO o) S
  | _ => .stk
def fC (d : D) : Env → Dr → Out E := fun _ S => .ok (.v d) S
section
variable {X : Cx} {W : WX} {B : Bs} {bs : Hp × Hp} {Hs Hf H : Hp} {ρ : Env} {S : Dr} {σ : L2.St}
theorem R.ne0 (r : R B bs Hf ρ S σ H) : ∀ a, bs.2 a = none → a ≠ B.dr ∧ a ≠ B.rs := fun a h => by
    obtain ⟨⟨o1, h1⟩, o2, h2⟩ := r.h0
    constructor
    · intro e; rw [e, h1] at h; cases h
    · intro e; rw [e, h2] at h; cases h
theorem readO_ok (r : R B bs Hf ρ S σ H) {v : V} {o : O} {e : E} (s : SlR B bs Hf H v o) (q : readO o = some e) : ER B H Hf H v e := by
  cases o with
  | v d => cases q; exact s
  | l ds => cases q; obtain ⟨a, vs, rfl, h1, h2, h3, h4⟩ := s; exact ⟨a, vs, rfl, h1, (r.ne0 a h4).1, (r.ne0 a h4).2, h2⟩
  | d ds => cases q; obtain ⟨a, vs, rfl, h1, h2, h3, h4⟩ := s; exact ⟨a, vs, rfl, h1, (r.ne0 a h4).1, (r.ne0 a h4).2, h2⟩
  | lt ds => cases q; obtain ⟨a, vs, rfl, h1, h2, h3, h4⟩ := s; exact ⟨a, vs, rfl, r.go a _ h1 h2 h3, h2, h3, h4⟩
  | ld ds => cases q; obtain ⟨a, vs, rfl, h1, h2, h3, h4⟩ := s; exact ⟨a, vs, rfl, r.go a _ h1 h2 h3, h2, h3, h4⟩
  | x C fs => cases q
  | ob C fs => cases q
theorem je_var (i : Nat) {x : Str} {pos : Pos} (hN : X.N[i]? = some x := by rfl) (hv : Vis X.env.scope x := by first | exact Or.inl rfl | exact Or.inr (Or.inl rfl) | exact Or.inr (Or.inr rfl)) (hd : (x == ("__debug__" : Str)) = false := by decide)
    (hcd : (x == ("__classdict__" : Str)) = false := by decide) : JE X W B (.Name x pos) (fVar i) := JE.mk (pe_var hN hv hd hcd) fun bs σ H ρ S Hf Q r h => by
  unfold fVar at h
  split at h
  · rename_i o e
    obtain ⟨v, e2, s⟩ := r.sl i o e
    cases q : readO o with
    | none => rw [q] at h; exact h.elim
    | some e' => rw [q] at h; exact ⟨v, e2, EPost.now r h (readO_ok r s q)⟩
  · exact h.elim
theorem je_int {i j pos} : JE X W B (.Constant (.int i) j pos) (fC (.int i)) := JE.mk pe_int fun bs σ H ρ S Hf Q r h => EPost.now r h (Rep.int i)
theorem je_bl {i j pos} : JE X W B (.Constant (.bool i) j pos) (fC (.bl i)) := JE.mk pe_bl fun bs σ H ρ S Hf Q r h => EPost.now r h (Rep.bl i)
theorem je_non {j pos} : JE X W B (.Constant .none j pos) (fC .non) := JE.mk pe_non fun bs σ H ρ S Hf Q r h => EPost.now r h Rep.non
theorem je_str {x j pos} : JE X W B (.Constant (.str x) j pos) (fC (.str x)) := JE.mk pe_str fun bs σ H ρ S Hf Q r h => EPost.now r h (Rep.str x)
/-- a module's int -/
theorem je_globI {x : Str} {i : Int} {t : Tok} {pos : Pos} (hm : X.mg x = some (.int i t)) (hg : Gl X x := by rfl) (hd : (x == ("__debug__" : Str)) = false := by decide) : JE X W B (.Name x pos) (fC (.int i)) :=
  JE.mk (pe_glob (v := .int i) hg hm ⟨_, rfl⟩ hd) fun bs σ H ρ S Hf Q r h => EPost.now r h (Rep.int i)
theorem je_globS {x : Str} {i : Str} {t : Tok} {pos : Pos} (hm : X.mg x = some (.str i t)) (hg : Gl X x := by rfl) (hd : (x == ("__debug__" : Str)) = false := by decide) : JE X W B (.Name x pos) (fC (.str i)) :=
  JE.mk (pe_glob (v := .str i) hg hm ⟨_, rfl⟩ hd) fun bs σ H ρ S Hf Q r h => EPost.now r h (Rep.str i)
theorem je_globR {x : Str} {a : Addr} {pos : Pos} (hm : X.mg x = some (.ref a)) (hg : Gl X x := by rfl) (hd : (x == ("__debug__" : Str)) = false := by decide) : JE X W B (.Name x pos) (fC (.ref a)) :=
  JE.mk (pe_glob (v := .ref a) hg hm rfl hd) fun bs σ H ρ S Hf Q r h => EPost.now r h (Rep.ref a)
theorem je_ty {x : Str} {n : String} {pos : Pos} (hm : X.mg x = none) (hv : bootBuiltins x = some (.type n)) (hg : Gl X x := by rfl) (hn : x ≠ "__name__" := by decide) (hd : (x == ("__debug__" : Str)) = false := by decide) : JE X W B (.Name x pos) (fC (.ty n)) :=
  JE.mk (pe_bltn (v := .ty n) hg hm hv rfl hn hd) fun bs σ H ρ S Hf Q r h => EPost.now r h (Rep.ty n)
end

/-! ### lists and dicts behind what an expression gives -/
def E.ls : E → Option (List D)
  | .v (.lst ds) => some ds
  | .b ds => some ds
  | .n ds => some ds
  | _ => none
def E.kd : E → Option (List (Key × D))
  | .v (.dct ds) => some ds
  | .bd ds => some ds
  | .nd ds => some ds
  | _ => none
section
variable {X : Cx} {W : WX} {B : Bs} {bs : Hp × Hp} {Hs Hf H : Hp} {ρ : Env} {S : Dr} {σ : L2.St}
theorem ER.ls (r : R B bs Hf ρ S σ H) {v : V} {e : E} {ds : List D} (h : ER B Hs Hf H v e) (q : e.ls = some ds) : ∃ a vs, v = .ref a ∧ H a = some (.lst vs) ∧ RepL B.K B.dr Hf vs ds := by
  cases e with
  | v d =>
    cases d <;> simp [E.ls] at q
    subst q
    cases h with
    | lst h1 h2 => exact ⟨_, _, rfl, r.ex _ _ h1, h2⟩
  | b ds => simp [E.ls] at q; subst q; obtain ⟨a, vs, h1, h2, _, _, h3⟩ := h; exact ⟨a, vs, h1, h2, h3⟩
  | n ds => simp [E.ls] at q; subst q; obtain ⟨a, vs, h1, h2, _, _, h3, _⟩ := h; exact ⟨a, vs, h1, h2, h3⟩
  | _ => cases q
theorem ER.kd (r : R B bs Hf ρ S σ H) {v : V} {e : E} {ds : List (Key × D)} (h : ER B Hs Hf H v e) (q : e.kd = some ds) : ∃ a vs, v = .ref a ∧ H a = some (.dK vs) ∧ RepK B.K B.dr Hf vs ds := by
  cases e with
  | v d =>
    cases d <;> simp [E.kd] at q
    subst q
    cases h with
    | dct h1 h2 => exact ⟨_, _, rfl, r.ex _ _ h1, h2⟩
  | bd ds => simp [E.kd] at q; subst q; obtain ⟨a, vs, h1, h2, _, _, h3⟩ := h; exact ⟨a, vs, h1, h2, h3⟩
  | nd ds => simp [E.kd] at q; subst q; obtain ⟨a, vs, h1, h2, _, _, h3, _⟩ := h; exact ⟨a, vs, h1, h2, h3⟩
  | _ => cases q
theorem rep_tup {K : PySem.W.Frag} {dr : Addr} (e : Ex Hf H) {v : V} {ds : List D} (h : Rep K dr Hf v (.tup ds)) : ∃ a vs, v = .ref a ∧ SqT K H a vs ∧ RepL K dr Hf vs ds := by
  cases h with
  | tup h1 h2 => exact ⟨_, _, rfl, ex_t e h1, h2⟩

/-! ### what is put into something that stays: a new list is frozen -/
def per : E → Option D
  | .v d => some d
  | .n ds => some (.lst ds)
  | .nd ds => some (.dct ds)
  | _ => none
theorem per_ok {Hf1 H1 : Hp} {S1 : Dr} (r1 : R B bs Hf1 ρ S1 σ H1) (n : Nx B Hf H Hf1 H1) {v : V} {e : E} {d : D} (h : ER B H Hf1 H1 v e) (q : per e = some d) :
    ∃ Hf2, Nx B Hf H Hf2 H1 ∧ Ex Hf1 Hf2 ∧ DrR B Hf2 S1 H1 ∧ Rep B.K B.dr Hf2 v d := by
  have fin : ∀ {a : Addr} {u : HO}, H1 a = some u → a ≠ B.dr → a ≠ B.rs → Hf1 a = none → H a = none → Nx B Hf H (upd Hf1 a u) H1 ∧ Ex Hf1 (upd Hf1 a u) ∧ DrR B (upd Hf1 a u) S1 H1 := fun {a u} h1 k1 k2 h3 h4 => by
    refine ⟨⟨n.ex.trans (Ex.new h3), fun b o e => ?_, fun b o e => ?_, n.go, by rw [upd_ne (Ne.symm k1)]; exact n.nd.1, by rw [upd_ne (Ne.symm k2)]; exact n.nd.2⟩, Ex.new h3, ⟨r1.drw.dr, Ex.new h3 _ _ r1.drw.cl, r1.drw.rs, r1.drw.ne⟩⟩
    · by_cases q : b = a
      · subst q; rw [upd_same] at e; rw [← e]; exact h1
      · rw [upd_ne q] at e; exact n.exf b o e
    · by_cases q : b = a
      · subst q; exact .inr h4
      · rw [upd_ne q] at e; exact n.fr b o e
  cases e with
  | v d' => simp [per] at q; subst q; exact ⟨Hf1, n, Ex.refl _, r1.drw, h⟩
  | n ds =>
    simp [per] at q; subst q
    obtain ⟨a, vs, rfl, h1, k1, k2, h2, h3, h4⟩ := h
    obtain ⟨x, y, z⟩ := fin h1 k1 k2 h3 h4
    exact ⟨_, x, y, z, .lst upd_same (h2.mono y)⟩
  | nd ds =>
    simp [per] at q; subst q
    obtain ⟨a, vs, rfl, h1, k1, k2, h2, h3, h4⟩ := h
    obtain ⟨x, y, z⟩ := fin h1 k1 k2 h3 h4
    exact ⟨_, x, y, z, .dct upd_same (h2.mono y)⟩
  | _ => cases q
end
end Dn

set_option Elab.async false
set_option linter.all false
set_option maxRecDepth 100000
set_option maxHeartbeats 4000000
namespace Dn
open PySem PySem.Spec PyProof.Rows L2

/-! ### operators -/
theorem OpR.or {X : Cx} {f : Value → Value → Sem Value} {r r' : R2} (h : OpR X f r) (h' : OpR X f r') : OpR X f (fun x y H Q => r x y H Q ∨ r' x y H Q) := by
  intro pins s σ H x y v u Q I rx ry q
  rcases q with q | q
  · exact h pins s σ H x y v u Q I rx ry q
  · exact h' pins s σ H x y v u Q I rx ry q
/-- what is wanted behind a pure step that gives e -/
def VP (B : Bs) (S : Dr) (Hf H : Hp) (e : E) (Q : VK) : Prop := ∀ v Hf' H', Nx B Hf H Hf' H' → DrR B Hf' S H' → ER B H Hf' H' v e → Q v H'
/-- the operator's reading gives what g says -/
def OpJ (B : Bs) (r : R2) (g : E → E → Option E) : Prop :=
  ∀ (bs : Hp × Hp) (σ : L2.St) (H : Hp) (ρ : Env) (S : Dr) (Hf Hs1 Hs2 : Hp) (x y : V) (e1 e2 e : E) (Q : VK), R B bs Hf ρ S σ H → ER B Hs1 Hf H x e1 → ER B Hs2 Hf H y e2 → g e1 e2 = some e → VP B S Hf H e Q → r x y H Q
def fOp (g : E → E → Option E) (fa fb : Env → Dr → Out E) : Env → Dr → Out E := fun ρ S => (fa ρ S).bind fun x S1 => (fb ρ S1).bind fun y S2 => Out.of (g x y) S2
section
variable {X : Cx} {W : WX} {B : Bs} {bs : Hp × Hp} {Hs Hf H : Hp} {ρ : Env} {S : Dr} {σ : L2.St} {a b : Expr} {fa fb : Env → Dr → Out E} {pos : Pos} {r : R2} {g : E → E → Option E}
theorem VP.now {e : E} {v : V} {Q : VK} (r : R B bs Hf ρ S σ H) (h : VP B S Hf H e Q) (z : ER B H Hf H v e) : Q v H := h v Hf H r.nx0 r.drw z
theorem op2 (hj : OpJ B r g) (ha : JE X W B a fa) (hb : JE X W B b fb) {Q : VK} (R0 : R B bs Hf ρ S σ H) (h : EPost B W Hf σ H (erel B) (fOp g fa fb ρ S) Q) : tOp r (tW X a) (tW X b) σ H Q := by
  show tW X a σ H (fun x H1 => tW X b σ H1 (fun y H2 => r x y H2 Q))
  refine ha.bind R0 h back_e fun e1 S1 v H1 Hf1 r1 n1 z1 h1 => ?_
  refine hb.bind r1 h1 back_e fun e2 S2 v2 H2 Hf2 r2 n2 z2 h2 => ?_
  cases q : g e1 e2 with
  | none => rw [q] at h2; exact h2.elim
  | some e =>
    rw [q] at h2
    exact hj _ _ _ _ _ _ _ _ _ _ _ _ _ _ r2 (z1.next r1 n2) z2 q fun v Hf' H' n d z => h2 v Hf' H' n d z
theorem je_op {op : Operator} (ho : OpR X (binaryOp op) r) (hj : OpJ B r g) (ha : JE X W B a fa) (hb : JE X W B b fb) : JE X W B (.BinOp a op b pos) (fOp g fa fb) :=
  JE.mk (pe_op ho pe_W pe_W) fun bs σ H ρ S Hf Q R0 h => op2 hj ha hb R0 h
theorem je_cmp {op : CmpOp} (ho : OpR X (compareOp op) r) (hj : OpJ B r g) (ha : JE X W B a fa) (hb : JE X W B b fb) (hm : behindInMarks op b = false := by first | exact nomark _ | rfl | (with_unfolding_all rfl)) : JE X W B (.Compare a [op] [b] pos) (fOp g fa fb) :=
  JE.mk (pe_cmpR ho pe_W pe_W hm) fun bs σ H ρ S Hf Q R0 h => op2 hj ha hb R0 h
/-- a bool that an expression gives, as a test -/
def E.bl? : E → Option Bool
  | .v (.bl b) => some b
  | _ => none
theorem ER.bl {v : V} {e : E} {b : Bool} (h : ER B Hs Hf H v e) (q : e.bl? = some b) : v = .bl b := by
  cases e with
  | v d =>
    cases d <;> simp [E.bl?] at q
    subst q
    cases h
    rfl
  | _ => cases q
def fTst (f : Env → Dr → Out E) : Env → Dr → Out Bool := fun ρ S => (f ρ S).bind fun e S1 => Out.of e.bl? S1
theorem tstB (ha : JE X W B a fa) {Q : Bool → Hp → Prop} (R0 : R B bs Hf ρ S σ H) (h : EPost B W Hf σ H trel (fTst fa ρ S) Q) : tW X a σ H (fun x H1 => ∃ c, x = .bl c ∧ Q c H1) := by
  refine ha.bind R0 h back_t fun e1 S1 v H1 Hf1 r1 n1 z1 h1 => ?_
  cases q : e1.bl? with
  | none => rw [q] at h1; exact h1.elim
  | some b =>
    rw [q] at h1
    exact ⟨b, z1.bl q, EPost.nowT r1 h1⟩
theorem jt_val (ha : JE X W B a fa) (he : ∀ whole, isTrue a X.env whole = (do let v ← whole; standAt a.pos; holding [v] (truthy v)) := by intro _; rfl) : JT X W B a (fTst fa) :=
  JT.mk (pt_val pe_W he) fun bs σ H ρ S Hf Q R0 h => tstB ha R0 h
theorem jt_cmp {op : CmpOp} (ho : OpR X (compareOp op) r) (hj : OpJ B r g) (ha : JE X W B a fa) (hb : JE X W B b fb) (hm : behindInMarks op b = false := by first | exact nomark _ | rfl | (with_unfolding_all rfl)) : JT X W B (.Compare a [op] [b] pos) (fTst (fOp g fa fb)) :=
  JT.mk (pt_cmpR ho pe_W pe_W hm) fun bs σ H ρ S Hf Q R0 h => by
    show tW X a σ H (fun x H1 => tW X b σ H1 (fun y H2 => r x y H2 (fun x H' => ∃ k, x = .bl k ∧ Q k H')))
    refine ha.bind (k := fun x S1 => ((fb ρ S1).bind fun y S2 => Out.of (g x y) S2).bind fun e S1 => Out.of e.bl? S1) (Q := Q) R0 (by
      unfold fTst fOp at h
      cases q : fa ρ S with
      | ok e1 S1 => rw [q] at h; exact h
      | exc C fs S1 => rw [q] at h; exact h
      | stk => rw [q] at h; exact h) back_t fun e1 S1 v H1 Hf1 r1 n1 z1 h1 => ?_
    refine hb.bind (k := fun y S2 => (Out.of (g e1 y) S2).bind fun e S1 => Out.of e.bl? S1) (Q := Q) r1 (by
      cases q : fb ρ S1 with
      | ok e2 S2 => rw [q] at h1; exact h1
      | exc C fs S2 => rw [q] at h1; exact h1
      | stk => rw [q] at h1; exact h1) back_t fun e2 S2 v2 H2 Hf2 r2 n2 z2 h2 => ?_
    cases q : g e1 e2 with
    | none => rw [q] at h2; exact h2.elim
    | some e =>
      rw [q] at h2
      refine hj _ _ _ _ _ _ _ _ _ _ _ _ _ _ r2 (z1.next r1 n2) z2 q fun v Hf' H' n d z => ?_
      have h3 : EPost B W Hf2 σ H2 trel (Out.of e.bl? S2) Q := h2
      cases q2 : e.bl? with
      | none => rw [q2] at h3; exact h3.elim
      | some c =>
        rw [q2] at h3
        exact ⟨c, z.bl q2, h3 c Hf' H' n d rfl⟩
end

/-! ### and, or, not, if -/
def fAnd (fa fb : Env → Dr → Out Bool) : Env → Dr → Out Bool := fun ρ S => (fa ρ S).bind fun c S1 => if c = true then fb ρ S1 else .ok false S1
def fOr (fa fb : Env → Dr → Out Bool) : Env → Dr → Out Bool := fun ρ S => (fa ρ S).bind fun c S1 => if c = true then .ok true S1 else fb ρ S1
def fNot (fa : Env → Dr → Out Bool) : Env → Dr → Out Bool := fun ρ S => (fa ρ S).bind fun c S1 => .ok (!c) S1
def fAndV (fa fb : Env → Dr → Out E) : Env → Dr → Out E := fun ρ S => (fTst fa ρ S).bind fun c S1 => if c = true then fb ρ S1 else .ok (.v (.bl false)) S1
def fOrV (fa fb : Env → Dr → Out E) : Env → Dr → Out E := fun ρ S => (fTst fa ρ S).bind fun c S1 => if c = true then .ok (.v (.bl true)) S1 else fb ρ S1
def fNotV (fa : Env → Dr → Out E) : Env → Dr → Out E := fun ρ S => (fTst fa ρ S).bind fun c S1 => .ok (.v (.bl !c)) S1
def fIf (fc : Env → Dr → Out Bool) (fa fb : Env → Dr → Out E) : Env → Dr → Out E := fun ρ S => (fc ρ S).bind fun c S1 => if c = true then fa ρ S1 else fb ρ S1
/-- a chain of tests, whatever its whole -/
structure JW (X : Cx) (W : WX) (B : Bs) (e : Expr) (f : Env → Dr → Out Bool) : Prop where
  of ::
  go : ∀ (bs : Hp × Hp) (σ : L2.St) (H : Hp) (ρ : Env) (S : Dr) (Hf : Hp) (Q : Bool → Hp → Prop), R B bs Hf ρ S σ H → EPost B W Hf σ H trel (f ρ S) Q →
    ∀ (whole : Sem Value) (pins : List (Addr × Obj)) (s : Shared), Inv X pins σ H s → wpAny (model X.prog X.w) X.A (isTrue e X.env whole) (TP X pins σ Q) X.xe s
def tWW (X : Cx) (e : Expr) : TT := fun σ H Q => ∀ (whole : Sem Value) (pins : List (Addr × Obj)) (s : Shared), Inv X pins σ H s → wpAny (model X.prog X.w) X.A (isTrue e X.env whole) (TP X pins σ Q) X.xe s
theorem pw_W {X : Cx} {e : Expr} : PW X e (tWW X e) := ⟨fun wh pins s _ _ _ I h => h wh pins s I⟩
section
variable {X : Cx} {W : WX} {B : Bs} {bs : Hp × Hp} {Hs Hf H : Hp} {ρ : Env} {S : Dr} {σ : L2.St} {a b c : Expr} {fa fb : Env → Dr → Out E} {ga gb gc : Env → Dr → Out Bool} {pos : Pos} {rest : List Expr}
theorem JW.mk {e : Expr} {t : TT} {f : Env → Dr → Out Bool} (p : PW X e t) (h : ∀ (bs : Hp × Hp) (σ : L2.St) (H : Hp) (ρ : Env) (S : Dr) (Hf : Hp) (Q : Bool → Hp → Prop), R B bs Hf ρ S σ H → EPost B W Hf σ H trel (f ρ S) Q → t σ H Q) : JW X W B e f :=
  .of fun bs σ H ρ S Hf Q r q wh pins s I => p.run wh pins s σ H Q I (h bs σ H ρ S Hf Q r q)
theorem JW.jt {e : Expr} {f : Env → Dr → Out Bool} (h : JW X W B e f) : JT X W B e f := .of fun bs σ H ρ S Hf Q r q pins s I => h.go bs σ H ρ S Hf Q r q _ pins s I
theorem jw_and1 (ha : JT X W B a ga) : JW X W B (.BoolOp .And [a] pos) ga := JW.mk (pw_and1 pt_W) fun bs σ H ρ S Hf Q r h => ha.go bs σ H ρ S Hf Q r h
theorem jw_or1 (ha : JT X W B a ga) : JW X W B (.BoolOp .Or [a] pos) ga := JW.mk (pw_or1 pt_W) fun bs σ H ρ S Hf Q r h => ha.go bs σ H ρ S Hf Q r h
theorem jw_and (ha : JT X W B a ga) (hb : JW X W B (.BoolOp .And (b :: rest) pos) gb) : JW X W B (.BoolOp .And (a :: b :: rest) pos) (fAnd ga gb) :=
  JW.mk (pw_and pt_W pw_W) fun bs σ H ρ S Hf Q r h => by
    show tWT X a σ H (fun c H1 => if c = true then tWW X _ σ H1 Q else Q false H1)
    refine ha.bind r h back_t fun c S1 H1 Hf1 r1 n1 h1 => ?_
    cases c with
    | true => exact iteT (hb.go bs σ H1 ρ S1 Hf1 Q r1 h1)
    | false => exact iteF (EPost.nowT r1 h1)
theorem jw_or (ha : JT X W B a ga) (hb : JW X W B (.BoolOp .Or (b :: rest) pos) gb) : JW X W B (.BoolOp .Or (a :: b :: rest) pos) (fOr ga gb) :=
  JW.mk (pw_or pt_W pw_W) fun bs σ H ρ S Hf Q r h => by
    show tWT X a σ H (fun c H1 => if c = true then Q true H1 else tWW X _ σ H1 Q)
    refine ha.bind r h back_t fun c S1 H1 Hf1 r1 n1 h1 => ?_
    cases c with
    | true => exact iteT (EPost.nowT r1 h1)
    | false => exact iteF (hb.go bs σ H1 ρ S1 Hf1 Q r1 h1)
theorem jt_not (ha : JT X W B a ga) : JT X W B (.UnaryOp .Not a pos) (fNot ga) := JT.mk (pt_not pt_W) fun bs σ H ρ S Hf Q r h => by
  show tWT X a σ H (fun c H1 => Q (!c) H1)
  exact ha.bind r h back_t fun c S1 H1 Hf1 r1 n1 h1 => EPost.nowT r1 h1
theorem je_one {op} (ha : JE X W B a fa) : JE X W B (.BoolOp op [a] pos) fa := JE.mk (pe_one pe_W) fun bs σ H ρ S Hf Q r h => ha.go bs σ H ρ S Hf Q r h
/-- fTst ahead of something else -/
theorem JE.bindT {α β : Type} {rel : Hp → α → β → Hp → Hp → Prop} {Q : β → Hp → Prop} {k : Bool → Dr → Out α} {P : VK} (ha : JE X W B a fa) (r : R B bs Hf ρ S σ H) (h : EPost B W Hf σ H rel ((fTst fa ρ S).bind k) Q) (hb : Back B rel)
    (hk : ∀ c S1 H1 Hf1, R B bs Hf1 ρ S1 σ H1 → Nx B Hf H Hf1 H1 → EPost B W Hf1 σ H1 rel (k c S1) Q → P (.bl c) H1) : tW X a σ H P := by
  refine ha.bind (k := fun e S1 => (Out.of e.bl? S1).bind k) (Q := Q) r (by
    unfold fTst at h
    cases q : fa ρ S with
    | ok e1 S1 => rw [q] at h; exact h
    | exc C fs S1 => rw [q] at h; exact h
    | stk => rw [q] at h; exact h) hb fun e1 S1 v H1 Hf1 r1 n1 z1 h1 => ?_
  cases q : e1.bl? with
  | none => rw [q] at h1; exact h1.elim
  | some c =>
    rw [q] at h1
    rw [z1.bl q]
    exact hk c S1 H1 Hf1 r1 n1 h1
theorem je_and (ha : JE X W B a fa) (hb : JE X W B (.BoolOp .And (b :: rest) pos) fb) : JE X W B (.BoolOp .And (a :: b :: rest) pos) (fAndV fa fb) := JE.mk (pe_and pe_W pe_W) fun bs σ H ρ S Hf Q r h => by
  show tW X a σ H fun x H1 => ∃ c, x = .bl c ∧ if c = true then tW X _ σ H1 Q else Q (.bl false) H1
  refine ha.bindT r h back_e fun c S1 H1 Hf1 r1 n1 h1 => ⟨c, rfl, ?_⟩
  cases c with
  | true => exact iteT (hb.go bs σ H1 ρ S1 Hf1 Q r1 h1)
  | false => exact iteF (EPost.now r1 h1 (Rep.bl false))
theorem je_or (ha : JE X W B a fa) (hb : JE X W B (.BoolOp .Or (b :: rest) pos) fb) : JE X W B (.BoolOp .Or (a :: b :: rest) pos) (fOrV fa fb) := JE.mk (pe_or pe_W pe_W) fun bs σ H ρ S Hf Q r h => by
  show tW X a σ H fun x H1 => ∃ c, x = .bl c ∧ if c = true then Q (.bl true) H1 else tW X _ σ H1 Q
  refine ha.bindT r h back_e fun c S1 H1 Hf1 r1 n1 h1 => ⟨c, rfl, ?_⟩
  cases c with
  | true => exact iteT (EPost.now r1 h1 (Rep.bl true))
  | false => exact iteF (hb.go bs σ H1 ρ S1 Hf1 Q r1 h1)
theorem je_not (ha : JE X W B a fa) : JE X W B (.UnaryOp .Not a pos) (fNotV fa) := JE.mk (pe_not pe_W) fun bs σ H ρ S Hf Q r h => by
  show tW X a σ H fun x H1 => ∃ c, x = .bl c ∧ Q (.bl (!c)) H1
  exact ha.bindT r h back_e fun c S1 H1 Hf1 r1 n1 h1 => ⟨c, rfl, EPost.now r1 h1 (Rep.bl _)⟩
theorem je_ifExp (hc : JT X W B c gc) (ha : JE X W B a fa) (hb : JE X W B b fb) : JE X W B (.IfExp c a b pos) (fIf gc fa fb) := JE.mk (pe_ifExp pt_W pe_W pe_W) fun bs σ H ρ S Hf Q r h => by
  show tWT X c σ H fun d H1 => if d = true then tW X a σ H1 Q else tW X b σ H1 Q
  refine hc.bind r h back_e fun d S1 H1 Hf1 r1 n1 h1 => ?_
  cases d with
  | true => exact iteT (ha.go bs σ H1 ρ S1 Hf1 Q r1 h1)
  | false => exact iteF (hb.go bs σ H1 ρ S1 Hf1 Q r1 h1)
end

/-! ### the operators' functions -/
def gInt (p : Int → Int → Option D) : E → E → Option E
  | .v (.int i), .v (.int j) => (p i j).map .v
  | _, _ => none
section
variable {X : Cx} {W : WX} {B : Bs} {bs : Hp × Hp} {Hs Hf H : Hp} {ρ : Env} {S : Dr} {σ : L2.St}
theorem ER.v_ok {v : V} {d : D} (h : ER B Hs Hf H v (.v d)) : Rep B.K B.dr Hf v d := h
theorem gInt_inv {p : Int → Int → Option D} {e1 e2 e : E} (h : gInt p e1 e2 = some e) : ∃ i j d, e1 = .v (.int i) ∧ e2 = .v (.int j) ∧ p i j = some d ∧ e = .v d := by
  unfold gInt at h
  split at h
  · rename_i i j
    cases q : p i j with
    | none => rw [q] at h; cases h
    | some d => rw [q] at h; cases h; exact ⟨i, j, d, rfl, rfl, q, rfl⟩
  · cases h
/-- an operator on ints whose answer is g under C -/
theorem opJ_I {C : Int → Int → Prop} [∀ i j, Decidable (C i j)] {g : Int → Int → V} {gd : Int → Int → D} (hg : ∀ (K : PySem.W.Frag) (dr : Addr) (H : Hp) (i j : Int), Rep K dr H (g i j) (gd i j)) : OpJ B (rI C g) (gInt fun i j => if C i j then some (gd i j) else none) :=
  fun bs σ H ρ S Hf Hs1 Hs2 x y e1 e2 e Q r h1 h2 q k => by
    obtain ⟨i, j, d, rfl, rfl, q2, rfl⟩ := gInt_inv q
    split at q2
    · rename_i hc
      cases q2
      cases h1.v_ok
      cases h2.v_ok
      exact ⟨i, j, rfl, rfl, hc, VP.now r k (hg _ _ _ i j)⟩
    · cases q2
theorem opJ_I0 {g : Int → Int → V} {gd : Int → Int → D} (hg : ∀ (K : PySem.W.Frag) (dr : Addr) (H : Hp) (i j : Int), Rep K dr H (g i j) (gd i j)) : OpJ B (rI0 g) (gInt fun i j => some (gd i j)) :=
  fun bs σ H ρ S Hf Hs1 Hs2 x y e1 e2 e Q r h1 h2 q k => by
    obtain ⟨i, j, d, rfl, rfl, q2, rfl⟩ := gInt_inv q
    cases q2
    cases h1.v_ok
    cases h2.v_ok
    exact ⟨i, j, rfl, rfl, VP.now r k (hg _ _ _ i j)⟩
theorem OpJ.or {r r' : R2} {g g' : E → E → Option E} (h : OpJ B r g) (h' : OpJ B r' g') : OpJ B (fun x y H Q => r x y H Q ∨ r' x y H Q) (fun x y => match g x y with
    | some e => some e
    | none => g' x y) := fun bs σ H ρ S Hf Hs1 Hs2 x y e1 e2 e Q R h1 h2 q k => by
  change (match g e1 e2 with | some e => some e | none => g' e1 e2) = some e at q
  show r x y H Q ∨ r' x y H Q
  split at q
  · rename_i e' q'
    cases q
    exact .inl (h bs σ H ρ S Hf Hs1 Hs2 x y e1 e2 _ Q R h1 h2 q' k)
  · exact .inr (h' bs σ H ρ S Hf Hs1 Hs2 x y e1 e2 e Q R h1 h2 q k)
instance (i j : Int) : Decidable (CMul i j) := by unfold CMul; infer_instance
instance (i j : Int) : Decidable (CDivN i j) := by unfold CDivN; infer_instance
instance (i j : Int) : Decidable (CPow i j) := by unfold CPow; infer_instance
def gSub : E → E → Option E := gInt fun i j => some (.int (i - j))
def gMulI : E → E → Option E := gInt fun i j => if CMul i j then some (.int (i * j)) else none
def gFdiv : E → E → Option E := gInt fun i j => if CDivN i j then some (.int (i.fdiv j)) else none
def gMod : E → E → Option E := gInt fun i j => if j ≠ 0 then some (.int (i.fmod j)) else none
def gPow : E → E → Option E := gInt fun i j => if CPow i j then some (.int (i ^ j.toNat)) else none
def gLt : E → E → Option E := gInt fun i j => some (.bl (decide (i < j)))
def gLe : E → E → Option E := gInt fun i j => some (.bl (decide (i ≤ j)))
def gGt : E → E → Option E := gInt fun i j => some (.bl (decide (j < i)))
def gGe : E → E → Option E := gInt fun i j => some (.bl (decide (j ≤ i)))
theorem oj_sub : OpJ B (rI0 fun i j => V.int (i - j)) gSub := opJ_I0 fun _ _ _ i j => .int _
theorem oj_mulI : OpJ B (rI CMul fun i j => V.int (i * j)) gMulI := opJ_I fun _ _ _ i j => .int _
theorem oj_fdiv : OpJ B (rI CDivN fun i j => V.int (i.fdiv j)) gFdiv := opJ_I fun _ _ _ i j => .int _
theorem oj_mod : OpJ B (rI (fun _ j => j ≠ 0) fun i j => V.int (i.fmod j)) gMod := opJ_I fun _ _ _ i j => .int _
theorem oj_pow : OpJ B (rI CPow fun i j => V.int (i ^ j.toNat)) gPow := opJ_I fun _ _ _ i j => .int _
theorem oj_lt : OpJ B (rI0 fun i j => V.bl (decide (i < j))) gLt := opJ_I0 fun _ _ _ i j => .bl _
theorem oj_le : OpJ B (rI0 fun i j => V.bl (decide (i ≤ j))) gLe := opJ_I0 fun _ _ _ i j => .bl _
theorem oj_gt : OpJ B (rI0 fun i j => V.bl (decide (j < i))) gGt := opJ_I0 fun _ _ _ i j => .bl _
theorem oj_ge : OpJ B (rI0 fun i j => V.bl (decide (j ≤ i))) gGe := opJ_I0 fun _ _ _ i j => .bl _

/-- + : ints, texts, tuples, lists -/
def gAddS : E → E → Option E
  | .v (.str a), .v (.str b) => if a.length + b.length ≤ sizeLine then some (.v (.str (a ++ b))) else none
  | _, _ => none
def gAddT : E → E → Option E
  | .v (.tup a), .v (.tup b) => if a.length + b.length ≤ sizeLine then some (.v (.tup (a ++ b))) else none
  | _, _ => none
def gAddL : E → E → Option E := fun x y => match x.ls, y.ls with
  | some a, some b => if a.length + b.length ≤ sizeLine then some (.n (a ++ b)) else none
  | _, _ => none
def gAddI : E → E → Option E := gInt fun i j => some (.int (i + j))
theorem oj_addI : OpJ B (rI0 fun i j => V.int (i + j)) gAddI := opJ_I0 fun _ _ _ i j => .int _
theorem oj_addS : OpJ B (fun x y H Q => ∃ i j, x = .str i ∧ y = .str j ∧ i.length + j.length ≤ sizeLine ∧ Q (.str (i ++ j)) H) gAddS := fun bs σ H ρ S Hf Hs1 Hs2 x y e1 e2 e Q r h1 h2 q k => by
  unfold gAddS at q
  split at q
  · split at q
    · rename_i hc
      cases q
      cases h1.v_ok
      cases h2.v_ok
      exact ⟨_, _, rfl, rfl, hc, VP.now r k (Rep.str _)⟩
    · cases q
  · cases q
theorem oj_addT : OpJ B (rCatA B.K) gAddT := fun bs σ H ρ S Hf Hs1 Hs2 x y e1 e2 e Q r h1 h2 q k => by
  unfold gAddT at q
  split at q
  · split at q
    · rename_i hc
      cases q
      obtain ⟨a, vs, rfl, t1, l1⟩ := rep_tup (Ex.refl Hf) h1.v_ok
      obtain ⟨b, ws, rfl, t2, l2⟩ := rep_tup (Ex.refl Hf) h2.v_ok
      refine ⟨a, b, vs, ws, rfl, rfl, ex_t r.ex t1, ex_t r.ex t2, by rw [l1.length, l2.length]; exact hc, fun e => ?_, fun _ e => ?_, fun _ _ p hp => ?_⟩
      · subst e
        cases l1
        exact VP.now r k (Rep.tup t2 l2)
      · subst e
        cases l2
        rw [List.append_nil] at k
        exact VP.now r k (Rep.tup t1 l1)
      · have n := r.newF (o := .tup (vs ++ ws)) hp
        exact k _ _ _ n (r.drw.new hp n.ex) (Rep.tup (SqT.of upd_same) ((l1.append l2).mono n.ex))
    · cases q
  · cases q
/-- a new list is laid -/
theorem VP.newL (r : R B bs Hf ρ S σ H) {ds : List D} {vs : List V} {Q : VK} (k : VP B S Hf H (.n ds) Q) (l : RepL B.K B.dr Hf vs ds) {p : Addr} (hp : H p = none) : Q (.ref p) (upd H p (.lst vs)) := by
  obtain ⟨n1, n2⟩ := r.dr_ne hp
  exact k _ _ _ (r.new hp) (r.drw.new hp (Ex.refl _)) ⟨p, vs, rfl, upd_same, n1, n2, l, r.freeH hp, hp⟩
theorem VP.newT (r : R B bs Hf ρ S σ H) {ds : List D} {vs : List V} {Q : VK} (k : VP B S Hf H (.v (.tup ds)) Q) (l : RepL B.K B.dr Hf vs ds) {p : Addr} (hp : H p = none) : Q (.ref p) (upd H p (.tup vs)) := by
  have n := r.newF (o := .tup vs) hp
  exact k _ _ _ n (r.drw.new hp n.ex) (Rep.tup (SqT.of upd_same) (l.mono n.ex))
theorem oj_addL : OpJ B rCat gAddL := fun bs σ H ρ S Hf Hs1 Hs2 x y e1 e2 e Q r h1 h2 q k => by
  unfold gAddL at q
  split at q
  · rename_i a b q1 q2
    split at q
    · rename_i hc
      cases q
      obtain ⟨l, vs, rfl, t1, l1⟩ := h1.ls r q1
      obtain ⟨m, ws, rfl, t2, l2⟩ := h2.ls r q2
      exact ⟨l, m, vs, ws, rfl, rfl, t1, t2, by rw [l1.length, l2.length]; exact hc, fun p hp => VP.newL r k (l1.append l2) hp⟩
    · cases q
  · cases q
def gAdd : E → E → Option E := fun x y => match gAddI x y with
  | some e => some e
  | none => match gAddS x y with
    | some e => some e
    | none => match gAddT x y with
      | some e => some e
      | none => gAddL x y
theorem je_add {a b : Expr} {fa fb : Env → Dr → Out E} {pos : Pos} (hK : X.K = B.K) (ha : JE X W B a fa) (hb : JE X W B b fb) : JE X W B (.BinOp a .Add b pos) (fOp gAdd fa fb) :=
  je_op (OpR.or op_add (OpR.or op_add_str (OpR.or op_catA op_cat))) (OpJ.or oj_addI (OpJ.or oj_addS (OpJ.or (hK ▸ oj_addT) oj_addL))) ha hb
/-- * : ints, a list and an int -/
def gMulL : E → E → Option E := fun x y => match x.ls, y with
  | some a, .v (.int k) => if -(2 ^ 63) ≤ k ∧ k < 2 ^ 63 ∧ a.length * k.toNat ≤ sizeLine then some (.n (List.replicate k.toNat a).flatten) else none
  | _, _ => none
theorem RepL.rep {K : PySem.W.Frag} {dr : Addr} {vs : List V} {ds : List D} (l : RepL K dr Hf vs ds) : ∀ n : Nat, RepL K dr Hf (List.replicate n vs).flatten (List.replicate n ds).flatten
  | 0 => .nil
  | n + 1 => by
    rw [List.replicate_succ, List.replicate_succ, List.flatten_cons, List.flatten_cons]
    exact l.append (RepL.rep l n)
theorem oj_mulL : OpJ B rRep gMulL := fun bs σ H ρ S Hf Hs1 Hs2 x y e1 e2 e Q r h1 h2 q k => by
  unfold gMulL at q
  split at q
  · rename_i a j q1
    split at q
    · rename_i hc
      cases q
      obtain ⟨l, vs, rfl, t1, l1⟩ := h1.ls r q1
      cases h2.v_ok
      exact ⟨l, _, vs, rfl, rfl, t1, hc.1, hc.2.1, by rw [l1.length]; exact hc.2.2, fun p hp => VP.newL r k (l1.rep _) hp⟩
    · cases q
  · cases q
def gMul : E → E → Option E := fun x y => match gMulI x y with
  | some e => some e
  | none => gMulL x y
theorem je_mul {a b : Expr} {fa fb : Env → Dr → Out E} {pos : Pos} (ha : JE X W B a fa) (hb : JE X W B b fb) : JE X W B (.BinOp a .Mult b pos) (fOp gMul fa fb) :=
  je_op (OpR.or op_mul op_rep) (OpJ.or oj_mulI oj_mulL) ha hb
theorem je_sub {a b : Expr} {fa fb : Env → Dr → Out E} {pos : Pos} (ha : JE X W B a fa) (hb : JE X W B b fb) : JE X W B (.BinOp a .Sub b pos) (fOp gSub fa fb) := je_op op_sub oj_sub ha hb
theorem je_fdiv {a b : Expr} {fa fb : Env → Dr → Out E} {pos : Pos} (ha : JE X W B a fa) (hb : JE X W B b fb) : JE X W B (.BinOp a .FloorDiv b pos) (fOp gFdiv fa fb) := je_op op_fdivN oj_fdiv ha hb
theorem je_mod {a b : Expr} {fa fb : Env → Dr → Out E} {pos : Pos} (ha : JE X W B a fa) (hb : JE X W B b fb) : JE X W B (.BinOp a .Mod b pos) (fOp gMod fa fb) := je_op op_modN oj_mod ha hb
theorem je_pow {a b : Expr} {fa fb : Env → Dr → Out E} {pos : Pos} (ha : JE X W B a fa) (hb : JE X W B b fb) : JE X W B (.BinOp a .Pow b pos) (fOp gPow fa fb) := je_op op_pow oj_pow ha hb

/-! ### equality of data -/
mutual
def toPy : D → Option PyData
  | .non => some .none
  | .bl b => some (.bool b)
  | .int i => some (.int i)
  | .str x => some (.str x)
  | .tup ds => (toPyL ds).map .tuple
  | .lst ds => (toPyL ds).map .list
  | _ => none
def toPyL : List D → Option (List PyData)
  | [] => some []
  | d :: ds => match toPy d, toPyL ds with
    | some p, some ps => some (p :: ps)
    | _, _ => none
end
mutual
theorem dp_of {K : PySem.W.Frag} {dr : Addr} : ∀ {d : D} {v : V} {p : PyData}, Rep K dr H v d → toPy d = some p → Dp K H v p
  | .non, _, _, .non, q => by simp [toPy] at q; subst q; exact .non
  | .bl b, _, _, .bl _, q => by simp [toPy] at q; subst q; exact .bl b
  | .int b, _, _, .int _, q => by simp [toPy] at q; subst q; exact .int b
  | .str b, _, _, .str _, q => by simp [toPy] at q; subst q; exact .str b
  | .tup ds, _, _, .tup h l, q => by
    simp [toPy] at q
    obtain ⟨ps, q, rfl⟩ := q
    exact .tup h (dpL_of l q)
  | .lst ds, _, _, .lst h l, q => by
    simp [toPy] at q
    obtain ⟨ps, q, rfl⟩ := q
    exact .lst (SqL.of h) (dpL_of l q)
  | .dct _, _, _, _, q => by simp [toPy] at q
  | .obj _ _, _, _, _, q => by simp [toPy] at q
  | .ref _, _, _, _, q => by simp [toPy] at q
  | .ty _, _, _, _, q => by simp [toPy] at q
  | .drw, _, _, _, q => by simp [toPy] at q
  | .scr _, _, _, _, q => by simp [toPy] at q
theorem dpL_of {K : PySem.W.Frag} {dr : Addr} : ∀ {ds : List D} {vs : List V} {ps : List PyData}, RepL K dr H vs ds → toPyL ds = some ps → DpAll K H vs ps
  | [], _, _, .nil, q => by simp [toPyL] at q; subst q; exact .nil
  | d :: ds, _, _, .cons h l, q => by
    simp [toPyL] at q
    split at q
    · rename_i p ps q1 q2
      simp at q
      subst q
      exact .cons (dp_of h q1) (dpL_of l q2)
    · cases q
end
def E.py : E → Option PyData
  | .v d => toPy d
  | .b ds => (toPyL ds).map .list
  | .n ds => (toPyL ds).map .list
  | _ => none
theorem E.dp (r : R B bs Hf ρ S σ H) {v : V} {e : E} {p : PyData} (h : ER B Hs Hf H v e) (q : e.py = some p) : Dp B.K H v p := by
  cases e with
  | v d => exact dp_of (h.v_ok.mono r.ex) q
  | b ds =>
    obtain ⟨a, vs, rfl, h1, _, _, l⟩ := h
    simp [E.py] at q
    obtain ⟨ps, q, rfl⟩ := q
    exact .lst (SqL.of h1) (dpL_of (l.mono r.ex) q)
  | n ds =>
    obtain ⟨a, vs, rfl, h1, _, _, l, _⟩ := h
    simp [E.py] at q
    obtain ⟨ps, q, rfl⟩ := q
    exact .lst (SqL.of h1) (dpL_of (l.mono r.ex) q)
  | _ => cases q
def gCmpD (f : PyData → PyData → Bool) : E → E → Option E := fun x y => match x.py, y.py with
  | some p, some q => if SeqAt.shaped p = true ∧ SeqAt.shaped q = true then some (.v (.bl (f p q))) else none
  | _, _ => none
def gEq : E → E → Option E := gCmpD PyData.eqv
def gNe : E → E → Option E := gCmpD fun p q => !PyData.eqv p q
theorem oj_eq : OpJ B (rEqD B.K) gEq := fun bs σ H ρ S Hf Hs1 Hs2 x y e1 e2 e Q r h1 h2 q k => by
  unfold gEq gCmpD at q
  split at q
  · rename_i p1 p2 q1 q2
    split at q
    · rename_i hc
      cases q
      exact ⟨_, _, E.dp r h1 q1, E.dp r h2 q2, hc.1, hc.2, VP.now r k (Rep.bl _)⟩
    · cases q
  · cases q
theorem oj_ne : OpJ B (rNeD B.K) gNe := fun bs σ H ρ S Hf Hs1 Hs2 x y e1 e2 e Q r h1 h2 q k => by
  unfold gNe gCmpD at q
  split at q
  · rename_i p1 p2 q1 q2
    split at q
    · rename_i hc
      cases q
      exact ⟨_, _, E.dp r h1 q1, E.dp r h2 q2, hc.1, hc.2, VP.now r k (Rep.bl _)⟩
    · cases q
  · cases q
/-- x is None, x is not None -/
def isNone : E → Bool
  | .v .non => true
  | _ => false
def gIsN : E → E → Option E := fun x y => match y with
  | .v .non => some (.v (.bl (isNone x)))
  | _ => none
def gNotN : E → E → Option E := fun x y => match y with
  | .v .non => some (.v (.bl (!isNone x)))
  | _ => none
theorem isNone_ok {v : V} {e : E} (h : ER B Hs Hf H v e) : decide (v = .non) = isNone e := by
  cases e with
  | v d =>
    cases d <;> cases h <;> simp [isNone]
  | b ds => obtain ⟨a, vs, rfl, _⟩ := h; simp [isNone]
  | n ds => obtain ⟨a, vs, rfl, _⟩ := h; simp [isNone]
  | bd ds => obtain ⟨a, vs, rfl, _⟩ := h; simp [isNone]
  | nd ds => obtain ⟨a, vs, rfl, _⟩ := h; simp [isNone]
theorem oj_isN : OpJ B (fun x y H Q => y = .non ∧ Q (.bl (decide (x = .non))) H) gIsN := fun bs σ H ρ S Hf Hs1 Hs2 x y e1 e2 e Q r h1 h2 q k => by
  unfold gIsN at q
  split at q
  · cases q
    cases h2.v_ok
    refine ⟨rfl, ?_⟩
    rw [isNone_ok h1]
    exact VP.now r k (Rep.bl _)
  · cases q
theorem oj_notN : OpJ B (fun x y H Q => y = .non ∧ Q (.bl (!decide (x = .non))) H) gNotN := fun bs σ H ρ S Hf Hs1 Hs2 x y e1 e2 e Q r h1 h2 q k => by
  unfold gNotN at q
  split at q
  · cases q
    cases h2.v_ok
    refine ⟨rfl, ?_⟩
    rw [isNone_ok h1]
    exact VP.now r k (Rep.bl _)
  · cases q
/-- x in a list -/
def gInL (neg : Bool) : E → E → Option E := fun x y => match x.py, y.py with
  | some p, some (.list qs) => if SeqAt.shaped p = true ∧ SeqAt.shaped (.list qs) = true then some (.v (.bl (if neg then !qs.any (fun z => PyData.eqv z p) else qs.any (fun z => PyData.eqv z p)))) else none
  | _, _ => none
theorem oj_inL : OpJ B (rInD B.K) (gInL false) := fun bs σ H ρ S Hf Hs1 Hs2 x y e1 e2 e Q r h1 h2 q k => by
  unfold gInL at q
  split at q
  · rename_i p1 p2 q1 q2
    split at q
    · rename_i hc
      cases q
      exact ⟨_, _, E.dp r h1 q1, E.dp r h2 q2, hc.1, hc.2, VP.now r k (Rep.bl _)⟩
    · cases q
  · cases q
theorem oj_notInL : OpJ B (rNotInD B.K) (gInL true) := fun bs σ H ρ S Hf Hs1 Hs2 x y e1 e2 e Q r h1 h2 q k => by
  unfold gInL at q
  split at q
  · rename_i p1 p2 q1 q2
    split at q
    · rename_i hc
      cases q
      exact ⟨_, _, E.dp r h1 q1, E.dp r h2 q2, hc.1, hc.2, VP.now r k (Rep.bl _)⟩
    · cases q
  · cases q
end
end Dn

set_option Elab.async false
set_option linter.all false
set_option maxRecDepth 100000
set_option maxHeartbeats 4000000
namespace Dn
open PySem PySem.Spec PyProof.Rows L2

/-! ### arguments -/
def toO : E → O
  | .v d => .v d
  | .n ds => .v (.lst ds)
  | .nd k => .v (.dct k)
  | .b ds => .lt ds
  | .bd k => .ld k
def aNil : Env → Dr → Out (List O) := fun _ S => .ok [] S
def aCons (fa : Env → Dr → Out E) (fr : Env → Dr → Out (List O)) : Env → Dr → Out (List O) := fun ρ S => (fa ρ S).bind fun e S1 => (fr ρ S1).bind fun os S2 => .ok (toO e :: os) S2
section
variable {X : Cx} {W : WX} {B : Bs} {bs : Hp × Hp} {Hs Hf H : Hp} {ρ : Env} {S : Dr} {σ : L2.St} {α β : Type} {rel : Hp → α → β → Hp → Hp → Prop} {Q : β → Hp → Prop} {e : Expr} {es : List Expr} {fa : Env → Dr → Out E} {fr : Env → Dr → Out (List O)}
/-- as JE.bind, the end told from the start -/
theorem JE.bind0 {k : E → Dr → Out α} {P : VK} (ha : JE X W B e fa) (r : R B bs Hf ρ S σ H) (h : EPost B W Hf σ H rel ((fa ρ S).bind k) Q)
    (hk : ∀ e1 S1 v H1 Hf1, R B bs Hf1 ρ S1 σ H1 → Nx B Hf H Hf1 H1 → ER B H Hf1 H1 v e1 → EPost B W Hf σ H rel (k e1 S1) Q → P v H1) : tW X e σ H P := by
  refine ha.go bs σ H ρ S Hf P r ?_
  cases q : fa ρ S with
  | ok e1 S1 =>
    rw [q] at h
    exact fun v Hf1 H1 n d z => hk e1 S1 v H1 Hf1 (r.next n d) n z h
  | exc C fs S1 => rw [q] at h; exact h
  | stk => rw [q] at h; exact h
theorem froz {Hf1 H1 : Hp} {S1 : Dr} (r1 : R B bs Hf1 ρ S1 σ H1) (n : Nx B Hf H Hf1 H1) {a : Addr} {u : HO} (h1 : H1 a = some u) (k1 : a ≠ B.dr) (k2 : a ≠ B.rs) (h3 : Hf1 a = none) (h4 : H a = none) :
    Nx B Hf H (upd Hf1 a u) H1 ∧ Ex Hf1 (upd Hf1 a u) ∧ DrR B (upd Hf1 a u) S1 H1 := by
  refine ⟨⟨n.ex.trans (Ex.new h3), fun b o e => ?_, fun b o e => ?_, n.go, by rw [upd_ne (Ne.symm k1)]; exact n.nd.1, by rw [upd_ne (Ne.symm k2)]; exact n.nd.2⟩, Ex.new h3, ⟨r1.drw.dr, Ex.new h3 _ _ r1.drw.cl, r1.drw.rs, r1.drw.ne⟩⟩
  · by_cases q : b = a
    · subst q; rw [upd_same] at e; rw [← e]; exact h1
    · rw [upd_ne q] at e; exact n.exf b o e
  · by_cases q : b = a
    · subst q; exact .inr h4
    · rw [upd_ne q] at e; exact n.fr b o e
theorem toO_ok {Hf1 H1 : Hp} {S1 : Dr} (r1 : R B bs Hf1 ρ S1 σ H1) (n : Nx B Hf H Hf1 H1) {v : V} {e : E} (h : ER B H Hf1 H1 v e) :
    ∃ Hf2, Nx B Hf H Hf2 H1 ∧ Ex Hf1 Hf2 ∧ DrR B Hf2 S1 H1 ∧ ArR B Hf2 H1 v (toO e) := by
  cases e with
  | v d => exact ⟨Hf1, n, Ex.refl _, r1.drw, h⟩
  | b ds => exact ⟨Hf1, n, Ex.refl _, r1.drw, h⟩
  | bd ds => exact ⟨Hf1, n, Ex.refl _, r1.drw, h⟩
  | n ds =>
    obtain ⟨a, vs, rfl, h1, k1, k2, h2, h3, h4⟩ := h
    obtain ⟨x, y, z⟩ := froz r1 n h1 k1 k2 h3 h4
    exact ⟨_, x, y, z, .lst upd_same (h2.mono y)⟩
  | nd ds =>
    obtain ⟨a, vs, rfl, h1, k1, k2, h2, h3, h4⟩ := h
    obtain ⟨x, y, z⟩ := froz r1 n h1 k1 k2 h3 h4
    exact ⟨_, x, y, z, .dct upd_same (h2.mono y)⟩
theorem ArR.next {Hf' H' : Hp} (n : Nx B Hf H Hf' H') {v : V} {o : O} (h : ArR B Hf H v o) : ArR B Hf' H' v o := by
  cases o with
  | v d => exact Rep.mono n.ex h
  | lt ds =>
    obtain ⟨a, vs, rfl, h1, h2, h3, h4⟩ := h
    exact ⟨a, vs, rfl, n.go a _ h1 h2 h3, h2, h3, h4.mono n.ex⟩
  | ld ds =>
    obtain ⟨a, vs, rfl, h1, h2, h3, h4⟩ := h
    exact ⟨a, vs, rfl, n.go a _ h1 h2 h3, h2, h3, h4.mono n.ex⟩
  | _ => exact h.elim
theorem ja_nil : JA X W B [] aNil := .of fun bs σ H ρ S Hf Q r h => tWA_of pa_nil (h [] Hf H r.nx0 r.drw .nil)
theorem ja_cons (ha : JE X W B e fa) (hr : JA X W B es fr) (hs : starEach (e :: es) X.env = (false, eval e X.env) :: starEach es X.env := by exact star_c rfl) : JA X W B (e :: es) (aCons fa fr) := .of fun bs σ H ρ S Hf Q r h => by
  refine tWA_of (pa_cons pe_W pa_W hs) ?_
  show tW X e σ H fun x H1 => tWA X es σ H1 fun xs H2 => Q (x :: xs) H2
  refine ha.bind0 r h fun e1 S1 v H1 Hf1 r1 n1 z1 h1 => ?_
  obtain ⟨Hf2, n2, x2, d2, z2⟩ := toO_ok r1 n1 z1
  have r2 : R B bs Hf2 ρ S1 σ H1 := r.next n2 d2
  refine hr.bind r2 (EPost.step back_a n2 d2 h1) back_a fun os S2 vs H2 Hf3 r3 n3 z3 h3 => ?_
  exact h3 _ Hf3 H2 r3.nx0 r3.drw (.cons (z2.next n3) z3)

/-! ### displays -/
def vals : List O → Option (List D)
  | [] => some []
  | .v d :: os => (vals os).map (d :: ·)
  | _ :: _ => none
theorem vals_ok : ∀ {os : List O} {vs : List V} {ds : List D}, AsR B Hf H vs os → vals os = some ds → RepL B.K B.dr Hf vs ds
  | [], _, _, .nil, q => by simp [vals] at q; subst q; exact .nil
  | .v d :: os, _, _, .cons h l, q => by
    simp [vals] at q
    obtain ⟨ds, q, rfl⟩ := q
    exact .cons h (vals_ok l q)
  | .l _ :: os, _, _, .cons h l, q => by simp [vals] at q
  | .d _ :: os, _, _, .cons h l, q => by simp [vals] at q
  | .lt _ :: os, _, _, .cons h l, q => by simp [vals] at q
  | .ld _ :: os, _, _, .cons h l, q => by simp [vals] at q
  | .x _ _ :: os, _, _, .cons h l, q => by simp [vals] at q
  | .ob _ _ :: os, _, _, .cons h l, q => by simp [vals] at q
def gTupD (os : List O) : Option E := match vals os with
  | some ds => if ds.length ≤ sizeLine then some (.v (.tup ds)) else none
  | none => none
def gLstD (os : List O) : Option E := match vals os with
  | some ds => if ds.length ≤ sizeLine then some (.n ds) else none
  | none => none
def fCall (g : List O → Option E) (fa : Env → Dr → Out (List O)) : Env → Dr → Out E := fun ρ S => (fa ρ S).bind fun os S1 => Out.of (g os) S1
theorem je_tup {x1} {pos : Pos} (ha : JA X W B es fr) : JE X W B (.Tuple es x1 pos) (fCall gTupD fr) := JE.mk (pe_tup pa_W) fun bs σ H ρ S Hf Q r h => by
  show tWA X es σ H fun xs H1 => xs.length ≤ sizeLine ∧ ∀ p, H1 p = none → Q (.ref p) (upd H1 p (.tup xs))
  refine ha.bind r h back_e fun os S1 vs H1 Hf1 r1 n1 z1 h1 => ?_
  cases q : gTupD os with
  | none => rw [q] at h1; exact h1.elim
  | some e =>
    rw [q] at h1
    unfold gTupD at q
    split at q
    · rename_i ds q1
      split at q
      · rename_i hl
        cases q
        have l := vals_ok z1 q1
        exact ⟨by rw [l.length]; exact hl, fun p hp => VP.newT r1 (fun v Hf' H' n d z => h1 v Hf' H' n d z) l hp⟩
      · cases q
    · cases q
theorem je_lst {pos : Pos} (ha : JA X W B es fr) : JE X W B (.List es pos) (fCall gLstD fr) := JE.mk (pe_lst pa_W) fun bs σ H ρ S Hf Q r h => by
  show tWA X es σ H fun xs H1 => xs.length ≤ sizeLine ∧ ∀ p, H1 p = none → Q (.ref p) (upd H1 p (.lst xs))
  refine ha.bind r h back_e fun os S1 vs H1 Hf1 r1 n1 z1 h1 => ?_
  cases q : gLstD os with
  | none => rw [q] at h1; exact h1.elim
  | some e =>
    rw [q] at h1
    unfold gLstD at q
    split at q
    · rename_i ds q1
      split at q
      · rename_i hl
        cases q
        have l := vals_ok z1 q1
        exact ⟨by rw [l.length]; exact hl, fun p hp => VP.newL r1 (fun v Hf' H' n d z => h1 v Hf' H' n d z) l hp⟩
      · cases q
    · cases q
/-- {} -/
theorem je_dict0 {pos : Pos} : JE X W B (.Dict [] [] pos) (fun _ S => .ok (.nd []) S) := JE.mk pe_dnewK fun bs σ H ρ S Hf Q r h => fun p hp => by
  obtain ⟨n1, n2⟩ := r.dr_ne hp
  exact h _ _ _ (r.new hp) (r.drw.new hp (Ex.refl _)) ⟨p, [], rfl, upd_same, n1, n2, .nil, r.freeH hp, hp⟩

/-! ### built-ins by name -/
theorem CallR.or {f : Value} {r r' : List V → Hp → VK → Prop} (h : CallR X f r) (h' : CallR X f r') : CallR X f (fun xs H Q => r xs H Q ∨ r' xs H Q) := by
  intro pins s σ H xs us Q I rx q
  rcases q with q | q
  · exact h pins s σ H xs us Q I rx q
  · exact h' pins s σ H xs us Q I rx q
def CallJ (B : Bs) (r : List V → Hp → VK → Prop) (g : List O → Option E) : Prop :=
  ∀ (bs : Hp × Hp) (σ : L2.St) (H : Hp) (ρ : Env) (S : Dr) (Hf : Hp) (vs : List V) (os : List O) (e : E) (Q : VK), R B bs Hf ρ S σ H → AsR B Hf H vs os → g os = some e → VP B S Hf H e Q → r vs H Q
theorem CallJ.or {r r' : List V → Hp → VK → Prop} {g g' : List O → Option E} (h : CallJ B r g) (h' : CallJ B r' g') : CallJ B (fun xs H Q => r xs H Q ∨ r' xs H Q) (fun os => match g os with
    | some e => some e
    | none => g' os) := fun bs σ H ρ S Hf vs os e Q R z q k => by
  change (match g os with | some e => some e | none => g' os) = some e at q
  show r vs H Q ∨ r' vs H Q
  split at q
  · rename_i e' q'
    cases q
    exact .inl (h bs σ H ρ S Hf vs os _ Q R z q' k)
  · exact .inr (h' bs σ H ρ S Hf vs os e Q R z q k)
theorem callj {r : List V → Hp → VK → Prop} {g : List O → Option E} (hj : CallJ B r g) (ha : JA X W B es fr) {Q : VK} (R0 : R B bs Hf ρ S σ H) (h : EPost B W Hf σ H (erel B) (fCall g fr ρ S) Q) : tCB r (tWA X es) σ H Q := by
  show tWA X es σ H fun vs H1 => r vs H1 Q
  refine ha.bind R0 h back_e fun os S1 vs H1 Hf1 r1 n1 z1 h1 => ?_
  cases q : g os with
  | none => rw [q] at h1; exact h1.elim
  | some e =>
    rw [q] at h1
    exact hj _ _ _ _ _ _ _ _ _ _ r1 z1 q fun v Hf' H' n d z => h1 v Hf' H' n d z
theorem je_callB {r : List V → Hp → VK → Prop} {g : List O → Option E} {x : Str} {id : String} {p pos : Pos} (hc : CallR X (.builtin id) r) (hj : CallJ B r g) (hm : X.mg x = none) (ha : JA X W B (e :: es) fr) (hg : Gl X x := by rfl) (hv : bootBuiltins x = some (.builtin id) := by decide +kernel) (hn : x ≠ "__name__" := by decide)
    (hdb : (x == ("__debug__" : Str)) = false := by decide) (he : starEach (e :: es) X.env = (false, eval e X.env) :: starEach es X.env := by exact star_c rfl) (hpl : (backTo pos (starEach es X.env)).any (·.1) = false := by exact star_any rfl) : JE X W B (.Call (.Name x p) (e :: es) [] pos) (fCall g fr) :=
  JE.mk (pe_callB hc hg hm hv pa_W hn hdb he hpl) fun bs σ H ρ S Hf Q r h => callj hj ha r h
theorem je_callTy {r : List V → Hp → VK → Prop} {g : List O → Option E} {x : Str} {id : String} {p pos : Pos} (hc : CallR X (.type id) r) (hj : CallJ B r g) (hm : X.mg x = none) (ha : JA X W B (e :: es) fr) (hg : Gl X x := by rfl) (hv : bootBuiltins x = some (.type id) := by decide +kernel) (hn : x ≠ "__name__" := by decide)
    (hdb : (x == ("__debug__" : Str)) = false := by decide) (he : starEach (e :: es) X.env = (false, eval e X.env) :: starEach es X.env := by exact star_c rfl) (hpl : (backTo pos (starEach es X.env)).any (·.1) = false := by exact star_any rfl) : JE X W B (.Call (.Name x p) (e :: es) [] pos) (fCall g fr) :=
  JE.mk (pe_callTy hc hg hm hv pa_W hn hdb he hpl) fun bs σ H ρ S Hf Q r h => callj hj ha r h

/-- the items of a list, lent or not -/
def O.ls : O → Option (List D)
  | .v (.lst ds) => some ds
  | .lt ds => some ds
  | _ => none
def O.tu : O → Option (List D)
  | .v (.tup ds) => some ds
  | _ => none
theorem ArR.ls (r : R B bs Hf ρ S σ H) {v : V} {o : O} {ds : List D} (h : ArR B Hf H v o) (q : o.ls = some ds) : ∃ a vs, v = .ref a ∧ H a = some (.lst vs) ∧ RepL B.K B.dr Hf vs ds := by
  cases o with
  | v d =>
    cases d <;> simp [O.ls] at q
    subst q
    cases h with
    | lst h1 h2 => exact ⟨_, _, rfl, r.ex _ _ h1, h2⟩
  | lt ds => simp [O.ls] at q; subst q; obtain ⟨a, vs, h1, h2, _, _, h3⟩ := h; exact ⟨a, vs, h1, h2, h3⟩
  | _ => cases q
theorem ArR.tu (r : R B bs Hf ρ S σ H) {v : V} {o : O} {ds : List D} (h : ArR B Hf H v o) (q : o.tu = some ds) : ∃ a vs, v = .ref a ∧ SqT B.K Hf a vs ∧ SqT B.K H a vs ∧ RepL B.K B.dr Hf vs ds := by
  cases o with
  | v d =>
    cases d <;> simp [O.tu] at q
    subst q
    cases h with
    | tup h1 h2 => exact ⟨_, _, rfl, h1, ex_t r.ex h1, h2⟩
  | _ => cases q
theorem as1 {vs : List V} {o : O} (z : AsR B Hf H vs [o]) : ∃ v, vs = [v] ∧ ArR B Hf H v o := by
  cases z with | cons h t => cases t; exact ⟨_, rfl, h⟩
theorem as2 {vs : List V} {o o2 : O} (z : AsR B Hf H vs [o, o2]) : ∃ v v2, vs = [v, v2] ∧ ArR B Hf H v o ∧ ArR B Hf H v2 o2 := by
  cases z with | cons h t => cases t with | cons h2 t2 => cases t2; exact ⟨_, _, rfl, h, h2⟩

/-! len -/
def gLen : List O → Option E
  | [.v (.str x)] => if x.length ≤ sizeLine then some (.v (.int x.length)) else none
  | [o] => match o.ls with
    | some ds => some (.v (.int ds.length))
    | none => match o.tu with
      | some ds => some (.v (.int ds.length))
      | none => none
  | _ => none
theorem cj_len : CallJ B (fun xs H Q => ∃ x n, xs = [x] ∧ LenV B.K x H n ∧ Q (.int n) H) gLen := fun bs σ H ρ S Hf vs os e Q r z q k => by
  unfold gLen at q
  split at q
  · split at q
    · rename_i hl
      cases q
      obtain ⟨v, rfl, h⟩ := as1 z
      cases (show Rep _ _ _ v (.str _) from h)
      exact ⟨_, _, rfl, ⟨hl, rfl⟩, VP.now r k (Rep.int _)⟩
    · cases q
  · obtain ⟨v, rfl, h⟩ := as1 z
    split at q
    · rename_i ds q1
      cases q
      obtain ⟨a, vs, rfl, h1, l⟩ := h.ls r q1
      exact ⟨_, vs.length, rfl, .inl ⟨vs, SqL.of h1, rfl⟩, by rw [l.length]; exact VP.now r k (Rep.int _)⟩
    · split at q
      · rename_i ds q1
        cases q
        obtain ⟨a, vs, rfl, _, h1, l⟩ := h.tu r q1
        exact ⟨_, vs.length, rfl, .inr ⟨vs, h1, rfl⟩, by rw [l.length]; exact VP.now r k (Rep.int _)⟩
      · cases q
  · cases q
theorem je_len {p pos : Pos} (hK : X.K = B.K) (hm : X.mg "len" = none) (ha : JA X W B (e :: es) fr) (hg : Gl X "len" := by rfl) (he : starEach (e :: es) X.env = (false, eval e X.env) :: starEach es X.env := by exact star_c rfl) (hpl : (backTo pos (starEach es X.env)).any (·.1) = false := by exact star_any rfl) :
    JE X W B (.Call (.Name "len" p) (e :: es) [] pos) (fCall gLen fr) := je_callB call_len (hK ▸ cj_len) hm ha hg PySem.boot_len (by decide) (by decide) he hpl

/-! tuple(..), list(..) -/
def gTupleOf : List O → Option E
  | [o] => match o.ls with
    | some ds => some (.v (.tup ds))
    | none => match o.tu with
      | some ds => some (.v (.tup ds))
      | none => none
  | _ => none
theorem cj_tuple : CallJ B (fun xs H Q => ∃ p ys, xs = [.ref p] ∧ ((SqL B.K H p ys ∧ ∀ l, H l = none → Q (.ref l) (upd H l (.tup ys))) ∨ (SqT B.K H p ys ∧ Q (.ref p) H))) gTupleOf := fun bs σ H ρ S Hf vs os e Q r z q k => by
  unfold gTupleOf at q
  split at q
  · obtain ⟨v, rfl, h⟩ := as1 z
    split at q
    · rename_i ds q1
      cases q
      obtain ⟨a, vs, rfl, h1, l⟩ := h.ls r q1
      exact ⟨_, vs, rfl, .inl ⟨SqL.of h1, fun p hp => VP.newT r k l hp⟩⟩
    · split at q
      · rename_i ds q1
        cases q
        obtain ⟨a, vs, rfl, h0, h1, l⟩ := h.tu r q1
        exact ⟨_, vs, rfl, .inr ⟨h1, VP.now r k (Rep.tup h0 l)⟩⟩
      · cases q
  · cases q
def gListOf : List O → Option E
  | [o] => match o.ls with
    | some ds => some (.n ds)
    | none => match o.tu with
      | some ds => some (.n ds)
      | none => none
  | _ => none
theorem cj_list : CallJ B (fun xs H Q => ∃ p ys, xs = [.ref p] ∧ (SqL B.K H p ys ∨ SqT B.K H p ys) ∧ ∀ l, H l = none → Q (.ref l) (upd H l (.lst ys))) gListOf := fun bs σ H ρ S Hf vs os e Q r z q k => by
  unfold gListOf at q
  split at q
  · obtain ⟨v, rfl, h⟩ := as1 z
    split at q
    · rename_i ds q1
      cases q
      obtain ⟨a, vs, rfl, h1, l⟩ := h.ls r q1
      exact ⟨_, vs, rfl, .inl (SqL.of h1), fun p hp => VP.newL r k l hp⟩
    · split at q
      · rename_i ds q1
        cases q
        obtain ⟨a, vs, rfl, h0, h1, l⟩ := h.tu r q1
        exact ⟨_, vs, rfl, .inr h1, fun p hp => VP.newL r k l hp⟩
      · cases q
  · cases q
/-! int(..) -/
def gIntOf : List O → Option E
  | [.v (.int i)] => some (.v (.int i))
  | [.v (.bl b)] => some (.v (.int (if b then 1 else 0)))
  | [.v (.str x)] => match PySem.intText? x with
    | some n => if x.length ≤ 640 then some (.v (.int n)) else none
    | none => none
  | _ => none
theorem cj_int : CallJ B (fun xs H Q => ((∃ i, xs = [.int i] ∧ Q (.int i) H) ∨ ∃ k, xs = [.bl k] ∧ Q (.int (if k then 1 else 0)) H) ∨ ∃ a n, xs = [.str a] ∧ PySem.intText? a = some n ∧ a.length ≤ 640 ∧ Q (.int n) H) gIntOf := fun bs σ H ρ S Hf vs os e Q r z q k => by
  unfold gIntOf at q
  split at q
  · cases q
    obtain ⟨v, rfl, h⟩ := as1 z
    cases (show Rep _ _ _ v (.int _) from h)
    exact .inl (.inl ⟨_, rfl, VP.now r k (Rep.int _)⟩)
  · cases q
    obtain ⟨v, rfl, h⟩ := as1 z
    cases (show Rep _ _ _ v (.bl _) from h)
    exact .inl (.inr ⟨_, rfl, VP.now r k (Rep.int _)⟩)
  · obtain ⟨v, rfl, h⟩ := as1 z
    split at q
    · rename_i n qn
      split at q
      · rename_i hl
        cases q
        cases (show Rep _ _ _ v (.str _) from h)
        exact .inr ⟨_, _, rfl, qn, hl, VP.now r k (Rep.int _)⟩
      · cases q
    · cases q
  · cases q
/-! str(..) of an int -/
def gStrOf : List O → Option E
  | [.v (.int i)] => if i.natAbs.log2 < 1920 then some (.v (.str (toString i))) else none
  | _ => none
theorem cj_str : CallJ B (fun xs H Q => ∃ i : Int, xs = [.int i] ∧ i.natAbs.log2 < 1920 ∧ Q (.str (toString i)) H) gStrOf := fun bs σ H ρ S Hf vs os e Q r z q k => by
  unfold gStrOf at q
  split at q
  · obtain ⟨v, rfl, h⟩ := as1 z
    split at q
    · rename_i hl
      cases q
      cases (show Rep _ _ _ v (.int _) from h)
      exact ⟨_, rfl, hl, VP.now r k (Rep.str _)⟩
    · cases q
  · cases q
/-! all, any, sum, min, max -/
def blsD : List D → Option (List Bool)
  | [] => some []
  | .bl b :: ds => (blsD ds).map (b :: ·)
  | _ :: _ => none
theorem bls_ok {K : PySem.W.Frag} {dr : Addr} : ∀ {ds : List D} {vs : List V} {cs : List Bool}, RepL K dr Hf vs ds → blsD ds = some cs → vs = cs.map V.bl
  | [], _, _, .nil, q => by simp [blsD] at q; subst q; rfl
  | .bl b :: ds, _, _, .cons h l, q => by
    simp [blsD] at q
    obtain ⟨cs, q, rfl⟩ := q
    cases h
    rw [bls_ok l q]; rfl
  | .non :: ds, _, _, _, q => by simp [blsD] at q
  | .int _ :: ds, _, _, _, q => by simp [blsD] at q
  | .str _ :: ds, _, _, _, q => by simp [blsD] at q
  | .tup _ :: ds, _, _, _, q => by simp [blsD] at q
  | .lst _ :: ds, _, _, _, q => by simp [blsD] at q
  | .dct _ :: ds, _, _, _, q => by simp [blsD] at q
  | .obj _ _ :: ds, _, _, _, q => by simp [blsD] at q
  | .ref _ :: ds, _, _, _, q => by simp [blsD] at q
  | .ty _ :: ds, _, _, _, q => by simp [blsD] at q
  | .drw :: ds, _, _, _, q => by simp [blsD] at q
  | .scr _ :: ds, _, _, _, q => by simp [blsD] at q
def intsD : List D → Option (List Int)
  | [] => some []
  | .int b :: ds => (intsD ds).map (b :: ·)
  | _ :: _ => none
theorem ints_ok {K : PySem.W.Frag} {dr : Addr} : ∀ {ds : List D} {vs : List V} {cs : List Int}, RepL K dr Hf vs ds → intsD ds = some cs → vs = cs.map V.int
  | [], _, _, .nil, q => by simp [intsD] at q; subst q; rfl
  | .int b :: ds, _, _, .cons h l, q => by
    simp [intsD] at q
    obtain ⟨cs, q, rfl⟩ := q
    cases h
    rw [ints_ok l q]; rfl
  | .non :: ds, _, _, _, q => by simp [intsD] at q
  | .bl _ :: ds, _, _, _, q => by simp [intsD] at q
  | .str _ :: ds, _, _, _, q => by simp [intsD] at q
  | .tup _ :: ds, _, _, _, q => by simp [intsD] at q
  | .lst _ :: ds, _, _, _, q => by simp [intsD] at q
  | .dct _ :: ds, _, _, _, q => by simp [intsD] at q
  | .obj _ _ :: ds, _, _, _, q => by simp [intsD] at q
  | .ref _ :: ds, _, _, _, q => by simp [intsD] at q
  | .ty _ :: ds, _, _, _, q => by simp [intsD] at q
  | .drw :: ds, _, _, _, q => by simp [intsD] at q
  | .scr _ :: ds, _, _, _, q => by simp [intsD] at q
theorem ints_map (ns : List Int) : intsD (ns.map D.int) = some ns := by
  induction ns with
  | nil => rfl
  | cons n r ih => simp [intsD, ih]
theorem bls_map (ns : List Bool) : blsD (ns.map D.bl) = some ns := by
  induction ns with
  | nil => rfl
  | cons n r ih => simp [blsD, ih]
def gB (f : List Bool → Bool) : List O → Option E
  | [o] => match o.ls with
    | some ds => match blsD ds with
      | some cs => some (.v (.bl (f cs)))
      | none => none
    | none => none
  | _ => none
theorem gB_inv {f : List Bool → Bool} {vs : List V} {os : List O} {e : E} (r : R B bs Hf ρ S σ H) (z : AsR B Hf H vs os) (q : gB f os = some e) : ∃ a cs, vs = [.ref a] ∧ SqL B.K H a (cs.map V.bl) ∧ e = .v (.bl (f cs)) := by
  unfold gB at q
  split at q
  · obtain ⟨v, rfl, h⟩ := as1 z
    split at q
    · rename_i ds q1
      split at q
      · rename_i cs q2
        cases q
        obtain ⟨a, vs, rfl, h1, l⟩ := h.ls r q1
        rw [bls_ok l q2] at h1
        exact ⟨_, cs, rfl, SqL.of h1, rfl⟩
      · cases q
    · cases q
  · cases q
def gAll : List O → Option E := gB fun cs => cs.all id
def gAny : List O → Option E := gB fun cs => cs.any id
theorem cj_all : CallJ B (rAll B.K) gAll := fun bs σ H ρ S Hf vs os e Q r z q k => by
  obtain ⟨a, cs, rfl, h, rfl⟩ := gB_inv r z q
  exact ⟨a, cs, rfl, h, VP.now r k (Rep.bl _)⟩
theorem cj_any : CallJ B (rAny B.K) gAny := fun bs σ H ρ S Hf vs os e Q r z q k => by
  obtain ⟨a, cs, rfl, h, rfl⟩ := gB_inv r z q
  exact ⟨a, cs, rfl, h, VP.now r k (Rep.bl _)⟩
def gSum : List O → Option E
  | [o] => match o.ls with
    | some ds => match intsD ds with
      | some cs => some (.v (.int cs.sum))
      | none => none
    | none => none
  | _ => none
theorem cj_sum : CallJ B (rSum B.K) gSum := fun bs σ H ρ S Hf vs os e Q r z q k => by
  unfold gSum at q
  split at q
  · obtain ⟨v, rfl, h⟩ := as1 z
    split at q
    · rename_i ds q1
      split at q
      · rename_i cs q2
        cases q
        obtain ⟨a, vs, rfl, h1, l⟩ := h.ls r q1
        rw [ints_ok l q2] at h1
        exact ⟨_, cs, rfl, SqL.of h1, VP.now r k (Rep.int _)⟩
      · cases q
    · cases q
  · cases q
def gMax2 : List O → Option E
  | [.v (.int i), .v (.int j)] => some (.v (.int (if j > i then j else i)))
  | _ => none
def gMin2 : List O → Option E
  | [.v (.int i), .v (.int j)] => some (.v (.int (if j < i then j else i)))
  | _ => none
theorem cj_max2 : CallJ B (fun xs H Q => ∃ i j, xs = [.int i, .int j] ∧ Q (.int (if j > i then j else i)) H) gMax2 := fun bs σ H ρ S Hf vs os e Q r z q k => by
  unfold gMax2 at q
  split at q
  · cases q
    obtain ⟨v, v2, rfl, h, h2⟩ := as2 z
    cases (show Rep _ _ _ v (.int _) from h)
    cases (show Rep _ _ _ v2 (.int _) from h2)
    exact ⟨_, _, rfl, VP.now r k (Rep.int _)⟩
  · cases q
theorem cj_min2 : CallJ B (fun xs H Q => ∃ i j, xs = [.int i, .int j] ∧ Q (.int (if j < i then j else i)) H) gMin2 := fun bs σ H ρ S Hf vs os e Q r z q k => by
  unfold gMin2 at q
  split at q
  · cases q
    obtain ⟨v, v2, rfl, h, h2⟩ := as2 z
    cases (show Rep _ _ _ v (.int _) from h)
    cases (show Rep _ _ _ v2 (.int _) from h2)
    exact ⟨_, _, rfl, VP.now r k (Rep.int _)⟩
  · cases q
end
end Dn

set_option Elab.async false
set_option linter.all false
set_option maxRecDepth 100000
set_option maxHeartbeats 4000000
namespace Dn
open PySem PySem.Spec PyProof.Rows L2

/-! ### subscripts, slices -/
section
variable {X : Cx} {W : WX} {B : Bs} {bs : Hp × Hp} {Hs Hf H : Hp} {ρ : Env} {S : Dr} {σ : L2.St} {a b e : Expr} {fa fb : Env → Dr → Out E} {pos p2 : Pos}
/-- a[i]: lists, tuples, texts -/
def gIx : E → E → Option E := fun x y => match y with
  | .v (.int i) => match x with
    | .v (.tup ds) => (atI ds i).map .v
    | .v (.str z) => if z.length ≤ sizeLine then (atI z.cps.toList i).map fun c => .v (.str ⟨#[c]⟩) else none
    | x => match x.ls with
      | some ds => (atI ds i).map .v
      | none => none
  | _ => none
theorem atI_rep {K : PySem.W.Frag} {dr : Addr} {vs : List V} {ds : List D} {i : Int} {d : D} (l : RepL K dr Hf vs ds) (q : atI ds i = some d) : ∃ v, atI vs i = some v ∧ Rep K dr Hf v d := by
  unfold atI at q ⊢
  rw [l.length]
  cases e : ixN ds.length i with
  | none => rw [e] at q; cases q
  | some j =>
    rw [e] at q
    exact l.get q
theorem oj_ix : OpJ B (rIx B.K) gIx := fun bs σ H ρ S Hf Hs1 Hs2 x y e1 e2 e Q r h1 h2 q k => by
  unfold gIx at q
  split at q
  · cases h2.v_ok
    split at q
    · rename_i i ds
      simp only [Option.map_eq_some_iff] at q
      obtain ⟨d, q, rfl⟩ := q
      obtain ⟨a, vs, rfl, t, l⟩ := rep_tup r.ex h1.v_ok
      obtain ⟨v, qv, rv⟩ := atI_rep l q
      exact .inr (.inl ⟨a, vs, _, v, rfl, rfl, t, qv, VP.now r k rv⟩)
    · split at q
      · rename_i hl
        simp only [Option.map_eq_some_iff] at q
        obtain ⟨c, q, rfl⟩ := q
        cases h1.v_ok
        exact .inr (.inr ⟨_, _, c, rfl, rfl, hl, q, VP.now r k (Rep.str _)⟩)
      · cases q
    · split at q
      · rename_i ds q1
        simp only [Option.map_eq_some_iff] at q
        obtain ⟨d, q, rfl⟩ := q
        obtain ⟨a, vs, rfl, t, l⟩ := h1.ls r q1
        obtain ⟨v, qv, rv⟩ := atI_rep l q
        exact .inl ⟨a, vs, _, v, rfl, rfl, SqL.of t, qv, VP.now r k rv⟩
      · cases q
  · cases q
theorem je_ix (hK : X.K = B.K) (ha : JE X W B a fa) (hb : JE X W B b fb) (hs : PlainIx b := by exact fun _ _ => rfl) : JE X W B (.Subscript a b pos) (fOp gIx fa fb) :=
  JE.mk (pe_ix ix_seq pe_W pe_W hs) fun bs σ H ρ S Hf Q R0 h => by rw [hK]; exact op2 oj_ix ha hb R0 h

/-- a part of a slice -/
abbrev orel : Hp → Option Int → Option Int → Hp → Hp → Prop := fun _ b c _ _ => b = c
def JO (X : Cx) (W : WX) (B : Bs) (e : Option Expr) (f : Env → Dr → Out (Option Int)) : Prop :=
  ∃ t, PO X e t ∧ ∀ (bs : Hp × Hp) (σ : L2.St) (H : Hp) (ρ : Env) (S : Dr) (Hf : Hp) (Q : Option Int → Hp → Prop), R B bs Hf ρ S σ H → EPost B W Hf σ H orel (f ρ S) Q → t σ H Q
def oNone : Env → Dr → Out (Option Int) := fun _ S => .ok none S
def E.int? : E → Option Int
  | .v (.int i) => some i
  | _ => none
def oSome (fa : Env → Dr → Out E) : Env → Dr → Out (Option Int) := fun ρ S => (fa ρ S).bind fun e S1 => Out.of (e.int?.map some) S1
theorem jo_none : JO X W B none oNone := ⟨_, po_none, fun bs σ H ρ S Hf Q r h => h none Hf H r.nx0 r.drw rfl⟩
theorem back_o : Back B orel := fun _ _ _ _ _ _ _ _ _ _ _ z => z
theorem jo_some (ha : JE X W B a fa) : JO X W B (some a) (oSome fa) := ⟨_, po_some pe_W, fun bs σ H ρ S Hf Q r h => by
  show tW X a σ H fun x H1 => ∃ i, x = .int i ∧ Q (some i) H1
  refine ha.bind r h back_o fun e1 S1 v H1 Hf1 r1 n1 z1 h1 => ?_
  cases e1 with
  | v d =>
    cases d with
    | int i =>
      cases z1.v_ok
      exact ⟨i, rfl, h1 _ Hf1 H1 r1.nx0 r1.drw rfl⟩
    | _ => exact h1.elim
  | _ => exact h1.elim⟩
theorem JO.run {lo : Option Expr} {f : Env → Dr → Out (Option Int)} (h : JO X W B lo f) : ∃ t, PO X lo t ∧ ∀ (bs : Hp × Hp) (σ : L2.St) (H : Hp) (ρ : Env) (S : Dr) (Hf : Hp) {α β : Type} (rel : Hp → α → β → Hp → Hp → Prop) (Q : β → Hp → Prop) (P : Option Int → Hp → Prop) (k : Option Int → Dr → Out α),
    R B bs Hf ρ S σ H → EPost B W Hf σ H rel ((f ρ S).bind k) Q → Back B rel → (∀ o S1 H1 Hf1, R B bs Hf1 ρ S1 σ H1 → Nx B Hf H Hf1 H1 → EPost B W Hf1 σ H1 rel (k o S1) Q → P o H1) → t σ H P := by
  obtain ⟨t, p, q⟩ := h
  refine ⟨t, p, fun bs σ H ρ S Hf α β rel Q P k r h hb hk => q bs σ H ρ S Hf P r ?_⟩
  cases e : f ρ S with
  | ok o S1 =>
    rw [e] at h
    refine fun v Hf1 H1 n d z => ?_
    subst z
    exact hk o S1 H1 Hf1 (r.next n d) n (EPost.step hb n d h)
  | exc C fs S1 => rw [e] at h; exact h
  | stk => rw [e] at h; exact h
def cutD {α : Type} (xs : List α) (lo hi : Option Int) : List α := (xs.drop (HT.sIx xs.length 0 lo)).take (HT.sIx xs.length xs.length hi - HT.sIx xs.length 0 lo)
theorem cut_rep {K : PySem.W.Frag} {dr : Addr} {vs : List V} {ds : List D} (l : RepL K dr Hf vs ds) (lo hi : Option Int) : RepL K dr Hf (cutV vs lo hi) (cutD ds lo hi) := by
  unfold cutV cutD
  rw [l.length]
  exact (l.drop _).take _
def gSl (lo hi : Option Int) : E → Option E
  | .v (.tup ds) => some (.v (.tup (cutD ds lo hi)))
  | .v (.str z) => if z.length ≤ sizeLine then some (.v (.str (cutS z lo hi))) else none
  | x => match x.ls with
    | some ds => some (.n (cutD ds lo hi))
    | none => none
def fSl (fl fh : Env → Dr → Out (Option Int)) (fa : Env → Dr → Out E) : Env → Dr → Out E := fun ρ S => (fa ρ S).bind fun x S1 => (fl ρ S1).bind fun l S2 => (fh ρ S2).bind fun u S3 => Out.of (gSl l u x) S3
theorem je_slice {lo hi : Option Expr} {fl fh : Env → Dr → Out (Option Int)} (hK : X.K = B.K) (ha : JE X W B a fa) (hl : JO X W B lo fl) (hh : JO X W B hi fh) : JE X W B (.Subscript a (.Slice lo hi none p2) pos) (fSl fl fh fa) := by
  obtain ⟨tl, pl, ql⟩ := hl.run
  obtain ⟨th, ph, qh⟩ := hh.run
  refine JE.mk (pe_slice (SlR.or sl_list (SlR.or sl_tupA sl_str)) pe_W pl ph) fun bs σ H ρ S Hf Q r h => ?_
  refine ha.bind r h back_e fun e1 S1 v H1 Hf1 r1 n1 z1 h1 => ?_
  refine ql bs σ H1 ρ S1 Hf1 (erel B) Q _ _ r1 h1 back_e fun l S2 H2 Hf2 r2 n2 h2 => ?_
  refine qh bs σ H2 ρ S2 Hf2 (erel B) Q _ _ r2 h2 back_e fun u S3 H3 Hf3 r3 n3 h3 => ?_
  have z3 := (z1.next r1 n2).next r2 n3
  rw [hK]
  cases q : gSl l u e1 with
  | none => rw [q] at h3; exact h3.elim
  | some e =>
    rw [q] at h3
    have k : VP B S3 Hf3 H3 e Q := fun v Hf' H' n d z => h3 v Hf' H' n d z
    unfold gSl at q
    split at q
    · rename_i ds
      cases q
      have z4 : Rep B.K B.dr Hf3 v (.tup ds) := z3
      obtain ⟨a, vs, rfl, t, lr⟩ := rep_tup (Ex.refl Hf3) z4
      refine .inr (.inl ⟨a, vs, rfl, ex_t r3.ex t, fun w => ?_, fun _ p hp => VP.newT r3 k (cut_rep lr l u) hp⟩)
      refine VP.now r3 k (Rep.tup t ?_)
      have e1 : cutD ds l u = ds := by
        unfold cutD
        rw [lr.length] at w
        rw [w.1, w.2]
        simp
      rw [e1]
      exact lr
    · split at q
      · rename_i hl
        cases q
        cases (show Rep B.K B.dr Hf3 v (.str _) from z3)
        exact .inr (.inr ⟨_, rfl, hl, VP.now r3 k (Rep.str _)⟩)
      · cases q
    · split at q
      · rename_i ds q1
        cases q
        obtain ⟨a, vs, rfl, t, lr⟩ := z3.ls r3 q1
        exact .inl ⟨a, vs, rfl, SqL.of t, fun p hp => VP.newL r3 k (cut_rep lr l u) hp⟩
      · cases q
end

/-! ### statements -/
inductive SO where
  | nx (ρ : Env) (S : Dr) | rt (e : E) (S : Dr) | bk (ρ : Env) (S : Dr) | ct (ρ : Env) (S : Dr) | exc (C : Addr) (fs : List (Str × D)) (ρ : Env) (S : Dr) | stk
def SPost (B : Bs) (W : WX) (bs : Hp × Hp) (D : Ends) : SO → Prop
  | .nx ρ S => ∀ σ Hf H, R B bs Hf ρ S σ H → D.nx σ H
  | .bk ρ S => ∀ σ Hf H, R B bs Hf ρ S σ H → D.bk σ H
  | .ct ρ S => ∀ σ Hf H, R B bs Hf ρ S σ H → D.ct σ H
  | .rt e S => ∀ v Hf H, Nx B bs.1 bs.2 Hf H → DrR B Hf S H → ER B bs.2 Hf H v e → D.rt v H
  | .exc C fs ρ S => ∀ σ d Hf H, R B bs Hf ρ S σ H → ExR B Hf H C fs d → W (.ref C) d σ H
  | .stk => False
structure JS (X : Cx) (W : WX) (B : Bs) (st : Stmt) (g : Env → Dr → SO) : Prop where
  of ::
  go : ∀ (bs : Hp × Hp) (σ : L2.St) (H : Hp) (ρ : Env) (S : Dr) (Hf : Hp) (D : Ends), R B bs Hf ρ S σ H → SPost B W bs D (g ρ S) → tWS X st D σ H
structure JB (X : Cx) (W : WX) (B : Bs) (sts : List Stmt) (g : Env → Dr → SO) : Prop where
  of ::
  go : ∀ (bs : Hp × Hp) (σ : L2.St) (H : Hp) (ρ : Env) (S : Dr) (Hf : Hp) (D : Ends), R B bs Hf ρ S σ H → SPost B W bs D (g ρ S) → tWSs X sts D σ H
def sNx : Env → Dr → SO := fun ρ S => .nx ρ S
def sSeq (g1 g2 : Env → Dr → SO) : Env → Dr → SO := fun ρ S => match g1 ρ S with
  | .nx ρ' S' => g2 ρ' S'
  | o => o
/-- an expression ahead of a statement's end -/
def Out.so {α : Type} (o : Out α) (ρ : Env) (k : α → Dr → SO) : SO := match o with
  | .ok a S => k a S
  | .exc C fs S => .exc C fs ρ S
  | .stk => .stk
section
variable {X : Cx} {W : WX} {B : Bs} {bs : Hp × Hp} {Hs Hf H : Hp} {ρ : Env} {S : Dr} {σ : L2.St} {a b e c : Expr} {fa fb : Env → Dr → Out E} {fc : Env → Dr → Out Bool} {pos p2 : Pos} {st : Stmt} {rest sts sts2 : List Stmt} {g g1 g2 : Env → Dr → SO} {D : Ends}
theorem JS.mk {t : TS} (p : PS X st t) (h : ∀ (bs : Hp × Hp) (σ : L2.St) (H : Hp) (ρ : Env) (S : Dr) (Hf : Hp) (D : Ends), R B bs Hf ρ S σ H → SPost B W bs D (g ρ S) → t D σ H) : JS X W B st g :=
  .of fun bs σ H ρ S Hf D r q => tWS_of p (h bs σ H ρ S Hf D r q)
theorem jb_nil : JB X W B [] sNx := .of fun bs σ H ρ S Hf D r h => tWSs_of pss_nil (h σ Hf H r)
theorem jb_cons (h1 : JS X W B st g1) (h2 : JB X W B rest g2) : JB X W B (st :: rest) (sSeq g1 g2) := .of fun bs σ H ρ S Hf D r h => by
  refine tWSs_of (pss_cons ps_W pss_W) ?_
  show tWS X st { D with nx := tWSs X rest D } σ H
  refine h1.go bs σ H ρ S Hf _ r ?_
  unfold sSeq at h
  cases q : g1 ρ S with
  | nx ρ1 S1 =>
    rw [q] at h
    exact fun σ1 Hf1 H1 r1 => h2.go bs σ1 H1 ρ1 S1 Hf1 D r1 h
  | rt e S1 => rw [q] at h; exact h
  | bk ρ1 S1 => rw [q] at h; exact h
  | ct ρ1 S1 => rw [q] at h; exact h
  | exc C fs ρ1 S1 => rw [q] at h; exact h
  | stk => rw [q] at h; exact h
theorem jb_one (h1 : JS X W B st g1) : JB X W B [st] g1 := .of fun bs σ H ρ S Hf D r h => tWSs_of (pss_one ps_W) (h1.go bs σ H ρ S Hf D r h)
/-- an expression in a statement -/
theorem JE.so {k : E → Dr → SO} {P : VK} (ha : JE X W B a fa) (r : R B bs Hf ρ S σ H) (h : SPost B W bs D ((fa ρ S).so ρ k))
    (hk : ∀ e1 S1 v H1 Hf1, R B bs Hf1 ρ S1 σ H1 → Nx B Hf H Hf1 H1 → ER B H Hf1 H1 v e1 → SPost B W bs D (k e1 S1) → P v H1) : tW X a σ H P := by
  refine ha.go bs σ H ρ S Hf P r ?_
  cases q : fa ρ S with
  | ok e1 S1 =>
    rw [q] at h
    exact fun v Hf1 H1 n d z => hk e1 S1 v H1 Hf1 (r.next n d) n z h
  | exc C fs S1 =>
    rw [q] at h
    exact fun d Hf1 H1 n dr x => h σ d Hf1 H1 (r.next n dr) x
  | stk => rw [q] at h; exact h
theorem JT.so {k : Bool → Dr → SO} {P : Bool → Hp → Prop} (ha : JT X W B a fc) (r : R B bs Hf ρ S σ H) (h : SPost B W bs D ((fc ρ S).so ρ k))
    (hk : ∀ c S1 H1 Hf1, R B bs Hf1 ρ S1 σ H1 → Nx B Hf H Hf1 H1 → SPost B W bs D (k c S1) → P c H1) : tWT X a σ H P := by
  refine ha.go bs σ H ρ S Hf P r ?_
  cases q : fc ρ S with
  | ok e1 S1 =>
    rw [q] at h
    refine fun v Hf1 H1 n d z => ?_
    subst z
    exact hk e1 S1 H1 Hf1 (r.next n d) n h
  | exc C fs S1 =>
    rw [q] at h
    exact fun d Hf1 H1 n dr x => h σ d Hf1 H1 (r.next n dr) x
  | stk => rw [q] at h; exact h
/-- the whole run of a def so far, as a step -/
theorem R.whole (r : R B bs Hf ρ S σ H) : Nx B bs.1 bs.2 Hf H := ⟨r.exb, r.ex, r.fr, r.go, r.nd⟩
def retE : E → Option E
  | .v d => some (.v d)
  | .n ds => some (.n ds)
  | .nd ds => some (.nd ds)
  | _ => none
def sRet (fa : Env → Dr → Out E) : Env → Dr → SO := fun ρ S => (fa ρ S).so ρ fun e S1 => match retE e with
  | some e' => .rt e' S1
  | none => .stk
theorem ER.fromStart (r : R B bs Hf ρ S σ H) {v : V} {e : E} {Hf1 H1 : Hp} (z : ER B H Hf1 H1 v e) : ER B bs.2 Hf1 H1 v e := by
  cases e with
  | n ds => obtain ⟨a, vs, h1, h2, h3, h4, h5, h6, h7⟩ := z; exact ⟨a, vs, h1, h2, h3, h4, h5, h6, r.free0 h7⟩
  | nd ds => obtain ⟨a, vs, h1, h2, h3, h4, h5, h6, h7⟩ := z; exact ⟨a, vs, h1, h2, h3, h4, h5, h6, r.free0 h7⟩
  | _ => exact z
theorem js_ret (ha : JE X W B a fa) : JS X W B (.Return (some a) pos) (sRet fa) := JS.mk (ps_ret pe_W) fun bs σ H ρ S Hf D r h => by
  show tW X a σ H D.rt
  refine ha.so r h fun e1 S1 v H1 Hf1 r1 n1 z1 h1 => ?_
  have z2 := ER.fromStart r z1
  cases e1 with
  | v d => exact h1 v Hf1 H1 r1.whole r1.drw z2
  | n d => exact h1 v Hf1 H1 r1.whole r1.drw z2
  | nd d => exact h1 v Hf1 H1 r1.whole r1.drw z2
  | b d => exact h1.elim
  | bd d => exact h1.elim
def sRetN : Env → Dr → SO := fun _ S => .rt (.v .non) S
theorem js_retN : JS X W B (.Return none pos) sRetN := JS.mk ps_retN fun bs σ H ρ S Hf D r h => h .non Hf H r.whole r.drw Rep.non
/-- return x, a list of the def's own goes with it -/
def retO : O → Option E
  | .v d => some (.v d)
  | .l ds => some (.n ds)
  | .d ds => some (.nd ds)
  | _ => none
def sRetV (i : Nat) : Env → Dr → SO := fun ρ S => match ρ[i]? with
  | some (some o) => match retO o with
    | some e => .rt e S
    | none => .stk
  | _ => .stk
theorem js_retV (i : Nat) {x : Str} {pos : Pos} {p : Pos} (hN : X.N[i]? = some x := by rfl) (hv : Vis X.env.scope x := by first | exact Or.inl rfl | exact Or.inr (Or.inl rfl) | exact Or.inr (Or.inr rfl)) (hd : (x == ("__debug__" : Str)) = false := by decide)
    (hcd : (x == ("__classdict__" : Str)) = false := by decide) : JS X W B (.Return (some (.Name x p)) pos) (sRetV i) := JS.mk (ps_ret (pe_var hN hv hd hcd)) fun bs σ H ρ S Hf D r h => by
  unfold sRetV at h
  split at h
  · rename_i o e
    obtain ⟨v, e2, s⟩ := r.sl i o e
    refine ⟨v, e2, ?_⟩
    cases o with
    | v d => exact h v Hf H r.whole r.drw s
    | l ds =>
      obtain ⟨a, vs, rfl, h1, h2, h3, h4⟩ := s
      exact h _ Hf H r.whole r.drw ⟨a, vs, rfl, h1, (r.ne0 a h4).1, (r.ne0 a h4).2, h2, h3, h4⟩
    | d ds =>
      obtain ⟨a, vs, rfl, h1, h2, h3, h4⟩ := s
      exact h _ Hf H r.whole r.drw ⟨a, vs, rfl, h1, (r.ne0 a h4).1, (r.ne0 a h4).2, h2, h3, h4⟩
    | lt ds => exact h.elim
    | ld ds => exact h.elim
    | x C fs => exact h.elim
    | ob C fs => exact h.elim
  · exact h.elim
def sDrop (fa : Env → Dr → Out E) : Env → Dr → SO := fun ρ S => (fa ρ S).so ρ fun _ S1 => .nx ρ S1
theorem js_expr (ha : JE X W B a fa) (hs : swapsWith a none pos.line X.env = pure false := by rfl) : JS X W B (.Expr a pos) (sDrop fa) := JS.mk (ps_expr pe_W hs) fun bs σ H ρ S Hf D r h => by
  show tW X a σ H fun _ H1 => D.nx σ H1
  exact ha.so r h fun e1 S1 v H1 Hf1 r1 n1 z1 h1 => h1 σ Hf1 H1 r1
theorem js_pass : JS X W B (.Pass pos) sNx := JS.mk ps_pass fun bs σ H ρ S Hf D r h => h σ Hf H r
theorem js_doc {x j pos pos'} : JS X W B (.Expr (.Constant (.str x) j pos) pos') sNx := JS.mk ps_doc fun bs σ H ρ S Hf D r h => h σ Hf H r
def sBrk : Env → Dr → SO := fun ρ S => .bk ρ S
def sCnt : Env → Dr → SO := fun ρ S => .ct ρ S
theorem js_break : JS X W B (.Break pos) sBrk := JS.mk ps_break fun bs σ H ρ S Hf D r h => h σ Hf H r
theorem js_continue : JS X W B (.Continue pos) sCnt := JS.mk ps_continue fun bs σ H ρ S Hf D r h => h σ Hf H r
def sIf (fc : Env → Dr → Out Bool) (g1 g2 : Env → Dr → SO) : Env → Dr → SO := fun ρ S => (fc ρ S).so ρ fun c S1 => if c = true then g1 ρ S1 else g2 ρ S1
theorem js_if (hc : JT X W B c fc) (h1 : JB X W B sts g1) (h2 : JB X W B sts2 g2) : JS X W B (.If c sts sts2 pos) (sIf fc g1 g2) := JS.mk (ps_if pt_W pss_W pss_W) fun bs σ H ρ S Hf D r h => by
  show tWT X c σ H fun b H1 => if b = true then tWSs X sts D σ H1 else tWSs X sts2 D σ H1
  refine hc.so r h fun d S1 H1 Hf1 r1 n1 q => ?_
  cases d with
  | true => exact iteT (h1.go bs σ H1 ρ S1 Hf1 D r1 q)
  | false => exact iteF (h2.go bs σ H1 ρ S1 Hf1 D r1 q)

/-! storing at a name -/
def stO : E → Option O
  | .v d => some (.v d)
  | .n ds => some (.l ds)
  | .nd ds => some (.d ds)
  | _ => none
theorem set_some {α : Type} {l : List α} {i j : Nat} {x y : α} (h : (l.set i x)[j]? = some y) : (j = i ∧ y = x ∧ i < l.length) ∨ (j ≠ i ∧ l[j]? = some y) := by
  rw [List.getElem?_set] at h
  split at h
  · rename_i e
    split at h
    · rename_i hl
      cases h
      exact .inl ⟨e.symm, rfl, hl⟩
    · cases h
  · rename_i e
    exact .inr ⟨fun q => e q.symm, h⟩
/-- slot i is forgotten, or gets a new content -/
theorem R.store (r : R B bs Hf ρ S σ H) {i : Nat} {v : V} {o : O} (hi : i < ρ.length) (s : SlR B bs Hf H v o) (nw : o.own = true → ∀ a, v = .ref a → ∀ (j : Nat) oj, ρ[j]? = some (some oj) → oj.own = true → σ[j]? = some (some (V.ref a)) → j = i) :
    R B bs Hf (ρ.set i (some o)) S (σ.set i (some v)) H where
  ex := r.ex
  exb := r.exb
  fr := r.fr
  nd := r.nd
  go := r.go
  h0 := r.h0
  drw := r.drw
  len := by rw [List.length_set, List.length_set, r.len]
  sl := fun j oj h => by
    rcases set_some h with ⟨rfl, e, _⟩ | ⟨ne, h⟩
    · cases e
      exact ⟨v, by rw [List.getElem?_set_self (by rw [← r.len]; exact hi)], s⟩
    · obtain ⟨w, e, z⟩ := r.sl j oj h
      exact ⟨w, by rw [List.getElem?_set_ne (Ne.symm ne)]; exact e, z⟩
  inj := fun j k oj ok a hj hk wj wk ej ek => by
    rcases set_some hj with ⟨rfl, e1, _⟩ | ⟨n1, hj⟩
    · rcases set_some hk with ⟨rfl, e2, _⟩ | ⟨n2, hk⟩
      · rfl
      · cases e1
        rw [List.getElem?_set_self (by rw [← r.len]; exact hi)] at ej
        rw [List.getElem?_set_ne (Ne.symm n2)] at ek
        cases ej
        exact (nw wj a rfl k ok hk wk ek).symm
    · rcases set_some hk with ⟨rfl, e2, _⟩ | ⟨n2, hk⟩
      · cases e2
        rw [List.getElem?_set_self (by rw [← r.len]; exact hi)] at ek
        rw [List.getElem?_set_ne (Ne.symm n1)] at ej
        cases ek
        exact nw wk a rfl j oj (by assumption) wj ej
      · rw [List.getElem?_set_ne (Ne.symm n1)] at ej
        rw [List.getElem?_set_ne (Ne.symm n2)] at ek
        exact r.inj j k oj ok a hj hk wj wk ej ek
theorem R.ltN (r : R B bs Hf ρ S σ H) {N : List Str} {i : Nat} {x : Str} (hl : ρ.length = N.length) (hi : N[i]? = some x) : i < ρ.length := by
  rw [hl]; exact (List.getElem?_eq_some_iff.mp hi).1
theorem stO_ok (r : R B bs Hf ρ S σ H) {Hf1 H1 : Hp} {S1 : Dr} (r1 : R B bs Hf1 ρ S1 σ H1) {v : V} {e : E} {o : O} {i : Nat} (hi : i < ρ.length) (z : ER B H Hf1 H1 v e) (q : stO e = some o) : R B bs Hf1 (ρ.set i (some o)) S1 (σ.set i (some v)) H1 := by
  have fresh : ∀ a, H a = none → ∀ (j : Nat) oj, ρ[j]? = some (some oj) → oj.own = true → σ[j]? = some (some (V.ref a)) → j = i := fun a ha j oj hj wj ej => by
    obtain ⟨b, u, e2, h2, _⟩ := r.own_at hj wj
    rw [ej] at e2
    cases e2
    rw [ha] at h2
    cases h2
  cases e with
  | v d => cases q; exact r1.store hi z fun w => by cases w
  | n ds =>
    cases q
    obtain ⟨a, vs, rfl, h1, k1, k2, l, h2, h3⟩ := z
    refine r1.store hi ⟨a, vs, rfl, h1, l, h2, r.free0 h3⟩ fun _ b hb => ?_
    cases hb
    exact fresh a h3
  | nd ds =>
    cases q
    obtain ⟨a, vs, rfl, h1, k1, k2, l, h2, h3⟩ := z
    refine r1.store hi ⟨a, vs, rfl, h1, l, h2, r.free0 h3⟩ fun _ b hb => ?_
    cases hb
    exact fresh a h3
  | b ds => cases q
  | bd ds => cases q
/-- x = e -/
def sSet (i : Nat) (fa : Env → Dr → Out E) : Env → Dr → SO := fun ρ S => if i < ρ.length then (fa ρ S).so ρ fun e S1 => match stO e with
  | some o => .nx (ρ.set i (some o)) S1
  | none => .stk else .stk
theorem js_set (i : Nat) {x : Str} {pos' : Pos} (hN : X.N.Nodup) (ha : JE X W B a fa) (hi : X.N[i]? = some x := by rfl) (hx : Loc X.env.scope x := by first | exact .inl rfl | exact .inr rfl) (hs : swapsWith a (some (.Name x pos')) pos.line X.env = pure false := by rfl)
    (hf : X.fn x = true ∨ X.env.scope.names.lookup x = some .local := by first | exact .inl rfl | exact .inr rfl | assumption) : JS X W B (.Assign [.Name x pos'] a pos) (sSet i fa) := JS.mk (ps_set hN hi hx pe_W hs hf) fun bs σ H ρ S Hf D r h => by
  show tW X a σ H fun x H1 => gName i x σ H1 D.nx
  unfold sSet at h
  split at h
  · rename_i hi
    refine ha.so r h fun e1 S1 v H1 Hf1 r1 n1 z1 h1 => ?_
    cases q : stO e1 with
    | none => rw [q] at h1; exact h1.elim
    | some o =>
      rw [q] at h1
      exact h1 _ Hf1 H1 (stO_ok r r1 hi z1 q)
  · exact h.elim
/-- x = e, a new list is frozen at once -/
def sSetF (i : Nat) (fa : Env → Dr → Out E) : Env → Dr → SO := fun ρ S => if i < ρ.length then (fa ρ S).so ρ fun e S1 => match per e with
  | some d => .nx (ρ.set i (some (.v d))) S1
  | none => .stk else .stk
theorem js_setF (i : Nat) {x : Str} {pos' : Pos} (hN : X.N.Nodup) (ha : JE X W B a fa) (hi : X.N[i]? = some x := by rfl) (hx : Loc X.env.scope x := by first | exact .inl rfl | exact .inr rfl) (hs : swapsWith a (some (.Name x pos')) pos.line X.env = pure false := by rfl)
    (hf : X.fn x = true ∨ X.env.scope.names.lookup x = some .local := by first | exact .inl rfl | exact .inr rfl | assumption) : JS X W B (.Assign [.Name x pos'] a pos) (sSetF i fa) := JS.mk (ps_set hN hi hx pe_W hs hf) fun bs σ H ρ S Hf D r h => by
  show tW X a σ H fun x H1 => gName i x σ H1 D.nx
  unfold sSetF at h
  split at h
  · rename_i hi
    refine ha.so r h fun e1 S1 v H1 Hf1 r1 n1 z1 h1 => ?_
    cases q : per e1 with
    | none => rw [q] at h1; exact h1.elim
    | some d =>
      rw [q] at h1
      obtain ⟨Hf2, n2, x2, d2, z2⟩ := per_ok r1 n1 z1 q
      exact h1 _ Hf2 H1 ((r.next n2 d2).store hi z2 fun w => by cases w)
  · exact h.elim

/-! a list, a dict of the def's own is changed -/
theorem R.mut (r : R B bs Hf ρ S σ H) {i : Nat} {o o' : O} {a : Addr} {u : HO} (h : ρ[i]? = some (some o)) (w : o.own = true) (e : σ[i]? = some (some (V.ref a))) (s : SlR B bs Hf (upd H a u) (.ref a) o') (w' : o'.own = true) : R B bs Hf (ρ.set i (some o')) S σ (upd H a u) := by
  obtain ⟨a', u', e1, h1, h2, h3⟩ := r.own_at h w
  rw [e] at e1
  cases e1
  obtain ⟨n1, n2⟩ := r.ne0 a h3
  have hi : i < ρ.length := (List.getElem?_eq_some_iff.mp h).1
  refine ⟨fun b v q => ?_, r.exb, r.fr, r.nd, fun b v q m1 m2 => ?_, r.h0, ⟨?_, r.drw.cl, ?_, r.drw.ne⟩, by rw [List.length_set]; exact r.len, fun j oj hj => ?_, fun j k oj ok b hj hk wj wk ej ek => ?_⟩
  · rw [upd_ne (fun q2 => by rw [q2, h2] at q; cases q)]; exact r.ex b v q
  · rw [upd_ne (fun q2 => by rw [q2, h3] at q; cases q)]; exact r.go b v q m1 m2
  · rw [upd_ne (Ne.symm n1)]; exact r.drw.dr
  · rw [upd_ne (Ne.symm n2)]; exact r.drw.rs
  · rcases set_some hj with ⟨rfl, e2, _⟩ | ⟨ne, hj⟩
    · cases e2
      exact ⟨_, e, s⟩
    · obtain ⟨v, e2, z⟩ := r.sl j oj hj
      refine ⟨v, e2, ?_⟩
      have oth : ∀ b, oj.own = true → v = .ref b → b ≠ a := fun b wj hv q => by
        subst hv
        subst q
        exact ne (r.inj j i oj o b hj h wj w e2 e)
      cases oj with
      | v d => exact z
      | l ds =>
        obtain ⟨b, vs, rfl, k1, k2, k3, k4⟩ := z
        exact ⟨b, vs, rfl, by rw [upd_ne (oth b rfl rfl)]; exact k1, k2, k3, k4⟩
      | d ds =>
        obtain ⟨b, vs, rfl, k1, k2, k3, k4⟩ := z
        exact ⟨b, vs, rfl, by rw [upd_ne (oth b rfl rfl)]; exact k1, k2, k3, k4⟩
      | lt ds => exact z
      | ld ds => exact z
      | x C fs => exact z
      | ob C fs =>
        obtain ⟨rfl, dx, vs, k1, k2, k3, k4⟩ := z
        exact ⟨rfl, dx, vs, by rw [upd_ne (oth _ rfl rfl)]; exact k1, k2, k3, k4⟩
  · have og : ∀ {m : Nat} {om : O}, (ρ.set i (some o'))[m]? = some (some om) → om.own = true → ∃ om', ρ[m]? = some (some om') ∧ om'.own = true := fun {m om} hm wm => by
      rcases set_some hm with ⟨rfl, e2, _⟩ | ⟨ne, hm⟩
      · exact ⟨o, h, w⟩
      · exact ⟨om, hm, wm⟩
    obtain ⟨oj', hj', wj'⟩ := og hj wj
    obtain ⟨ok', hk', wk'⟩ := og hk wk
    exact r.inj j k oj' ok' b hj' hk' wj' wk' ej ek
/-- x.append(e) -/
def sApp (i : Nat) (fa : Env → Dr → Out E) : Env → Dr → SO := fun ρ S => match ρ[i]? with
  | some (some (.l ds)) => (fa ρ S).so ρ fun e S1 => match per e with
    | some d => if ds.length < sizeLine then .nx (ρ.set i (some (.l (ds ++ [d])))) S1 else .stk
    | none => .stk
  | _ => .stk
theorem js_app (i : Nat) {x : Str} {p pp cpos : Pos} (hK : X.K = B.K) (ha : JE X W B a fa) (hN : X.N[i]? = some x := by rfl) (hv : Vis X.env.scope x := by first | exact Or.inl rfl | exact Or.inr (Or.inl rfl) | exact Or.inr (Or.inr rfl)) (hd : (x == ("__debug__" : Str)) = false := by decide)
    (hcd : (x == ("__classdict__" : Str)) = false := by decide)
    (hbase : attributeBase (.Name x p) "append" X.env (eval (.Name x p) X.env) = eval (.Name x p) X.env := by rfl)
    (hfew : ((backTo cpos (starEach [a] X.env)).all (fun x => !x.1) && (backToKw cpos (keywordEach [] X.env)).all (fun x => x.1.isSome)
      && decide (([a] : List Expr).length + ([] : List Keyword).length + (if ([] : List Keyword).isEmpty then 0 else 1) < 30)) = true := by rfl)
    (hline : (pp.endLine == cpos.line) = true := by rfl) (hs : starEach [a] X.env = (false, eval a X.env) :: starEach [] X.env := by exact star_c rfl) (hplain : (backTo cpos (starEach [] X.env)).any (·.1) = false := by exact star_any rfl)
    (hsw : swapsWith (.Call (.Attribute (.Name x p) "append" pp) [a] [] cpos) none pos.line X.env = pure false := by rfl) :
    JS X W B (.Expr (.Call (.Attribute (.Name x p) "append" pp) [a] [] cpos) pos) (sApp i fa) :=
  JS.mk (ps_expr (pe_bm PySem.F.plainAttrs_list PySem.F.slot_list_append PySem.F.type_list_append mt_append (pe_var hN hv hd hcd) (pa_cons pe_W pa_nil hs) hbase hfew hline hs hplain) hsw) fun bs σ H ρ S Hf D r h => by
    unfold sApp at h
    split at h
    · rename_i ds e
      obtain ⟨v, e2, s⟩ := r.sl i _ e
      obtain ⟨l, vs, rfl, h1, h2, h3, h4⟩ := s
      obtain ⟨n1, n2⟩ := r.ne0 l h4
      refine ⟨_, e2, .inl ⟨rfl, _, .inl (.inl h1)⟩, ?_⟩
      show tW X a σ H fun y H1 => _
      refine ha.so r h fun e1 S1 y H1 Hf1 r1 m1 z1 q => ?_
      cases qp : per e1 with
      | none => rw [qp] at q; exact q.elim
      | some d =>
        rw [qp] at q
        dsimp only at q
        split at q
        · rename_i hl
          obtain ⟨Hf2, m2, x2, d2, z2⟩ := per_ok r1 m1 z1 qp
          have r2 := r.next m2 d2
          obtain ⟨v', e3, s'⟩ := r2.sl i _ e
          rw [e2] at e3
          cases e3
          obtain ⟨l', vs', el, k1, k2, k3, k4⟩ := s'
          cases el
          refine ⟨l, vs', y, rfl, rfl, k1, by rw [k2.length]; exact hl, ?_⟩
          exact q _ Hf2 _ (r2.mut e rfl e2 ⟨l, _, rfl, upd_same, k2.append (.one z2), k3, k4⟩ rfl)
        · exact q.elim
    · exact h.elim
end
end Dn

set_option Elab.async false
set_option linter.all false
set_option maxRecDepth 100000
set_option maxHeartbeats 4000000
namespace Dn
open PySem PySem.Spec PyProof.Rows L2

/-! ### targets -/
/-- target tg of reading t stores data as g says, into the slots of ix alone -/
def JG (X : Cx) (B : Bs) (tg : Expr) (t : TG) (ix : List Nat) (g : D → Env → Option Env) : Prop :=
  PG X tg t ∧ ∀ (bs : Hp × Hp) (σ : L2.St) (H : Hp) (ρ : Env) (S : Dr) (Hf : Hp) (v : V) (d : D) (ρ' : Env) (Q : L2.St → Hp → Prop), R B bs Hf ρ S σ H → Rep B.K B.dr Hf v d → g d ρ = some ρ' →
    (∀ σ' : L2.St, R B bs Hf ρ' S σ' H → σ'.length = σ.length → (∀ j, j ∉ ix → σ'[j]? = σ[j]?) → Q σ' H) → t v σ H Q
def JGs (X : Cx) (B : Bs) (tgs : List Expr) (t : TGs) (ix : List Nat) (g : List D → Env → Option Env) : Prop :=
  PGs X tgs t ∧ ∀ (bs : Hp × Hp) (σ : L2.St) (H : Hp) (ρ : Env) (S : Dr) (Hf : Hp) (vs : List V) (ds : List D) (ρ' : Env) (Q : L2.St → Hp → Prop), R B bs Hf ρ S σ H → RepL B.K B.dr Hf vs ds → g ds ρ = some ρ' →
    (∀ σ' : L2.St, R B bs Hf ρ' S σ' H → σ'.length = σ.length → (∀ j, j ∉ ix → σ'[j]? = σ[j]?) → Q σ' H) → t vs σ H Q
def tgN (i : Nat) : D → Env → Option Env := fun d ρ => if i < ρ.length then some (ρ.set i (some (.v d))) else none
def tgNil : List D → Env → Option Env := fun ds ρ => match ds with
  | [] => some ρ
  | _ => none
def tgCons (g : D → Env → Option Env) (gs : List D → Env → Option Env) : List D → Env → Option Env := fun ds ρ => match ds with
  | d :: r => (g d ρ).bind (gs r)
  | [] => none
def tgT (n : Nat) (gs : List D → Env → Option Env) : D → Env → Option Env := fun d ρ => match d with
  | .tup ds => if ds.length = n then gs ds ρ else none
  | _ => none
section
variable {X : Cx} {W : WX} {B : Bs} {bs : Hp × Hp} {Hs Hf H : Hp} {ρ : Env} {S : Dr} {σ : L2.St} {a b e : Expr} {es : List Expr} {fa fb : Env → Dr → Out E} {pos p2 : Pos} {t : TG} {ts : TGs} {ix jx : List Nat} {g : D → Env → Option Env} {gs : List D → Env → Option Env}
theorem jg_name (i : Nat) {x : Str} (hN : X.N.Nodup) (hi : X.N[i]? = some x := by rfl) (hx : Loc X.env.scope x := by first | exact .inl rfl | exact .inr rfl) (hf : X.fn x = true ∨ X.env.scope.names.lookup x = some .local := by first | exact .inl rfl | exact .inr rfl | assumption) :
    JG X B (.Name x pos) (gName i) [i] (tgN i) := ⟨pg_name hN hi hx hf, fun bs σ H ρ S Hf v d ρ' Q r z q k => by
  unfold tgN at q
  split at q
  · rename_i hl
    cases q
    exact k _ (r.store hl z fun w => by cases w) List.length_set fun j hj => List.getElem?_set_ne fun e => hj (by simp [e])
  · cases q⟩
theorem jgs_nil : JGs X B [] gNil [] tgNil := ⟨pgs_nil, fun bs σ H ρ S Hf vs ds ρ' Q r z q k => by
  cases z with
  | nil => cases q; exact ⟨rfl, k σ r rfl fun _ _ => rfl⟩
  | cons _ _ => cases q⟩
theorem jgs_cons (h : JG X B e t ix g) (hs : JGs X B es ts jx gs)
    (hst : (assignEach (e :: es) X.env).map (·.2) = assign e X.env :: (assignEach es X.env).map (·.2) := by rfl) : JGs X B (e :: es) (gCons t ts) (ix ++ jx) (tgCons g gs) := ⟨pgs_cons h.1 hs.1 hst, fun bs σ H ρ S Hf vs ds ρ' Q r z q k => by
  cases z with
  | nil => cases q
  | cons z1 zs =>
    rename_i v vs d ds
    unfold tgCons at q
    dsimp only at q
    cases q1 : g d ρ with
    | none => rw [q1] at q; cases q
    | some ρ1 =>
      rw [q1] at q
      refine ⟨v, vs, rfl, ?_⟩
      refine h.2 bs σ H ρ S Hf v d ρ1 _ r z1 q1 fun σ1 r1 l1 u1 => ?_
      refine hs.2 bs σ1 H ρ1 S Hf vs ds ρ' _ r1 zs q fun σ2 r2 l2 u2 => k σ2 r2 (l2.trans l1) fun j hj => ?_
      rw [u2 j fun m => hj (List.mem_append_right _ m), u1 j fun m => hj (List.mem_append_left _ m)]⟩
theorem jg_tup {k n : Nat} (hK : X.K = B.K) (hc : X.calm = true) (h : JGs X B es ts ix gs) (hn : (assignEach es X.env).length = n := by rfl) (hst : (assignEach es X.env).findIdx? (·.1) = none := by rfl) :
    JG X B (.Tuple es k pos) (gTup B.K n ts) ix (tgT n gs) := ⟨hK ▸ pg_tup hc h.1 hn hst, fun bs σ H ρ S Hf v d ρ' Q r z q k => by
  unfold tgT at q
  split at q
  · split at q
    · rename_i hl
      obtain ⟨a, vs, rfl, t, l⟩ := rep_tup (Ex.refl Hf) z
      exact ⟨a, vs, rfl, ex_t r.ex t, by rw [l.length]; exact hl, h.2 bs σ H ρ S Hf vs _ ρ' Q r l q k⟩
    · cases q
  · cases q⟩
/-- targets = e -/
def sAsg (g : D → Env → Option Env) (fa : Env → Dr → Out E) : Env → Dr → SO := fun ρ S => (fa ρ S).so ρ fun e S1 => match per e with
  | some d => match g d ρ with
    | some ρ' => .nx ρ' S1
    | none => .stk
  | none => .stk
theorem js_asg (h : JG X B b t ix g) (ha : JE X W B a fa) (hs : swapsWithSole [b] a pos.line X.env = pure false := by rfl) (hw : swappedStores [b] a X.env = pure none := by rfl)
    (h1 : (assignEach [b] X.env).map (·.2) = [assign b X.env] := by rfl) : JS X W B (.Assign [b] a pos) (sAsg g fa) := JS.mk (ps_asg pe_W h.1 hs hw h1) fun bs σ H ρ S Hf D r q => by
  show tW X a σ H fun x H1 => t x σ H1 D.nx
  refine ha.so r q fun e1 S1 v H1 Hf1 r1 n1 z1 h1 => ?_
  cases qp : per e1 with
  | none => rw [qp] at h1; exact h1.elim
  | some d =>
    rw [qp] at h1
    dsimp only at h1
    cases qg : g d ρ with
    | none => rw [qg] at h1; exact h1.elim
    | some ρ' =>
      rw [qg] at h1
      obtain ⟨Hf2, n2, x2, d2, z2⟩ := per_ok r1 n1 z1 qp
      exact h.2 bs σ H1 ρ S1 Hf2 v d ρ' _ (r.next n2 d2) z2 qg fun σ' r' _ _ => h1 σ' Hf2 H1 r'
end

/-! ### what is walked -/
def Wk (B : Bs) (bs : Hp × Hp) (c : Bool) (Hf1 H1 : Hp) (J : It) (ds : List D) : Prop :=
  ∃ (G : Hp → Prop) (Y : Nat → Hp → V → Hp → Prop), Walk J ds.length G Y ∧ (∀ Hf H ρ S σ, R B bs Hf ρ S σ H → Ex Hf1 Hf → (c = true → Go B H1 H) → G H) ∧
    ∀ i Hf H ρ S σ x H', i < ds.length → R B bs Hf ρ S σ H → Ex Hf1 Hf → (c = true → Go B H1 H) → Y i H x H' → ∃ d Hf', ds[i]? = some d ∧ Nx B Hf H Hf' H' ∧ DrR B Hf' S H' ∧ Rep B.K B.dr Hf' x d
def IPost (B : Bs) (W : WX) (bs : Hp × Hp) (c : Bool) (ρ : Env) (σ : L2.St) (Hf H : Hp) (o : Out (List D)) (P : It → Hp → Prop) : Prop := match o with
  | .ok ds S1 => ∀ J H1 Hf1, R B bs Hf1 ρ S1 σ H1 → Nx B Hf H Hf1 H1 → Wk B bs c Hf1 H1 J ds → P J H1
  | .exc C fs S1 => ∀ d Hf1 H1, Nx B Hf H Hf1 H1 → DrR B Hf1 S1 H1 → ExR B Hf1 H1 C fs d → W (.ref C) d σ H1
  | .stk => False
/-- an iterable; c: it may stand on a list that all stands (a comprehension's) -/
def JI (X : Cx) (W : WX) (B : Bs) (c : Bool) (tg iter : Expr) (f : Env → Dr → Out (List D)) : Prop :=
  ∃ wi, PI X tg iter wi ∧ ∀ (bs : Hp × Hp) (σ : L2.St) (H : Hp) (ρ : Env) (S : Dr) (Hf : Hp) (P : It → Hp → Prop), R B bs Hf ρ S σ H → IPost B W bs c ρ σ Hf H (f ρ S) P → wi σ H P
theorem PI.or {X : Cx} {tg iter : Expr} {w w' : TI} (h : PI X tg iter w) (h' : PI X tg iter w') : PI X tg iter (fun σ H P => w σ H P ∨ w' σ H P) :=
  ⟨fun pins s σ H P I q => q.elim (h.run pins s σ H P I) (h'.run pins s σ H P I)⟩
section
variable {X : Cx} {W : WX} {B : Bs} {bs : Hp × Hp} {Hs Hf H : Hp} {ρ : Env} {S : Dr} {σ : L2.St} {tg a b e : Expr} {es : List Expr} {fa fb : Env → Dr → Out E} {fr : Env → Dr → Out (List O)} {pos p2 : Pos} {c : Bool}
/-- the items of a frozen (or, in a comprehension, any) list -/
theorem wk_list {a : Addr} {vs : List V} {ds : List D} {Hf1 H1 : Hp} (l : RepL B.K B.dr Hf1 vs ds) (h : Hf1 a = some (.lst vs) ∨ (c = true ∧ H1 a = some (.lst vs) ∧ a ≠ B.dr ∧ a ≠ B.rs)) : Wk B bs c Hf1 H1 (Itl B.K a) ds := by
  refine ⟨fun H => SqL B.K H a vs, YAt vs, by rw [← l.length]; exact walk_list, fun Hf H ρ S σ r x g => ?_, fun i Hf H ρ S σ v H' hi r x g y => ?_⟩
  · rcases h with h | ⟨hc, h, n1, n2⟩
    · exact SqL.of (r.ex _ _ (x _ _ h))
    · exact SqL.of (g hc _ _ h n1 n2)
  · obtain ⟨rfl, y⟩ := y
    obtain ⟨d, hd, z⟩ := l.getV y
    exact ⟨d, Hf, hd, r.nx0, r.drw, z.mono x⟩
theorem wk_tup {a : Addr} {vs : List V} {ds : List D} {Hf1 H1 : Hp} (l : RepL B.K B.dr Hf1 vs ds) (h : SqT B.K Hf1 a vs) : Wk B bs c Hf1 H1 (Itt B.K a) ds := by
  refine ⟨fun H => SqT B.K H a vs, YAt vs, by rw [← l.length]; exact walk_tup, fun Hf H ρ S σ r x g => ex_t (x.trans r.ex) h, fun i Hf H ρ S σ v H' hi r x g y => ?_⟩
  obtain ⟨rfl, y⟩ := y
  obtain ⟨d, hd, z⟩ := l.getV y
  exact ⟨d, Hf, hd, r.nx0, r.drw, z.mono x⟩
/-- a list or a tuple, as a value -/
def itE (c : Bool) : E → Option (List D)
  | .v (.lst ds) => some ds
  | .v (.tup ds) => some ds
  | .n ds => some ds
  | .b ds => if c = true then some ds else none
  | _ => none
def fItr (c : Bool) (fa : Env → Dr → Out E) : Env → Dr → Out (List D) := fun ρ S => (fa ρ S).bind fun e S1 => Out.of (itE c e) S1
theorem ji_seq (hK : X.K = B.K) (ha : JE X W B a fa) : JI X W B c tg a (fItr c fa) := by
  refine ⟨_, PI.or (pi_list pe_W) (pi_tup pe_W), fun bs σ H ρ S Hf P r h => ?_⟩
  unfold fItr at h
  rw [hK]
  cases q : fa ρ S with
  | stk => rw [q] at h; exact h.elim
  | exc C fs S1 =>
    rw [q] at h
    refine .inl ?_
    show tW X a σ H fun x H1 => _
    refine ha.go bs σ H ρ S Hf _ r ?_
    rw [q]
    exact h
  | ok e S1 =>
    rw [q] at h
    by_cases ht : ∃ ds, e = .v (.tup ds)
    · obtain ⟨ds, rfl⟩ := ht
      refine .inr ?_
      show tW X a σ H fun x H1 => _
      refine ha.go bs σ H ρ S Hf _ r ?_
      rw [q]
      intro v Hf1 H1 n d z
      obtain ⟨a', vs, rfl, t, l⟩ := rep_tup (Ex.refl Hf1) (show Rep B.K B.dr Hf1 v (.tup ds) from z)
      exact ⟨a', rfl, ⟨vs, ex_t n.exf t⟩, h _ H1 Hf1 (r.next n d) n (wk_tup l t)⟩
    · refine .inl ?_
      show tW X a σ H fun x H1 => _
      refine ha.go bs σ H ρ S Hf _ r ?_
      rw [q]
      intro v Hf1 H1 n d z
      have h : IPost B W bs c ρ σ Hf H (Out.of (itE c e) S1) P := h
      cases e with
      | v d' =>
        cases d' with
        | tup ds => exact (ht ⟨ds, rfl⟩).elim
        | lst ds =>
          cases (show Rep B.K B.dr Hf1 v (.lst ds) from z) with
          | lst h1 l => exact ⟨_, rfl, ⟨_, SqL.of (n.exf _ _ h1)⟩, h _ H1 Hf1 (r.next n d) n (wk_list l (.inl h1))⟩
        | _ => exact h.elim
      | n ds =>
        obtain ⟨a', vs, rfl, h1, k1, k2, l, h3, h4⟩ := z
        obtain ⟨x, y, z⟩ := froz (r.next n d) n h1 k1 k2 h3 h4
        exact ⟨_, rfl, ⟨_, SqL.of h1⟩, h _ H1 _ (r.next x z) x (wk_list (l.mono y) (.inl upd_same))⟩
      | b ds =>
        obtain ⟨a', vs, rfl, h1, k1, k2, l⟩ := z
        by_cases hc : c = true
        · simp only [itE, if_pos hc] at h
          exact ⟨_, rfl, ⟨_, SqL.of h1⟩, h _ H1 Hf1 (r.next n d) n (wk_list l (.inr ⟨hc, h1, k1, k2⟩))⟩
        · simp only [itE, if_neg hc] at h
          exact h.elim
      | nd ds => exact h.elim
      | bd ds => exact h.elim
/-- range(n), range(a, b) -/
def rngD (lo : Int) (n : Nat) : List D := (List.range n).map fun i : Nat => D.int (lo + (i : Int))
theorem wk_range {lo : Int} {n : Nat} {Hf1 H1 : Hp} : Wk B bs c Hf1 H1 (Itr lo n) (rngD lo n) := by
  refine ⟨fun _ => True, YFn fun i => .int (lo + i), by unfold rngD; rw [List.length_map, List.length_range]; exact walk_range, fun _ _ _ _ _ _ _ _ => trivial, fun i Hf H ρ S σ v H' hi r x g y => ?_⟩
  obtain ⟨rfl, rfl⟩ := y
  unfold rngD at hi ⊢
  rw [List.length_map, List.length_range] at hi
  exact ⟨.int (lo + (i : Int)), Hf, by rw [List.getElem?_map, List.getElem?_range hi] <;> rfl, r.nx0, r.drw, .int _⟩
def gRng1 : List O → Option (List D)
  | [.v (.int j)] => if -(2 ^ 62) ≤ j ∧ j < 2 ^ 62 then some (rngD 0 j.toNat) else none
  | _ => none
def gRng2 : List O → Option (List D)
  | [.v (.int i), .v (.int j)] => if -(2 ^ 62) ≤ i ∧ i < 2 ^ 62 ∧ -(2 ^ 62) ≤ j ∧ j < 2 ^ 62 then some (rngD i (j - i).toNat) else none
  | _ => none
def fItC (g : List O → Option (List D)) (fr : Env → Dr → Out (List O)) : Env → Dr → Out (List D) := fun ρ S => (fr ρ S).bind fun os S1 => Out.of (g os) S1
theorem JA.it {g : List O → Option (List D)} {P : It → Hp → Prop} {P1 : List V → Hp → Prop} (ha : JA X W B es fr) (r : R B bs Hf ρ S σ H) (h : IPost B W bs c ρ σ Hf H (fItC g fr ρ S) P)
    (hk : ∀ os ds S1 vs H1 Hf1, R B bs Hf1 ρ S1 σ H1 → Nx B Hf H Hf1 H1 → AsR B Hf1 H1 vs os → g os = some ds → (∀ J, Wk B bs c Hf1 H1 J ds → P J H1) → P1 vs H1) : tWA X es σ H P1 := by
  refine ha.go bs σ H ρ S Hf _ r ?_
  unfold fItC at h
  cases q : fr ρ S with
  | stk => rw [q] at h; exact h.elim
  | exc C fs S1 => rw [q] at h; exact h
  | ok os S1 =>
    rw [q] at h
    intro vs Hf1 H1 n d z
    have h : IPost B W bs c ρ σ Hf H (Out.of (g os) S1) P := h
    cases qg : g os with
    | none => rw [qg] at h; exact h.elim
    | some ds =>
      rw [qg] at h
      exact hk os ds S1 vs H1 Hf1 (r.next n d) n z qg fun J w => h J H1 Hf1 (r.next n d) n w
theorem ji_range1 {p : Pos} (hm : X.mg "range" = none) (ha : JA X W B [a] fr) (hg : Gl X "range" := by rfl) (hs : starEach [a] X.env = [(false, eval a X.env)] := by exact star_1 rfl) : JI X W B c tg (.Call (.Name "range" p) [a] [] pos) (fItC gRng1 fr) :=
  ⟨_, pi_range1 hg hm pa_W hs, fun bs σ H ρ S Hf P r h => by
    show tWA X [a] σ H fun vs H1 => _
    refine ha.it r h fun os ds S1 vs H1 Hf1 r1 n1 z q k => ?_
    unfold gRng1 at q
    split at q
    · split at q
      · rename_i hb
        cases q
        obtain ⟨v, rfl, h1⟩ := as1 z
        cases (show Rep _ _ _ v (.int _) from h1)
        exact ⟨_, rfl, hb.1, hb.2, k _ wk_range⟩
      · cases q
    · cases q⟩
theorem ji_range2 {p : Pos} (hm : X.mg "range" = none) (ha : JA X W B [a, b] fr) (hg : Gl X "range" := by rfl) (hs : starEach [a, b] X.env = [(false, eval a X.env), (false, eval b X.env)] := by exact star_2 rfl rfl) (hs2 : starEach [b] X.env = [(false, eval b X.env)] := by exact star_1 rfl) :
    JI X W B c tg (.Call (.Name "range" p) [a, b] [] pos) (fItC gRng2 fr) :=
  ⟨_, pi_range2 hg hm pa_W hs hs2, fun bs σ H ρ S Hf P r h => by
    show tWA X [a, b] σ H fun vs H1 => _
    refine ha.it r h fun os ds S1 vs H1 Hf1 r1 n1 z q k => ?_
    unfold gRng2 at q
    split at q
    · split at q
      · rename_i hb
        cases q
        obtain ⟨v, v2, rfl, h1, h2⟩ := as2 z
        cases (show Rep _ _ _ v (.int _) from h1)
        cases (show Rep _ _ _ v2 (.int _) from h2)
        exact ⟨_, _, rfl, hb, k _ wk_range⟩
      · cases q
    · cases q⟩
end

/-! ### another base -/
section
variable {W : WX} {B : Bs} {bs : Hp × Hp} {Hf Hf1 H H1 : Hp} {ρ ρ1 : Env} {S S1 : Dr} {σ σ1 : L2.St} {D : Ends}
theorem R.rebase (r1 : R B bs Hf1 ρ1 S1 σ1 H1) (r : R B (Hf1, bs.2) Hf ρ S σ H) : R B bs Hf ρ S σ H :=
  ⟨r.ex, r1.exb.trans r.exb, fun a o h => by
    rcases r.fr a o h with q | q
    · exact r1.fr a o q
    · exact .inr q, r.nd, r.go, r.h0, r.drw, r.len, r.sl, r.inj⟩
theorem R.base (r1 : R B bs Hf1 ρ1 S1 σ1 H1) : R B (Hf1, bs.2) Hf1 ρ1 S1 σ1 H1 :=
  ⟨r1.ex, Ex.refl _, fun a o h => .inl h, r1.nd, r1.go, r1.h0, r1.drw, r1.len, r1.sl, r1.inj⟩
theorem Nx.rebase (r1 : R B bs Hf1 ρ1 S1 σ1 H1) (n : Nx B Hf1 bs.2 Hf H) : Nx B bs.1 bs.2 Hf H :=
  ⟨r1.exb.trans n.ex, n.exf, fun a o h => by
    rcases n.fr a o h with q | q
    · exact r1.fr a o q
    · exact .inr q, n.go, n.nd⟩
theorem SPost.rebase (r1 : R B bs Hf1 ρ1 S1 σ1 H1) {o : SO} (h : SPost B W bs D o) : SPost B W (Hf1, bs.2) D o := by
  cases o with
  | nx ρ S => exact fun σ Hf H r => h σ Hf H (R.rebase r1 r)
  | bk ρ S => exact fun σ Hf H r => h σ Hf H (R.rebase r1 r)
  | ct ρ S => exact fun σ Hf H r => h σ Hf H (R.rebase r1 r)
  | rt e S => exact fun v Hf H n d z => h v Hf H (Nx.rebase r1 n) d z
  | exc C fs ρ S => exact fun σ d Hf H r x => h σ d Hf H (R.rebase r1 r) x
  | stk => exact h
end

/-! ### for -/
def forD (tgt : D → Env → Option Env) (body : Env → Dr → SO) : List D → Env → Dr → SO
  | [], ρ, S => .nx ρ S
  | d :: ds, ρ, S => match tgt d ρ with
    | none => .stk
    | some ρ1 => match body ρ1 S with
      | .nx ρ2 S2 => forD tgt body ds ρ2 S2
      | .ct ρ2 S2 => forD tgt body ds ρ2 S2
      | .bk ρ2 S2 => .nx ρ2 S2
      | o => o
def sFor (fi : Env → Dr → Out (List D)) (tgt : D → Env → Option Env) (body : Env → Dr → SO) : Env → Dr → SO := fun ρ S => (fi ρ S).so ρ fun ds S1 => forD tgt body ds ρ S1
section
variable {X : Cx} {W : WX} {B : Bs} {bs : Hp × Hp} {Hs Hf H : Hp} {ρ : Env} {S : Dr} {σ : L2.St} {tg a b e : Expr} {sts : List Stmt} {fi : Env → Dr → Out (List D)} {fc : Env → Dr → Out Bool} {g : Env → Dr → SO} {tgt : D → Env → Option Env} {t : TG} {ix : List Nat} {pos : Pos}
theorem js_for (hp : PassesOwn (model X.prog X.w) X.A X.env X.xe) (hc : X.calm = true) (hi : JI X W B false tg a fi) (hg : JG X B tg t ix tgt) (hb : JB X W B sts g) (hs : ∀ x, foldedSetIterable a X.env x = pure x := by intro _; rfl) :
    JS X W B (.For tg a sts [] pos) (sFor fi tgt g) := by
  obtain ⟨wi, pw, qw⟩ := hi
  refine JS.mk (ps_for hp hc pw hg.1 pss_W hs) fun bs σ H ρ S Hf D r h => ?_
  refine qw bs σ H ρ S Hf _ r ?_
  unfold sFor at h
  cases q : fi ρ S with
  | stk => rw [q] at h; exact h
  | exc C fs S1 =>
    rw [q] at h
    exact fun d Hf1 H1 n dr x => h σ d Hf1 H1 (r.next n dr) x
  | ok ds S1 =>
    rw [q] at h
    have h : SPost B W bs D (forD tgt g ds ρ S1) := h
    intro J H1 Hf1 r1 n1 ⟨G, Y, w, hG, hY⟩
    refine for_it w (fun i σ H => ∃ ρ S Hf, R B (Hf1, bs.2) Hf ρ S σ H ∧ SPost B W bs D (forD tgt g (ds.drop i) ρ S)) ⟨ρ, S1, Hf1, r1.base, h⟩ (fun i σ H _ ⟨ρ, S, Hf, r, _⟩ => hG Hf H ρ S σ (R.rebase r1 r) r.exb fun z => nomatch z)
      (fun i x σ H H' hi ⟨ρ, S, Hf, r, k⟩ y => ?_) fun σ H ⟨ρ, S, Hf, r, k⟩ => ?_
    · obtain ⟨d, Hf', hd, n, dr, z⟩ := hY i Hf H ρ S σ x H' hi (R.rebase r1 r) r.exb (fun z => nomatch z) y
      have e : ds.drop i = d :: ds.drop (i + 1) := by
        obtain ⟨hl, e⟩ := List.getElem?_eq_some_iff.mp hd
        rw [← e]; exact (List.getElem_cons_drop hl).symm
      rw [e] at k
      unfold forD at k
      cases qg : tgt d ρ with
      | none => rw [qg] at k; exact k.elim
      | some ρ1 =>
        rw [qg] at k
        dsimp only at k
        refine hg.2 _ σ H' ρ S Hf' x d ρ1 _ (r.next n dr) z qg fun σ' r' _ _ => ?_
        refine hb.go _ σ' H' ρ1 S Hf' _ r' ?_
        cases qb : g ρ1 S with
        | nx ρ2 S2 => rw [qb] at k; exact fun σ2 Hf2 H2 r2 => ⟨ρ2, S2, Hf2, r2, k⟩
        | ct ρ2 S2 => rw [qb] at k; exact fun σ2 Hf2 H2 r2 => ⟨ρ2, S2, Hf2, r2, k⟩
        | bk ρ2 S2 => rw [qb] at k; exact fun σ2 Hf2 H2 r2 => k σ2 Hf2 H2 (R.rebase r1 r2)
        | rt e S2 => rw [qb] at k; exact fun v Hf2 H2 n2 d2 z2 => k v Hf2 H2 (Nx.rebase r1 n2) d2 z2
        | exc C fs ρ2 S2 => rw [qb] at k; exact fun σ2 d2 Hf2 H2 r2 x2 => k σ2 d2 Hf2 H2 (R.rebase r1 r2) x2
        | stk => rw [qb] at k; exact k
    · rw [List.drop_length] at k
      exact k σ Hf H (R.rebase r1 r)
end
end Dn

set_option Elab.async false
set_option linter.all false
set_option maxRecDepth 100000
set_option maxHeartbeats 4000000
namespace Dn
open PySem PySem.Spec PyProof.Rows L2

/-! ### list comprehensions -/
abbrev W0 : WX := fun _ _ _ _ => False
def tWB (X : Cx) (scope : Scope) (e : Expr) : TE := fun σ H Q => ∀ (s0 : Shared) (H0 : Hp) (C : Addr) (cl : List (Str × Addr)) (fp : List Addr) (pins : List (Addr × Obj)) (s : Shared),
  Inv (X.blk s0 H0 scope (compEnvC scope cl C X.env) fp) pins σ H s → wpAny (model X.prog X.w) X.A (eval e (compEnvC scope cl C X.env)) (EP (X.blk s0 H0 scope (compEnvC scope cl C X.env) fp) pins σ Q) (fun _ _ => False) s
def tWBT (X : Cx) (scope : Scope) (e : Expr) : TT := fun σ H Q => ∀ (s0 : Shared) (H0 : Hp) (C : Addr) (cl : List (Str × Addr)) (fp : List Addr) (pins : List (Addr × Obj)) (s : Shared),
  Inv (X.blk s0 H0 scope (compEnvC scope cl C X.env) fp) pins σ H s → wpAny (model X.prog X.w) X.A (isTrue e (compEnvC scope cl C X.env) (eval e (compEnvC scope cl C X.env))) (TP (X.blk s0 H0 scope (compEnvC scope cl C X.env) fp) pins σ Q) (fun _ _ => False) s
def JEB (X : Cx) (scope : Scope) (B : Bs) (e : Expr) (f : Env → Dr → Out E) : Prop := ∀ (s0 : Shared) (H0 : Hp) (C : Addr) (cl : List (Str × Addr)) (fp : List Addr), JE (X.blk s0 H0 scope (compEnvC scope cl C X.env) fp) W0 B e f
def JTB (X : Cx) (scope : Scope) (B : Bs) (e : Expr) (f : Env → Dr → Out Bool) : Prop := ∀ (s0 : Shared) (H0 : Hp) (C : Addr) (cl : List (Str × Addr)) (fp : List Addr), JT (X.blk s0 H0 scope (compEnvC scope cl C X.env) fp) W0 B e f
/-- a clause's tests -/
def JTs (X : Cx) (scope : Scope) (B : Bs) (ifs : List Expr) (f : Env → Dr → Out Bool) : Prop :=
  ∃ tt, (∀ (s0 : Shared) (H0 : Hp) (C : Addr) (cl : List (Str × Addr)) (fp : List Addr), PTs (X.blk s0 H0 scope (compEnvC scope cl C X.env) fp) ifs tt) ∧
    ∀ (bs : Hp × Hp) (σ : L2.St) (H : Hp) (ρ : Env) (S : Dr) (Hf : Hp) (Q : Bool → Hp → Prop), R B bs Hf ρ S σ H → EPost B W0 Hf σ H trel (f ρ S) Q → tt σ H Q
def fYes : Env → Dr → Out Bool := fun _ S => .ok true S
/-- a comprehension's items, one by one -/
def lcD (tgt : D → Env → Option Env) (ft : Env → Dr → Out Bool) (fe : Env → Dr → Out E) (ρ : Env) : List D → Dr → Out (List D)
  | [], S => .ok [] S
  | d :: ds, S => match tgt d ρ with
    | none => .stk
    | some ρ1 => (ft ρ1 S).bind fun c S1 => if c = true then (fe ρ1 S1).bind fun e S2 => match per e with
      | none => .stk
      | some x => (lcD tgt ft fe ρ ds S2).bind fun xs S3 => .ok (x :: xs) S3
      else lcD tgt ft fe ρ ds S1
def wipeE (ρ : Env) : List Nat → Env
  | [] => ρ
  | v :: vs => (wipeE ρ vs).set v none
def noExc {α : Type} : Out α → Out α
  | .ok a S => .ok a S
  | _ => .stk
def fLc (fi : Env → Dr → Out (List D)) (tgt : D → Env → Option Env) (ft : Env → Dr → Out Bool) (fe : Env → Dr → Out E) (vs : List Nat) : Env → Dr → Out E := fun ρ S => (fi ρ S).bind fun ds S1 => (noExc (lcD tgt ft fe (wipeE ρ vs) ds S1)).bind fun xs S2 => if xs.length ≤ sizeLine then .ok (.n xs) S2 else .stk

section
variable {X : Cx} {W : WX} {B : Bs} {bs : Hp × Hp} {Hs Hf H : Hp} {ρ : Env} {S : Dr} {σ : L2.St} {scope : Scope} {e c : Expr} {fe : Env → Dr → Out E} {fc : Env → Dr → Out Bool}
theorem jts_nil : JTs X scope B [] fYes := ⟨tYes, fun _ _ _ _ _ => pts_nil, fun bs σ H ρ S Hf Q r h => EPost.nowT r h⟩
theorem jts_one (h : JTB X scope B c fc) : JTs X scope B [c] fc := ⟨tWBT X scope c, fun s0 H0 C cl fp => pts_one ⟨fun pins s σ H Q I q => q s0 H0 C cl fp pins s I⟩, fun bs σ H ρ S Hf Q r q s0 H0 C cl fp pins s I => (h s0 H0 C cl fp).go bs σ H ρ S Hf Q r q pins s I⟩
theorem wipeE_length (ρ : Env) : ∀ vs, (wipeE ρ vs).length = ρ.length
  | [] => rfl
  | v :: vs => by unfold wipeE; rw [List.length_set, wipeE_length ρ vs]
theorem wipeE_some {ρ : Env} {j : Nat} {o : O} : ∀ {vs : List Nat}, (wipeE ρ vs)[j]? = some (some o) → ρ[j]? = some (some o) ∧ j ∉ vs
  | [], h => ⟨h, by simp⟩
  | v :: vs, h => by
    unfold wipeE at h
    rcases set_some h with ⟨_, q, _⟩ | ⟨ne, q⟩
    · cases q
    · obtain ⟨h1, h2⟩ := wipeE_some q
      exact ⟨h1, by simp [ne, h2]⟩
theorem wipe_get {σ : L2.St} {j : Nat} : ∀ {vs : List Nat}, j ∉ vs → (wipe σ vs)[j]? = σ[j]?
  | [], _ => rfl
  | v :: vs, h => by
    unfold wipe
    rw [List.getElem?_set_ne (fun q => h (by simp [q]))]
    exact wipe_get fun q => h (List.mem_cons_of_mem _ q)
theorem R.wipe (r : R B bs Hf ρ S σ H) (vs : List Nat) : R B bs Hf (wipeE ρ vs) S (wipe σ vs) H :=
  ⟨r.ex, r.exb, r.fr, r.nd, r.go, r.h0, r.drw, by rw [wipeE_length, wipe_length]; exact r.len, fun i o h => by
    obtain ⟨h1, h2⟩ := wipeE_some h
    obtain ⟨v, e, s⟩ := r.sl i o h1
    exact ⟨v, by rw [wipe_get h2]; exact e, s⟩, fun i j oi oj a hi hj wi wj ei ej => by
    obtain ⟨h1, h2⟩ := wipeE_some hi
    obtain ⟨h3, h4⟩ := wipeE_some hj
    rw [wipe_get h2] at ei
    rw [wipe_get h4] at ej
    exact r.inj i j oi oj a h1 h3 wi wj ei ej⟩
theorem wipe_eq {σ σ' : L2.St} {ix : List Nat} : ∀ {vs : List Nat}, σ'.length = σ.length → (∀ j, j ∉ ix → σ'[j]? = σ[j]?) → (∀ i ∈ ix, i ∈ vs) → L2.wipe σ' vs = L2.wipe σ vs := fun {vs} hl hu hs => by
  apply List.ext_getElem?
  intro j
  by_cases hj : j ∈ vs
  · have aux : ∀ (τ : L2.St) (ws : List Nat), j ∈ ws → (L2.wipe τ ws)[j]? = if j < τ.length then some none else none := fun τ ws => by
      induction ws with
      | nil => intro q; cases q
      | cons w ws ih =>
        intro q
        unfold L2.wipe
        rw [List.getElem?_set]
        by_cases e : w = j
        · rw [if_pos e, wipe_length]
          subst e
          split <;> rfl
        · rw [if_neg e]
          exact ih (by rcases List.mem_cons.mp q with z | z; exact (e z.symm).elim; exact z)
    rw [aux σ' vs hj, aux σ vs hj, hl]
  · rw [wipe_get hj, wipe_get hj]
    exact hu j fun m => hj (hs j m)
theorem wipe_idem {σ : L2.St} {vs : List Nat} : L2.wipe (L2.wipe σ vs) vs = L2.wipe σ vs := wipe_eq (wipe_length _ _) (fun j hj => wipe_get hj) fun _ h => h
/-- an object that the state does not know is changed -/
theorem R.updX (r : R B bs Hf ρ S σ H) {p : Addr} {o : HO} (h1 : Hf p = none) (h2 : bs.2 p = none) (h3 : ∀ (i : Nat) oi, ρ[i]? = some (some oi) → oi.own = true → σ[i]? ≠ some (some (V.ref p))) : R B bs Hf ρ S σ (upd H p o) := by
  obtain ⟨n1, n2⟩ := r.ne0 p h2
  refine ⟨fun a u e => ?_, r.exb, r.fr, r.nd, fun a u e m1 m2 => ?_, r.h0, ⟨?_, r.drw.cl, ?_, r.drw.ne⟩, r.len, fun i oi hi => ?_, r.inj⟩
  · rw [upd_ne (fun q => by rw [q, h1] at e; cases e)]; exact r.ex a u e
  · rw [upd_ne (fun q => by rw [q, h2] at e; cases e)]; exact r.go a u e m1 m2
  · rw [upd_ne (Ne.symm n1)]; exact r.drw.dr
  · rw [upd_ne (Ne.symm n2)]; exact r.drw.rs
  · obtain ⟨v, e, s⟩ := r.sl i oi hi
    refine ⟨v, e, ?_⟩
    cases oi with
    | v d => exact s
    | l ds =>
      obtain ⟨b, vs, rfl, k1, k2, k3, k4⟩ := s
      exact ⟨b, vs, rfl, by rw [upd_ne (show b ≠ p from fun q => h3 i _ hi rfl (by rw [← q]; exact e))]; exact k1, k2, k3, k4⟩
    | d ds =>
      obtain ⟨b, vs, rfl, k1, k2, k3, k4⟩ := s
      exact ⟨b, vs, rfl, by rw [upd_ne (show b ≠ p from fun q => h3 i _ hi rfl (by rw [← q]; exact e))]; exact k1, k2, k3, k4⟩
    | lt ds => exact s
    | ld ds => exact s
    | x C fs => exact s
    | ob C fs =>
      obtain ⟨rfl, dx, vs, k1, k2, k3, k4⟩ := s
      exact ⟨rfl, dx, vs, by rw [upd_ne (show B.me ≠ p from fun q => h3 i _ hi rfl (by rw [← q]; exact e))]; exact k1, k2, k3, k4⟩
theorem Nx.updX {Hf1 H1 : Hp} (n : Nx B Hf1 H1 Hf H) {p : Addr} {o : HO} (h1 : Hf p = none) (h2 : H1 p = none) : Nx B Hf1 H1 Hf (upd H p o) :=
  ⟨n.ex, fun a u e => by rw [upd_ne (fun q => by rw [q, h1] at e; cases e)]; exact n.exf a u e, n.fr, fun a u e m1 m2 => by rw [upd_ne (fun q => by rw [q, h2] at e; cases e)]; exact n.go a u e m1 m2, n.nd⟩
theorem lc_read {tg elt : Expr} {own : List (Str × Nat)} {fi : Env → Dr → Out (List D)} {tgt : D → Env → Option Env} {t : TG} {ix : List Nat} {wi : TI} {tt : TT}
    (qw : ∀ (bs : Hp × Hp) (σ : L2.St) (H : Hp) (ρ : Env) (S : Dr) (Hf : Hp) (P : It → Hp → Prop), R B bs Hf ρ S σ H → IPost B W bs true ρ σ Hf H (fi ρ S) P → wi σ H P)
    (qt : ∀ (bs : Hp × Hp) (σ : L2.St) (H : Hp) (ρ : Env) (S : Dr) (Hf : Hp) (Q : Bool → Hp → Prop), R B bs Hf ρ S σ H → EPost B W0 Hf σ H trel (fc ρ S) Q → tt σ H Q)
    (hg : ∀ (s : Shared) (H : Hp) (C : Addr) (cl : List (Str × Addr)) (fp : List Addr), JG (X.blk s H scope (compEnvC scope cl C X.env) fp) B tg t ix tgt) (he : JEB X scope B elt fe) (hix : ∀ i ∈ ix, i ∈ own.map (·.2))
    {Q : VK} (r : R B bs Hf ρ S σ H) (h : EPost B W Hf σ H (erel B) (fLc fi tgt fc fe (own.map (·.2)) ρ S) Q) : tLc wi t tt (tWB X scope elt) (own.map (·.2)) σ H Q := by
  refine qw bs σ H ρ S Hf _ r ?_
  unfold fLc at h
  cases q : fi ρ S with
  | stk => rw [q] at h; exact h
  | exc C fs S1 => rw [q] at h; exact h
  | ok ds S1 =>
    rw [q] at h
    intro J H1 Hf1 r1 n1 ⟨G, Y, w, hG, hY⟩ D hD
    have h : EPost B W Hf σ H (erel B) ((noExc (lcD tgt fc fe (wipeE ρ (own.map (·.2))) ds S1)).bind fun xs S2 => if xs.length ≤ sizeLine then .ok (.n xs) S2 else .stk) Q := h
    cases ql : lcD tgt fc fe (wipeE ρ (own.map (·.2))) ds S1 with
    | stk => rw [ql] at h; exact h.elim
    | exc C fs S2 => rw [ql] at h; exact h.elim
    | ok all Sz =>
      rw [ql] at h
      by_cases hz : all.length ≤ sizeLine
      · have h : EPost B W Hf σ H (erel B) (if all.length ≤ sizeLine then .ok (.n all) Sz else .stk) Q := h
        rw [if_pos hz] at h
        have D0 : bs.2 D = none := r1.free0 hD
        have Df1 : Hf1 D = none := r1.freeH hD
        obtain ⟨nd1, nd2⟩ := r1.dr_ne hD
        have nDo : ∀ (i : Nat) oi, (wipeE ρ (own.map (·.2)))[i]? = some (some oi) → oi.own = true → (L2.wipe σ (own.map (·.2)))[i]? ≠ some (some (V.ref D)) := fun i oi hi w e => by
          obtain ⟨a, u, e1, e2, _⟩ := (r1.wipe (own.map (·.2))).own_at hi w
          rw [e] at e1
          cases e1
          rw [hD] at e2
          cases e2
        generalize hρw : wipeE ρ (own.map (·.2)) = ρw at ql nDo
        have rw1 : R B bs Hf1 ρw S1 (L2.wipe σ (own.map (·.2))) H1 := hρw ▸ r1.wipe _
        refine lc_it w (fun i H => ∃ S Hf vs acc xs, R B bs Hf ρw S (L2.wipe σ (own.map (·.2))) H ∧ Nx B Hf1 H1 Hf H ∧ H D = some (.lst vs) ∧ RepL B.K B.dr Hf vs acc ∧ Hf D = none ∧ lcD tgt fc fe ρw (ds.drop i) S = .ok xs Sz ∧ acc ++ xs = all)
          ⟨S1, Hf1, [], [], all, rw1.updX Df1 D0 nDo, rw1.nx0.updX Df1 hD, upd_same, .nil, Df1, ql, rfl⟩ (fun i H _ ⟨S, Hf, vs, acc, xs, r, n, _⟩ => hG Hf H ρw S _ r n.ex fun _ => n.go) (fun i x H H' hi ⟨S, Hf, vs, acc, xs, r, n, eD, l, fD, el, ea⟩ y => ?_) fun H ⟨S, Hf, vs, acc, xs, r, n, eD, l, fD, el, ea⟩ => ?_
        · obtain ⟨d, Hf', hd, n', dr', z⟩ := hY i Hf H ρw S _ x H' hi r n.ex (fun _ => n.go) y
          have e : ds.drop i = d :: ds.drop (i + 1) := by
            obtain ⟨hl, e⟩ := List.getElem?_eq_some_iff.mp hd
            rw [← e]; exact (List.getElem_cons_drop hl).symm
          rw [e] at el
          unfold lcD at el
          cases qg : tgt d ρw with
          | none => rw [qg] at el; cases el
          | some ρ1 =>
            rw [qg] at el
            dsimp only at el
            -- D at each step
            have keepD : ∀ {Ha Hb Hfa Hfb : Hp} {u}, Nx B Hfa Ha Hfb Hb → Ha D = some u → Hfa D = none → Hb D = some u ∧ Hfb D = none := fun {Ha Hb Hfa Hfb u} m e1 e2 => by
              refine ⟨m.go _ _ e1 nd1 nd2, ?_⟩
              cases q : Hfb D with
              | none => rfl
              | some v =>
                rcases m.fr _ _ q with z | z
                · rw [e2] at z; cases z
                · rw [e1] at z; cases z
            obtain ⟨eD', fD'⟩ := keepD n' eD fD
            refine (hg X.s_0 (fun _ => none) 0 [] []).2 bs (L2.wipe σ (own.map (·.2))) H' ρw S Hf' x d ρ1 _ (r.next n' dr') z qg ?_
            intro σ2 r2 l2 u2
            refine ⟨(wipe_eq l2 u2 hix).trans wipe_idem, ?_⟩
            refine qt bs σ2 H' ρ1 S Hf' _ r2 ?_
            cases qc : fc ρ1 S with
            | stk => rw [qc] at el; cases el
            | exc C fs S2 => rw [qc] at el; cases el
            | ok c S2 =>
              rw [qc] at el
              intro v2 Hf2 H2 n2 d2 z2
              have z2 : c = v2 := z2
              subst z2
              have r3 := r2.next n2 d2
              obtain ⟨eD2, fD2⟩ := keepD n2 eD' fD'
              cases c with
              | false =>
                have el : lcD tgt fc fe ρw (ds.drop (i + 1)) S2 = .ok xs Sz := el
                have m := n'.trans n2
                exact ⟨S2, Hf2, vs, acc, xs, r.next m d2, n.trans m, eD2, l.mono m.ex, fD2, el, ea⟩
              | true =>
                have el : ((fe ρ1 S2).bind fun e S2 => match per e with
                  | none => Out.stk
                  | some x => (lcD tgt fc fe ρw (ds.drop (i + 1)) S2).bind fun xs S3 => .ok (x :: xs) S3) = .ok xs Sz := el
                show tWB X scope elt σ2 H2 _
                intro s0 H0 C cl fp pins s I
                refine (he s0 H0 C cl fp).go bs σ2 H2 ρ1 S2 Hf2 _ r3 ?_ pins s I
                cases qe : fe ρ1 S2 with
                | stk => rw [qe] at el; cases el
                | exc C fs S3 => rw [qe] at el; cases el
                | ok e1 S3 =>
                  rw [qe] at el
                  intro v Hf3 H3 n3 d3 z3
                  have el : (match per e1 with
                    | none => Out.stk
                    | some x => (lcD tgt fc fe ρw (ds.drop (i + 1)) S3).bind fun xs S3 => .ok (x :: xs) S3) = .ok xs Sz := el
                  cases qp : per e1 with
                  | none => rw [qp] at el; cases el
                  | some xd =>
                    rw [qp] at el
                    obtain ⟨Hf4, n4, x4, d4, z4⟩ := per_ok (r3.next n3 d3) n3 z3 qp
                    have el : ((lcD tgt fc fe ρw (ds.drop (i + 1)) S3).bind fun xs S3 => .ok (xd :: xs) S3) = .ok xs Sz := el
                    cases qr : lcD tgt fc fe ρw (ds.drop (i + 1)) S3 with
                    | stk => rw [qr] at el; cases el
                    | exc C fs S4 => rw [qr] at el; cases el
                    | ok ys S4 =>
                      rw [qr] at el
                      cases el
                      obtain ⟨eD4, fD4⟩ := keepD n4 eD2 fD2
                      have m := n'.trans (n2.trans n4)
                      have hl : acc.length < sizeLine := by
                        rw [← ea] at hz
                        simp only [List.length_append, List.length_cons] at hz
                        omega
                      exact ⟨vs, eD4, by rw [l.length]; exact hl, S3, Hf4, vs ++ [v], acc ++ [xd], ys, (r.next m d4).updX fD4 D0 nDo, (n.trans m).updX fD4 hD, upd_same, (l.mono m.ex).append (.one z4), fD4, qr, by rw [← ea, List.append_assoc]; rfl⟩
        · rw [List.drop_length] at el
          cases el
          rw [List.append_nil] at ea
          subst ea
          have n2 := n1.trans n
          exact h _ Hf H n2 r.drw ⟨D, vs, rfl, eD, nd1, nd2, l, fD, n1.free r1.drw hD⟩
      · have h : EPost B W Hf σ H (erel B) (if all.length ≤ sizeLine then .ok (.n all) Sz else .stk) Q := h
        rw [if_neg hz] at h
        exact h.elim
theorem je_lc {tg iter elt : Expr} {ifs : List Expr} {own : List (Str × Nat)} {pos : Pos} {fi : Env → Dr → Out (List D)} {tgt : D → Env → Option Env} {t : TG} {ix : List Nat} (hc : X.calm = true) (hN : X.N.Nodup) (hi : JI X W B true tg iter fi) (ok : BlkOk X.N X.env.scope scope own)
    (hg : ∀ (s : Shared) (H : Hp) (C : Addr) (cl : List (Str × Addr)) (fp : List Addr), JG (X.blk s H scope (compEnvC scope cl C X.env) fp) B tg t ix tgt) (ht : JTs X scope B ifs fc) (he : JEB X scope B elt fe) (hix : ∀ i ∈ ix, i ∈ own.map (·.2) := by decide)
    (hs : ∀ x, foldedSetIterable iter X.env x = pure x := by intro _; rfl) : JE X W B (.ListComp elt [⟨tg, iter, ifs, 0⟩] scope pos) (fLc fi tgt fc fe (own.map (·.2))) := by
  obtain ⟨wi, pw, qw⟩ := hi
  obtain ⟨tt, pt, qt⟩ := ht
  exact JE.mk (pe_lc (te := tWB X scope elt) hc hN pw ok (fun s H C cl fp => (hg s H C cl fp).1) pt (fun s0 H0 C cl fp => ⟨fun pins s σ H Q I q => q s0 H0 C cl fp pins s I⟩) hs) fun bs σ H ρ S Hf Q r h => lc_read qw qt hg he hix r h
end
end Dn

set_option Elab.async false
set_option linter.all false
set_option maxRecDepth 100000
set_option maxHeartbeats 4000000
namespace Dn
open PySem PySem.Spec PyProof.Rows L2

/-! ### enumerate(tuple) -/
set_option maxHeartbeats 1000000 in
theorem enum_newB {v : Value} {o : Obj} {H : Heap → Prop} (Bg : Begins v o H) :
    Meets (Builtin.«enumerate.__new__» ⟨[.type "enumerate", v], []⟩) (fun _ R s => H s.heap ∧
      R (.ok (.ret (.ref (s.heap.push o).objs.size))) { s with heap := (s.heap.push o).push { cls := .type "enumerate", data := .fields #[.none, .bool false, .ref s.heap.objs.size, rawInt 0, .none, .none] } }) :=
  .of_wp fun prog w A R s h => by
    obtain ⟨hp, g, d, tk, os⟩ := s; obtain ⟨h1, h⟩ := h
    have hsub := sub_enumerate
    have q1 : ∀ {A' : Around} {E : Value → Shared → Prop} {Q : Value → Shared → Prop}, Q (.ref hp.objs.size) ⟨hp.push o, g, d, tk, os⟩ → wpAny (model prog w) A' (pyIter v) Q E ⟨hp, g, d, tk, os⟩ :=
      fun q => Bg.iter prog w _ _ ⟨hp, g, d, tk, os⟩ _ h1 q
    wp_walk using q1
    refine wpAny_stack_any fun st => wpAny_pure ?_
    split
    · rename_i c _ _ _ _ _
      cases (c == Value.type "enumerate")
      · wp_walk using q1
        exact ⟨_, rfl, h⟩
      · wp_walk using q1
        exact ⟨_, rfl, h⟩
    · wp_walk using q1
      exact ⟨_, rfl, h⟩
section
variable {prog : Program} {w : World} {A : Around} {E : Value → Shared → Prop} {s : Shared}
theorem enum_begins1 {v : Value} {o : Obj} {H : Heap → Prop} {Q : Value → Shared → Prop} (B : Begins v o H) (h1 : H s.heap)
    (h : ∀ h', IsEnum h' (s.heap.objs.size + 1) s.heap.objs.size 0 .none → h'.get? s.heap.objs.size = some o → h'.objs.size = s.heap.objs.size + 2 →
      (∀ b o, s.heap.get? b = some o → h'.get? b = some o) → Q (.ref (s.heap.objs.size + 1)) { s with heap := h' }) :
    wpAny (model prog w) A (call (.type "enumerate") [v]) Q E s := by
  refine callType_new F.called_enumerate (by decide) (F.typeCall_enumerate_1 _) (F.newCall_enumerate_1 _) (fun obj => F.args_object_init_2 obj _) F.entry_enumerate_new
    (enum_newB B) ⟨h1, ?_⟩
  have hz : (s.heap.push o).objs.size = s.heap.objs.size + 1 := Heap.size_push ..
  show _ ∧ _
  rw [hz]
  have he : IsEnum ((s.heap.push o).push { cls := .type "enumerate", data := .fields #[.none, .bool false, .ref s.heap.objs.size, rawInt 0, .none, .none] }) (s.heap.objs.size + 1) s.heap.objs.size 0 .none := by
    have := Heap.get?_push_size (s.heap.push o) (o := { cls := .type "enumerate", data := .fields #[.none, .bool false, .ref s.heap.objs.size, rawInt 0, .none, .none] }) rfl
    rw [hz] at this; exact this
  refine ⟨⟨_, he, rfl⟩, h _ he (Heap.get?_push_of_some _ (Heap.get?_push_size _ B.free)) (by rw [Heap.size_push, hz]) fun b o x => Heap.get?_push_of_some _ (Heap.get?_push_of_some _ x)⟩
end
/-- the tuple at a, each item in a new pair -/
def IteT (K : PySem.W.Frag) (a : Addr) : It :=
  ⟨fun i H => ∃ (xs : List V) (x : V), SqT K H a xs ∧ xs[i]? = some x, fun i H v H' => ∃ T x, v = .ref T ∧ H T = none ∧ H' = upd H T (.tup [.int (i : Nat), x]) ∧ ∀ xs, SqT K H a xs → xs[i]? = some x, fun i H => ∃ xs : List V, SqT K H a xs ∧ xs.length = i⟩
theorem turn_enumT {P : Program} {w : World} {K : PySem.W.Frag} {elts : List Expr} {kk : Nat} {tpos : Pos} (a e it : Addr) :
    Turn P w K (.Tuple elts kk tpos) (IteT K a) [e, it] e (fun i h => (∃ old, IsEnum h e it ((i : Nat) : Int) old) ∧ h.IsTupleIter it a i ∧ e ≠ it) where
  mem := by simp
  obj := fun i h st b hb => by
    obtain ⟨⟨old, he⟩, ⟨o, ho, hc, hd⟩, _⟩ := st
    have e' : b = e ∨ b = it := by simpa using hb
    rcases e' with z | z
    · rw [z]; exact ⟨_, he, fun v q => nomatch q⟩
    · rw [z]; exact ⟨o, ho, fun v q => by rw [hd] at q; cases q⟩
  keep := fun i h h' st k => let ⟨⟨old, he⟩, hi, hne⟩ := st; ⟨⟨old, k e (by simp) _ he⟩, hi.at fun o q => k it (by simp) o q, hne⟩
  item := by
    intro X hP hw hK hc i pins s σ H E I hf st hg
    subst hP hw hK
    obtain ⟨⟨old, he⟩, hit, hne⟩ := st
    obtain ⟨xs, x, hq, hx⟩ := hg
    obtain ⟨its, rv, p, hz⟩ := I.tuple hq
    obtain ⟨u, hu, ru⟩ := rv.get hx
    have hel : e < s.heap.objs.size := Heap.lt_size he
    have hil : it < s.heap.objs.size := by obtain ⟨_, q, _⟩ := hit; exact Heap.lt_size q
    have ha : s.heap.IsTuple a its.toArray := p
    have nea : e ≠ a := fun q => by
      obtain ⟨o, ho, hcl, _⟩ := ha
      rw [← q] at ho
      rw [show s.heap.get? e = _ from he] at ho
      cases ho
      exact absurd (show (Value.type "enumerate") = .type "tuple" from hcl) (by decide)
    have nia : a ≠ it := fun q => by
      obtain ⟨o, ho, hcl, _⟩ := ha
      obtain ⟨o2, ho2, hc2, _⟩ := hit
      rw [q, ho2] at ho
      cases ho
      rw [hc2] at hcl
      exact absurd hcl (by decide)
    have hlt : i < its.toArray.size := by
      have := (List.getElem?_eq_some_iff.mp hu).1
      simpa using this
    refine wpAny_pyNext_enum_itemC (Draws.tuple (prog := X.prog) (w := X.w) (A := X.A.in1) (I.ok.hd hc) it a nia its.toArray) he ⟨hit, ha⟩ hlt hne (by simp [hne, nea]) fun u' h' tk hP ho hs' hT hsz hk => ?_
    have eu : u' = u := by
      have h1 : its.toArray[i]? = some u' := hP
      have h2 : its.toArray[i]? = some u := by simpa using hu
      rw [h1] at h2; exact Option.some.inj h2
    subst eu
    obtain ⟨hit', _⟩ := hs'
    refine ⟨_, rfl, wpAny_letOwnedTupleGo_enum (s := { s with heap := h', toks := tk + 1 }) ho fun h'' he' sb => ?_⟩
    have hT2 : h''.get? s.heap.objs.size = some { cls := .type "tuple", data := .seq #[.int i tk, u'] } := (sb.2 _ (Nat.ne_of_gt hel)).trans hT
    have new : ObjOk X.prog X.w (upd H s.heap.objs.size (.tup [.int (i : Nat), x])) h'' s.heap.objs.size (.tup [.int (i : Nat), x]) :=
      ⟨by show 2 ≤ sizeLine; decide, [.int i tk, u'], .cons ⟨_, rfl⟩ (.cons ru .nil), ⟨_, hT2, rfl, _, rfl⟩⟩
    have I1 : Inv X pins σ (upd H s.heap.objs.size (.tup [.int (i : Nat), x])) { s with heap := h'', toks := tk + 1 } :=
      I.turnedNew (ch := [e, it]) (fun b ob hb q => (sb.2 b (fun z => hb (by simp [z]))).trans (hk b ob (fun z => hb (by simp [z])) (fun z => hb (by simp [z])) q)) hf (Nat.le_refl _) new
    refine ⟨.ref s.heap.objs.size, _, I1, rfl, ⟨_, x, rfl, I.hok.fresh (Nat.le_refl _), rfl, fun ys hy => by rw [I.tuple_inj hy hq]; exact hx⟩, ⟨⟨u', ?_⟩, hit'.at fun o q => (sb.2 it (Ne.symm hne)).trans q, hne⟩, fun b hb => ?_⟩
    · have e1 : ((i + 1 : Nat) : Int) = (i : Int) + 1 := by omega
      rw [e1]; exact he'
    · have hb' : b < s.heap.objs.size := by
        have e' : b = e ∨ b = it := by simpa using hb
        rcases e' with z | z
        · rw [z]; exact hel
        · rw [z]; exact hil
      rw [upd_ne (Nat.ne_of_lt hb')]
      exact (hf b hb).1
  done := by
    intro X hP hw hK hc i pins s σ H E I hf st hg
    subst hP hw hK
    obtain ⟨⟨old, he⟩, hit, hne⟩ := st
    obtain ⟨xs, hq, hx⟩ := hg
    obtain ⟨its, rv, p, hz⟩ := I.tuple hq
    obtain ⟨f0, f1, f2, f3, f4, f5⟩ := hf it (by simp)
    have hl := rv.length
    have ha : s.heap.IsTuple a its.toArray := p
    have nia : a ≠ it := fun q => by
      obtain ⟨o, ho, hcl, _⟩ := ha
      obtain ⟨o2, ho2, hc2, _⟩ := hit
      rw [q, ho2] at ho
      cases ho
      rw [hc2] at hcl
      exact absurd hcl (by decide)
    have hi : i = its.toArray.size := by simp; omega
    rw [hi] at hit
    exact (wpAny_pyNext_enum_endD (Draws.tuple (prog := X.prog) (w := X.w) (A := X.A.in1) (I.ok.hd hc) it a nia its.toArray) he ⟨hit, ha⟩ fun h' eb => ⟨rfl, I.turned (t' := s.toks) (fun b o hb q => eb b o hb q) f0 f1 f3 f4 f5⟩)
  self := fun A i s Q E st h => let ⟨⟨_, he⟩, _⟩ := st; wpAny_pyIter_enum he h
def iEnumT (K : PySem.W.Frag) (ta : TA) : TI := fun σ H R => ta σ H fun vs H1 => ∃ a xs, vs = [.ref a] ∧ SqT K H1 a xs ∧ R (IteT K a) H1
theorem pi_enumT {X : Cx} {e : Expr} {ta : TA} {p pos tpos : Pos} {elts : List Expr} {kk : Nat} (hg : Gl X "enumerate") (hm : X.mg "enumerate" = none) (ha : PA X [e] ta) (hs : starEach [e] X.env = [(false, eval e X.env)] := by exact star_1 rfl) :
    PI X (.Tuple elts kk tpos) (.Call (.Name "enumerate" p) [e] [] pos) (iEnumT X.K ta) := by
  refine ⟨fun pins s σ H R I h => ?_⟩
  refine Call_ (ld_blt I hg hm boot_enumerate (PyProof.Rows.callWith_type1 (thn (ha.run pos pins s σ H _ I h) fun us s1 ⟨vs, H1, I1, r1, q1⟩ => ?_) hs rfl))
  obtain ⟨a, xs, ex, hq, q⟩ := q1
  subst ex
  cases r1 with
  | cons r rr =>
    cases rr
    cases r
    obtain ⟨its, rv, p', hz⟩ := I1.tuple hq
    refine enum_begins1 (begins_tuple a its.toArray) p' fun h' he hit hsz hk => wpAny_pyIter_enum he ?_
    have I2 : Inv X pins σ H1 { s1 with heap := h' } := I1.kept (t' := s1.toks) hk
    refine ⟨s1.heap.objs.size + 1, [s1.heap.objs.size + 1, s1.heap.objs.size], _, _, H1, rfl, I2, turn_enumT a (s1.heap.objs.size + 1) s1.heap.objs.size, ⟨⟨.none, he⟩, ⟨_, hit, rfl, rfl⟩, Nat.succ_ne_self _⟩, fun b hb => ?_, q⟩
    have e' : b = s1.heap.objs.size + 1 ∨ b = s1.heap.objs.size := by simpa using hb
    have hle : s1.heap.objs.size ≤ b := by
      rcases e' with z | z
      · rw [z]; exact Nat.le_add_right _ _
      · rw [z]; exact Nat.le_refl _
    exact I1.fpOk hle (I1.hok.fresh hle)
theorem walk_enumT {K : PySem.W.Frag} {a : Addr} {xs : List V} : Walk (IteT K a) xs.length (fun H => SqT K H a xs) (YPair (fun i => some (.int (i : Nat))) (fun i => xs[i]?)) := by
  refine ⟨fun i _ hi q => ⟨xs, xs[i], q, by simp [hi]⟩, fun _ q => ⟨xs, q, rfl⟩, fun i H v H' _ q y => ?_⟩
  obtain ⟨T, x, h1, h2, h3, h4⟩ := y
  exact ⟨T, .int (i : Nat), x, h1, h2, h3, rfl, h4 xs q⟩
theorem walk_zipT {K : PySem.W.Frag} {a b : Addr} {xs ys : List V} {n : Nat} (hn : n = min xs.length ys.length) : Walk (RZ.ItzT K a b) n (fun H => SqT K H a xs ∧ SqT K H b ys) (YPair (fun i => xs[i]?) (fun i => ys[i]?)) := by
  subst hn
  refine ⟨fun i _ hi q => ?_, fun _ q => ⟨xs, ys, q.1, q.2, by omega⟩, fun i H v H' _ q y => ?_⟩
  · have h1 : i < xs.length := by omega
    have h2 : i < ys.length := by omega
    exact ⟨xs, ys, xs[i], ys[i], q.1, q.2, by simp [h1], by simp [h2]⟩
  · obtain ⟨T, x, z, h1, h2, h3, h4, h5⟩ := y
    exact ⟨T, x, z, h1, h2, h3, h4 xs q.1, h5 ys q.2⟩

/-! ### pairs that are walked -/
section
variable {X : Cx} {W : WX} {B : Bs} {bs : Hp × Hp} {Hs Hf H Hf1 H1 : Hp} {ρ : Env} {S : Dr} {σ : L2.St} {a b e : Expr} {es : List Expr} {fr : Env → Dr → Out (List O)} {c : Bool}
/-- an argument that is a list or a tuple, in a place where it stands -/
def itO (c : Bool) : O → Option (List D)
  | .v (.lst ds) => some ds
  | .v (.tup ds) => some ds
  | .lt ds => if c = true then some ds else none
  | _ => none
/-- the list at a stands -/
def StL (B : Bs) (c : Bool) (Hf1 H1 : Hp) (a : Addr) (vs : List V) : Prop := Hf1 a = some (.lst vs) ∨ (c = true ∧ H1 a = some (.lst vs) ∧ a ≠ B.dr ∧ a ≠ B.rs)
theorem StL.at {vs : List V} {l : Addr} (h : StL B c Hf1 H1 l vs) (r : R B bs Hf ρ S σ H) (x : Ex Hf1 Hf) (g : c = true → Go B H1 H) : SqL B.K H l vs := by
  rcases h with h | ⟨hc, h, n1, n2⟩
  · exact SqL.of (r.ex _ _ (x _ _ h))
  · exact SqL.of (g hc _ _ h n1 n2)
theorem itO_ok {v : V} {o : O} {ds : List D} (h : ArR B Hf1 H1 v o) (q : itO c o = some ds) : ∃ l vs, v = .ref l ∧ RepL B.K B.dr Hf1 vs ds ∧ ((StL B c Hf1 H1 l vs ∧ o.tu = none) ∨ (SqT B.K Hf1 l vs ∧ o.tu = some ds)) := by
  cases o with
  | v d =>
    cases d <;> simp [itO] at q
    · subst q
      cases (show Rep _ _ _ v (.tup _) from h) with
      | tup h1 l => exact ⟨_, _, rfl, l, .inr ⟨h1, rfl⟩⟩
    · subst q
      cases (show Rep _ _ _ v (.lst _) from h) with
      | lst h1 l => exact ⟨_, _, rfl, l, .inl ⟨.inl h1, rfl⟩⟩
  | lt ds =>
    simp [itO] at q
    obtain ⟨hc, q⟩ := q
    subst q
    obtain ⟨l, vs, rfl, h1, h2, h3, h4⟩ := h
    exact ⟨l, vs, rfl, h4, .inl ⟨.inr ⟨hc, h1, h2, h3⟩, rfl⟩⟩
  | _ => cases q
/-- a new pair at each turn -/
theorem wk_pair {J : It} {G : Hp → Prop} {xs ys : Nat → Option V} {ps : List D} (w : Walk J ps.length G (YPair xs ys)) (hG : ∀ Hf H ρ S σ, R B bs Hf ρ S σ H → Ex Hf1 Hf → (c = true → Go B H1 H) → G H)
    (hp : ∀ i x y, xs i = some x → ys i = some y → ∃ d d', ps[i]? = some (.tup [d, d']) ∧ Rep B.K B.dr Hf1 x d ∧ Rep B.K B.dr Hf1 y d') : Wk B bs c Hf1 H1 J ps := by
  refine ⟨G, _, w, hG, fun i Hf H ρ S σ v H' hi r x g y => ?_⟩
  obtain ⟨T, u, z, rfl, hT, rfl, hx, hy⟩ := y
  obtain ⟨d, d', e, h1, h2⟩ := hp i u z hx hy
  have n := r.newF (o := .tup [u, z]) hT
  exact ⟨_, _, e, n, r.drw.new hT n.ex, .tup (SqT.of upd_same) (.cons ((h1.mono x).mono n.ex) (.one ((h2.mono x).mono n.ex)))⟩
def enumD (ds : List D) : List D := (List.range ds.length).zipWith (fun (i : Nat) d => D.tup [.int (i : Int), d]) ds
def zipD (xs ys : List D) : List D := List.zipWith (fun x y => D.tup [x, y]) xs ys
def gEnum (c : Bool) : List O → Option (List D)
  | [o] => (itO c o).map enumD
  | _ => none
def gZip (c : Bool) : List O → Option (List D)
  | [o, o2] => match itO c o, itO c o2 with
    | some xs, some ys => if o.tu.isSome = o2.tu.isSome then some (zipD xs ys) else none
    | _, _ => none
  | _ => none
theorem zipW_get {α β γ : Type} (f : α → β → γ) : ∀ (xs : List α) (ys : List β) (i : Nat) x y, xs[i]? = some x → ys[i]? = some y → (List.zipWith f xs ys)[i]? = some (f x y) := fun xs ys i x y h1 h2 => by
  rw [List.getElem?_zipWith, h1, h2]
theorem ji_enum {p pos tpos : Pos} {elts : List Expr} {kk : Nat} (hK : X.K = B.K) (hm : X.mg "enumerate" = none) (ha : JA X W B [e] fr) (hg : Gl X "enumerate" := by rfl) (hs : starEach [e] X.env = [(false, eval e X.env)] := by exact star_1 rfl) :
    JI X W B c (.Tuple elts kk tpos) (.Call (.Name "enumerate" p) [e] [] pos) (fItC (gEnum c) fr) := by
  refine ⟨_, PI.or (pi_enum hg hm pa_W hs) (pi_enumT hg hm pa_W hs), fun bs σ H ρ S Hf P r h => ?_⟩
  have core : ∀ (tu : Bool), (∀ os S1, fr ρ S = .ok os S1 → ∀ o, os = [o] → ∀ ds, itO c o = some ds → o.tu.isSome = tu) →
      tWA X [e] σ H fun vs H1 => ∃ a xs, vs = [.ref a] ∧ (if tu then (SqT B.K H1 a xs ∧ P (IteT B.K a) H1) else (SqL B.K H1 a xs ∧ P (Ite B.K a) H1)) := fun tu ht => by
    refine ha.go bs σ H ρ S Hf _ r ?_
    unfold fItC at h
    cases q : fr ρ S with
    | stk => rw [q] at h; exact h.elim
    | exc C fs S1 => rw [q] at h; exact h
    | ok os S1 =>
      rw [q] at h
      intro vs Hf1 H1 n d z
      have h : IPost B W bs c ρ σ Hf H (Out.of (gEnum c os) S1) P := h
      cases qg : gEnum c os with
      | none => rw [qg] at h; exact h.elim
      | some ps =>
        rw [qg] at h
        have k : ∀ J, Wk B bs c Hf1 H1 J ps → P J H1 := fun J w => h J H1 Hf1 (r.next n d) n w
        unfold gEnum at qg
        split at qg
        · rename_i o
          simp only [Option.map_eq_some_iff] at qg
          obtain ⟨ds, qi, rfl⟩ := qg
          have tu_eq := ht _ _ q _ rfl _ qi
          obtain ⟨v, rfl, h1⟩ := as1 z
          obtain ⟨l, vs, rfl, rl, hh⟩ := itO_ok h1 qi
          have len : (enumD ds).length = vs.length := by unfold enumD; simp [rl.length]
          have pr : ∀ (i : Nat) x y, (some (V.int (i : Nat))) = some x → vs[i]? = some y → ∃ d d', (enumD ds)[i]? = some (.tup [d, d']) ∧ Rep B.K B.dr Hf1 x d ∧ Rep B.K B.dr Hf1 y d' := fun i x y hx hy => by
            cases hx
            obtain ⟨d, hd, zd⟩ := rl.getV hy
            have hi := (List.getElem?_eq_some_iff.mp hd).1
            exact ⟨.int i, d, zipW_get _ _ _ i i d (by rw [List.getElem?_range hi]) hd, .int _, zd⟩
          refine ⟨l, vs, rfl, ?_⟩
          rcases hh with ⟨st, et⟩ | ⟨st, et⟩
          · rw [et] at tu_eq
            cases tu_eq
            exact ⟨st.at (r.next n d) (Ex.refl _) (fun _ => Go.refl), k _ (wk_pair (by rw [len]; exact walk_enum) (fun Hf H ρ S σ r x g => st.at r x g) pr)⟩
          · rw [et] at tu_eq
            cases tu_eq
            exact ⟨ex_t n.exf st, k _ (wk_pair (by rw [len]; exact walk_enumT) (fun Hf H ρ S σ r x g => ex_t (x.trans r.ex) st) pr)⟩
        · cases qg
  rw [hK]
  by_cases ht : ∃ os S1 o ds, fr ρ S = .ok os S1 ∧ os = [o] ∧ itO c o = some ds ∧ o.tu.isSome = true
  · refine .inr ?_
    have z := core true fun os S1 q o e ds qi => by
      obtain ⟨os', S1', o', ds', q', e', qi', t'⟩ := ht
      rw [q] at q'
      cases q'
      rw [e] at e'
      cases e'
      exact t'
    exact z
  · refine .inl ?_
    have z := core false fun os S1 q o e ds qi => by
      cases t : o.tu.isSome with
      | false => rfl
      | true => exact (ht ⟨os, S1, o, ds, q, e, qi, t⟩).elim
    exact z
theorem ji_zip {p pos tpos : Pos} {elts : List Expr} {kk : Nat} (hK : X.K = B.K) (hm : X.mg "zip" = none) (ha : JA X W B [a, b] fr) (hg : Gl X "zip" := by rfl) (hs : starEach [a, b] X.env = (false, eval a X.env) :: starEach [b] X.env := by exact star_c rfl) (hpl : (backTo pos (starEach [b] X.env)).any (·.1) = false := by exact star_any rfl) :
    JI X W B c (.Tuple elts kk tpos) (.Call (.Name "zip" p) [a, b] [] pos) (fItC (gZip c) fr) :=
  ⟨_, RZ.pi_zipA hg hm pa_W hs hpl, fun bs σ H ρ S Hf P r h => by
    show tWA X [a, b] σ H fun vs H1 => _
    refine ha.it r h fun os ps S1 vs H1 Hf1 r1 n1 z q k => ?_
    rw [hK]
    unfold gZip at q
    split at q
    · rename_i o o2
      split at q
      · rename_i xs ys q1 q2
        split at q
        · rename_i ht
          cases q
          obtain ⟨v, v2, rfl, h1, h2⟩ := as2 z
          obtain ⟨l, vs, rfl, rl, hh⟩ := itO_ok h1 q1
          obtain ⟨l2, vs2, rfl, rl2, hh2⟩ := itO_ok h2 q2
          have len : (zipD xs ys).length = min vs.length vs2.length := by unfold zipD; simp [rl.length, rl2.length]
          have pr : ∀ (i : Nat) x y, vs[i]? = some x → vs2[i]? = some y → ∃ d d', (zipD xs ys)[i]? = some (.tup [d, d']) ∧ Rep B.K B.dr Hf1 x d ∧ Rep B.K B.dr Hf1 y d' := fun i x y hx hy => by
            obtain ⟨d, hd, zd⟩ := rl.getV hx
            obtain ⟨d', hd', zd'⟩ := rl2.getV hy
            exact ⟨d, d', zipW_get _ _ _ i d d' hd hd', zd, zd'⟩
          refine ⟨l, l2, vs, vs2, rfl, ?_⟩
          rcases hh with ⟨st, et⟩ | ⟨st, et⟩
          · rcases hh2 with ⟨st2, et2⟩ | ⟨st2, et2⟩
            · exact .inl ⟨st.at r1 (Ex.refl _) (fun _ => Go.refl), st2.at r1 (Ex.refl _) (fun _ => Go.refl), k _ (wk_pair (walk_zip len) (fun Hf H ρ S σ r x g => ⟨st.at r x g, st2.at r x g⟩) pr)⟩
            · rw [et, et2] at ht; cases ht
          · rcases hh2 with ⟨st2, et2⟩ | ⟨st2, et2⟩
            · rw [et, et2] at ht; cases ht
            · exact .inr ⟨ex_t r1.ex st, ex_t r1.ex st2, k _ (wk_pair (walk_zipT len) (fun Hf H ρ S σ r x g => ⟨ex_t (x.trans r.ex) st, ex_t (x.trans r.ex) st2⟩) pr)⟩
        · cases q
      · cases q
    · cases q⟩
end
end Dn

set_option Elab.async false
set_option linter.all false
set_option maxRecDepth 100000
set_option maxHeartbeats 4000000
namespace Dn
open PySem PySem.Spec PyProof.Rows L2

/-! ### while -/
def whileD (ft : Env → Dr → Out Bool) (g : Env → Dr → SO) : Nat → Env → Dr → SO
  | 0, _, _ => .stk
  | n + 1, ρ, S => (ft ρ S).so ρ fun c S1 => if c = true then match g ρ S1 with
    | .nx ρ2 S2 => whileD ft g n ρ2 S2
    | .ct ρ2 S2 => whileD ft g n ρ2 S2
    | .bk ρ2 S2 => .nx ρ2 S2
    | o => o
    else .nx ρ S1
section
variable {X : Cx} {W : WX} {B : Bs} {bs : Hp × Hp} {Hs Hf H : Hp} {ρ : Env} {S : Dr} {σ : L2.St} {c e : Expr} {es : List Expr} {sts : List Stmt} {fc : Env → Dr → Out Bool} {g : Env → Dr → SO} {fr : Env → Dr → Out (List O)} {pos : Pos}
theorem js_while (n : Nat) (hp : PassesOwn (model X.prog X.w) X.A X.env X.xe) (hc : JT X W B c fc) (hb : JB X W B sts g) : JS X W B (.While c sts [] pos) (whileD fc g n) :=
  JS.mk (ps_while hp pt_W pss_W) fun bs σ H ρ S Hf D r h => by
    refine ⟨fun m σ H => ∃ ρ S Hf, R B bs Hf ρ S σ H ∧ SPost B W bs D (whileD fc g m ρ S), ⟨n, ρ, S, Hf, r, h⟩, ?_⟩
    rintro m σ H ⟨ρ, S, Hf, r, h⟩
    cases m with
    | zero => exact h.elim
    | succ m =>
      unfold whileD at h
      refine hc.so r h fun d S1 H1 Hf1 r1 n1 q => ?_
      cases d with
      | false => exact iteF (q σ Hf1 H1 r1)
      | true =>
        refine iteT ⟨fun σ' H' => ∃ ρ S Hf, R B bs Hf ρ S σ' H' ∧ SPost B W bs D (whileD fc g m ρ S), fun σ' H' w => ⟨m, Nat.lt_succ_self m, w⟩, ?_⟩
        have q : SPost B W bs D (match g ρ S1 with
          | .nx ρ2 S2 => whileD fc g m ρ2 S2
          | .ct ρ2 S2 => whileD fc g m ρ2 S2
          | .bk ρ2 S2 => .nx ρ2 S2
          | o => o) := q
        refine hb.go bs σ H1 ρ S1 Hf1 _ r1 ?_
        cases qb : g ρ S1 with
        | nx ρ2 S2 => rw [qb] at q; exact fun σ2 Hf2 H2 r2 => ⟨ρ2, S2, Hf2, r2, q⟩
        | ct ρ2 S2 => rw [qb] at q; exact fun σ2 Hf2 H2 r2 => ⟨ρ2, S2, Hf2, r2, q⟩
        | bk ρ2 S2 => rw [qb] at q; exact q
        | rt e S2 => rw [qb] at q; exact q
        | exc C fs ρ2 S2 => rw [qb] at q; exact q
        | stk => rw [qb] at q; exact q

/-! ### defs -/
/-- the promise: n arguments; the meaning F -/
def spF (B : Bs) (n : Nat) (F : List O → Dr → Out E) : Sp := fun vs H Q E => vs.length = n ∧ ∃ os S Hf, Ex Hf H ∧ (Hf B.dr = none ∧ Hf B.rs = none) ∧ DrR B Hf S H ∧ AsR B Hf H vs os ∧ EPost B (fun c d _ H' => E c d H') Hf [] H (erel B) (F os S) Q
def fUse (n : Nat) (F : List O → Dr → Out E) (fa : Env → Dr → Out (List O)) : Env → Dr → Out E := fun ρ S => (fa ρ S).bind fun os S1 => if os.length = n then F os S1 else .stk
theorem as_len {vs : List V} {os : List O} (z : AsR B Hf H vs os) : vs.length = os.length := Paired.length z
theorem useF {n : Nat} {F : List O → Dr → Out E} {Q : VK} (r1 : R B bs Hf ρ S σ H) {vs : List V} {os : List O} (z : AsR B Hf H vs os) (hl : os.length = n) (h : EPost B W Hf σ H (erel B) (F os S) Q) : spF B n F vs H Q (WE W σ) := by
  refine ⟨by rw [as_len z, hl], os, S, Hf, r1.ex, r1.nd, r1.drw, z, ?_⟩
  cases q : F os S with
  | ok e S2 => rw [q] at h; exact h
  | exc C fs S2 => rw [q] at h; exact h
  | stk => rw [q] at h; exact h
/-- f(e, ..), f a def of the module -/
theorem je_call {n : Nat} {F : List O → Dr → Out E} {k : Nat} {f : Addr} {fd : FuncData} {ps : List Str} {x : Str} {p : Pos} (G : FnOk X.prog X.w X.K X.mg X.base (L2.CX X.prog X.w) k f fd ps (spF B n F)) (hr : Room k X.A) (hm : X.mg x = some (.ref f)) (hk : PySem.W.keepIn X.K (.ref f) = true) (hb : Binds X.K fd ps [])
    (tk : Takes X W) (ha : JA X W B (e :: es) fr) (hg : Gl X x := by rfl) (hdb : (x == ("__debug__" : Str)) = false := by decide) (he : starEach (e :: es) X.env = (false, eval e X.env) :: starEach es X.env := by exact star_c rfl) (hpl : (backTo pos (starEach es X.env)).any (·.1) = false := by exact star_any rfl) :
    JE X W B (.Call (.Name x p) (e :: es) [] pos) (fUse n F fr) :=
  JE.mk (pe_callSD (E := WE W) G hr hg hm hk hb .nil (fun σ => passAt tk σ) pa_W hdb he hpl) fun bs σ H ρ S Hf Q r h => by
    show tWA X (e :: es) σ H fun vs H1 => spF B n F (vs ++ []) H1 Q (WE W σ)
    refine ha.bind r h back_e fun os S1 vs H1 Hf1 r1 n1 z1 h1 => ?_
    split at h1
    · rename_i hl
      rw [List.append_nil]
      exact useF r1 z1 hl h1
    · exact h1.elim
/-- .. within a comprehension: nothing is raised -/
theorem takes_blk {X : Cx} : Takes X W0 := takes0
def startE (N : Nat) (os : List O) : Env := os.map some ++ List.replicate (N - os.length) none
def runF (N : Nat) (g : Env → Dr → SO) : List O → Dr → Out E := fun os S => match g (startE N os) S with
  | .nx _ S' => .ok (.v .non) S'
  | .rt e S' => .ok e S'
  | .exc C fs _ S' => .exc C fs S'
  | _ => .stk
theorem as_get : ∀ {vs : List V} {os : List O} {i : Nat} {o : O}, AsR B Hf H vs os → os[i]? = some o → ∃ v, vs[i]? = some v ∧ ArR B Hf H v o
  | _, _, _, _, .nil, e => by simp at e
  | _, _, 0, _, .cons h _, e => by simp at e; subst e; exact ⟨_, rfl, h⟩
  | _, _, i + 1, o, .cons _ l, e => by
    obtain ⟨v, h1, h2⟩ := as_get (i := i) (o := o) l (by simpa using e)
    exact ⟨v, by simpa using h1, h2⟩
theorem start_r {N : List Str} {vs : List V} {os : List O} (hx : Ex Hf H) (hn : Hf B.dr = none ∧ Hf B.rs = none) (d : DrR B Hf S H) (z : AsR B Hf H vs os) : R B (Hf, H) Hf (startE N.length os) S (L2.start N vs) H := by
  have at_ : ∀ {i : Nat} {o : O}, (startE N.length os)[i]? = some (some o) → os[i]? = some o := fun {i o} h => by
    unfold startE at h
    rw [List.getElem?_append] at h
    split at h
    · rw [List.getElem?_map] at h
      cases e : os[i]? with
      | none => rw [e] at h; cases h
      | some o' => rw [e] at h; cases h; rfl
    · rw [List.getElem?_replicate] at h
      split at h
      · cases h
      · cases h
  refine ⟨hx, Ex.refl _, fun a o h => .inl h, hn, Go.refl, ⟨⟨_, d.dr⟩, _, d.rs⟩, d, by unfold startE L2.start; simp [as_len z], fun i o h => ?_, fun i j oi oj a hi hj wi wj _ _ => ?_⟩
  · have h1 := at_ h
    obtain ⟨v, e, s⟩ := as_get z h1
    refine ⟨v, ?_, ?_⟩
    · unfold L2.start
      have hl := (List.getElem?_eq_some_iff.mp e).1
      rw [List.getElem?_append_left (by rw [List.length_map]; exact hl), List.getElem?_map, e]
      rfl
    · cases o with
      | v d => exact s
      | lt ds => exact s
      | ld ds => exact s
      | l ds => exact s.elim
      | d ds => exact s.elim
      | x C fs => exact s.elim
      | ob C fs => exact s.elim
  · obtain ⟨v, e, s⟩ := as_get z (at_ hi)
    cases oi with
    | v d => cases wi
    | lt d => cases wi
    | ld d => cases wi
    | l d => exact s.elim
    | d d => exact s.elim
    | x C fs => exact s.elim
    | ob C fs => exact s.elim
/-- a def keeps the promise of its meaning -/
theorem jf_mk {P : Program} {w : World} {K : PySem.W.Frag} {mg : Str → Option Value} {base : Heap} {x qual : Str} {st : Stmt} {f : Addr} {fd : FuncData} {N ps : List Str} {k : Nat} {g : Env → Dr → SO} (F : Fun K x qual st f fd) (Sc : FnScope N ps (defScope st))
    (hbody : ∀ (cdv : Value) (A : Around) (outer : List PySem.Env) (s : Shared) (H : Hp) (E : XK), Room k (A.deeper (envOfC qual (defScope st) s.heap.objs.size f cdv)) →
      JB (cxOf (L2.CX P w) P w K mg base N qual (defScope st) f cdv A outer s H E) (fun cls d _ H => E cls d H) B (defBody st) g) : FnOk P w K mg base (L2.CX P w) (k + 1) f fd ps (spF B ps.length (runF N.length g)) := by
  refine F.okX Sc (fun vs H Q E h => h.1) fun cdv A outer s H vs Q E hr h => ?_
  obtain ⟨_, os, S, Hf, hx, hn, d, z, q⟩ := h
  refine ⟨tWSs _ (defBody st), pss_W, ?_⟩
  refine (hbody cdv A outer s H E hr).go (Hf, H) (L2.start N vs) H (startE N.length os) S Hf _ (start_r hx hn d z) ?_
  unfold runF at q
  cases qg : g (startE N.length os) S with
  | nx ρ' S' => rw [qg] at q; exact fun σ' Hf' H' r' => q .non Hf' H' r'.whole r'.drw Rep.non
  | rt e S' => rw [qg] at q; exact fun v Hf' H' n d z => q v Hf' H' n d z
  | exc C fs ρ' S' => rw [qg] at q; exact fun σ' dd Hf' H' r' x => q dd Hf' H' r'.whole r'.drw x
  | bk ρ' S' => rw [qg] at q; exact q.elim
  | ct ρ' S' => rw [qg] at q; exact q.elim
  | stk => rw [qg] at q; exact q.elim
end

/-! ### raise -/
/-- the promise of an exception's __init__ that keeps its arguments under the names -/
def spX (C : Addr) (names : List Str) : Sp := fun vs H Q _ => ∃ a ys, vs = .ref a :: ys ∧ ys.length = names.length ∧ H a = some (exo a C none) ∧ ∀ (d : Addr) (H2 : Hp), H d = none → H2 a = some (exo a C (some d)) → H2 d = some (exd d (names.zip ys).reverse) →
  (∀ b o, b ≠ a → H b = some o → H2 b = some o) → Q .non H2
def sRaise (C : Addr) (names : List Str) (fr : Env → Dr → Out (List O)) : Env → Dr → SO := fun ρ S => (fr ρ S).so ρ fun os S1 => match vals os with
  | some ds => if ds.length = names.length then .exc C (names.zip ds).reverse ρ S1 else .stk
  | none => .stk
section
variable {H : Hp}
theorem RepF.append {K : PySem.W.Frag} {dr : Addr} : ∀ {vs ws : List (Str × V)} {ds fs : List (Str × D)}, RepF K dr H vs ds → RepF K dr H ws fs → RepF K dr H (vs ++ ws) (ds ++ fs)
  | _, _, _, _, .nil, m => m
  | _, _, _, _, .cons h l, m => .cons h (l.append m)
theorem RepF.rev {K : PySem.W.Frag} {dr : Addr} : ∀ {vs : List (Str × V)} {ds : List (Str × D)}, RepF K dr H vs ds → RepF K dr H vs.reverse ds.reverse
  | _, _, .nil => .nil
  | _, _, .cons h l => by
    rw [List.reverse_cons, List.reverse_cons]
    exact l.rev.append (.cons h .nil)
theorem RepF.zip {K : PySem.W.Frag} {dr : Addr} : ∀ (ns : List Str) {vs : List V} {ds : List D}, RepL K dr H vs ds → RepF K dr H (ns.zip vs) (ns.zip ds)
  | [], _, _, _ => by simp; exact .nil
  | _ :: _, _, _, .nil => by simp; exact .nil
  | n :: ns, _, _, .cons h l => .cons h (RepF.zip ns l)
end
section
variable {X : Cx} {W : WX} {B : Bs} {bs : Hp × Hp} {Hs Hf H : Hp} {ρ : Env} {S : Dr} {σ : L2.St} {e : Expr} {es : List Expr} {fr : Env → Dr → Out (List O)} {D : Ends}
theorem JA.so {k : List O → Dr → SO} {P : List V → Hp → Prop} (ha : JA X W B es fr) (r : R B bs Hf ρ S σ H) (h : SPost B W bs D ((fr ρ S).so ρ k))
    (hk : ∀ os S1 vs H1 Hf1, R B bs Hf1 ρ S1 σ H1 → Nx B Hf H Hf1 H1 → AsR B Hf1 H1 vs os → SPost B W bs D (k os S1) → P vs H1) : tWA X es σ H P := by
  refine ha.go bs σ H ρ S Hf P r ?_
  cases q : fr ρ S with
  | ok e1 S1 =>
    rw [q] at h
    exact fun v Hf1 H1 n d z => hk e1 S1 v H1 Hf1 (r.next n d) n z h
  | exc C fs S1 =>
    rw [q] at h
    exact fun d Hf1 H1 n dr x => h σ d Hf1 H1 (r.next n dr) x
  | stk => rw [q] at h; exact h
theorem js_raise {C fI : Addr} {k : Nat} {fd : FuncData} {ps names : List Str} {x : Str} {p pos pos' : Pos} (T : OexC X.K C) (iC : PySem.W.findIn X.K (.ref C) "__init__" = some (some (.ref fI))) (tI : PySem.W.typeIn X.K (.ref fI) = some (.type "function"))
    (F1 : FnOk X.prog X.w X.K X.mg X.base CX0 k fI fd ps (spX C names)) (hr : Room (k + 1) X.A) (hb : Binds X.K fd ps []) (hm : X.mg x = some (.ref C)) (hc : X.calm = true) (tk : Takes X W) (hsz : names.length ≤ 1000) (ha : JA X W B (e :: es) fr) (hg : Gl X x := by rfl)
    (hdb : (x == ("__debug__" : Str)) = false := by decide) (he : starEach (e :: es) X.env = (false, eval e X.env) :: starEach es X.env := by exact star_c rfl) (hpl : (backTo pos (starEach es X.env)).any (·.1) = false := by exact star_any rfl) :
    JS X W B (.Raise (some (.Call (.Name x p) (e :: es) [] pos)) none pos') (sRaise C names fr) :=
  JS.mk (ps_raise hc tk (pmk_oex T iC tI F1 hr hb .nil pass0 hg hm pa_W hdb he hpl)) fun bs σ H ρ S Hf D r h => by
    show tWA X (e :: es) σ H fun vs H1 => _
    refine ha.so r h fun os S1 vs H1 Hf1 r1 n1 z1 q => ?_
    cases qv : vals os with
    | none => rw [qv] at q; exact q.elim
    | some ds =>
      rw [qv] at q
      dsimp only at q
      split at q
      · rename_i hl
        have l := vals_ok z1 qv
        refine ⟨by rw [l.length, hl]; exact hsz, fun a ha => ?_⟩
        obtain ⟨na1, na2⟩ := r1.dr_ne ha
        refine ⟨a, vs, by rw [List.append_nil], by rw [l.length, hl], upd_same, fun d H2 hd h1 h2 h3 => ⟨rfl, d, _, h1, h2, ?_, ?_⟩⟩
        · cases e : H1 d with
          | none => rfl
          | some o => rw [upd_ne (ne_of_none e ha)] at hd; rw [e] at hd; cases hd
        · have nda : d ≠ a := fun q => by rw [q, upd_same] at hd; cases hd
          have hd1 : H1 d = none := by rw [upd_ne nda] at hd; exact hd
          have k : Ex H1 (upd (del H2 a) d (.xd (names.zip vs).reverse)) := fun b o hb => by
            have nb : b ≠ a := ne_of_none hb ha
            rw [upd_ne (ne_of_none hb hd1), del_ne nb]
            exact h3 b o nb (by rw [upd_ne nb]; exact hb)
          have n2 : Nx B Hf1 H1 Hf1 (upd (del H2 a) d (.xd (names.zip vs).reverse)) := ⟨Ex.refl _, r1.ex.trans k, fun _ _ z => .inl z, Go.of_ex k, r1.nd⟩
          have d2 : DrR B Hf1 S1 (upd (del H2 a) d (.xd (names.zip vs).reverse)) := ⟨k _ _ r1.drw.dr, r1.drw.cl, k _ _ r1.drw.rs, r1.drw.ne⟩
          exact q σ (some d) Hf1 _ (r1.next n2 d2) ⟨d, _, rfl, upd_same, r1.freeH hd1, (RepF.zip names l).rev⟩
      · exact q.elim
end
end Dn

set_option Elab.async false
set_option linter.all false
set_option maxRecDepth 100000
set_option maxHeartbeats 4000000
namespace Dn
open PySem PySem.Spec PyProof.Rows L2

/-! ### try .. except X as e -/
abbrev Bs.exc (B : Bs) (a dd C : Addr) : Bs := { B with ex := a, xd := dd, xc := C }
def noX (ρ : Env) : Bool := ρ.all fun o => match o with
  | some (.x _ _) => false
  | _ => true
theorem noX_get {ρ : Env} (h : noX ρ = true) {i : Nat} {C : Addr} {fs : List (Str × D)} (e : ρ[i]? = some (some (.x C fs))) : False := by
  have m := List.mem_of_getElem? e
  have := List.all_eq_true.mp h _ m
  cases this
/-- behind the suite: the name is gone -/
def unX (i : Nat) : SO → SO
  | .nx ρ S => if noX (ρ.set i none) = true then .nx (ρ.set i none) S else .stk
  | .rt e S => .rt e S
  | .bk ρ S => if noX (ρ.set i none) = true then .bk (ρ.set i none) S else .stk
  | .ct ρ S => if noX (ρ.set i none) = true then .ct (ρ.set i none) S else .stk
  | _ => .stk
def sTry (i : Nat) (mt : Addr → Option Bool) (gb gs : Env → Dr → SO) : Env → Dr → SO := fun ρ S => match gb ρ S with
  | .exc C fs ρ1 S1 => match mt C with
    | some true => if noX ρ1 = true ∧ i < ρ1.length then unX i (gs (ρ1.set i (some (.x C fs))) S1) else .stk
    | some false => .exc C fs ρ1 S1
    | none => .stk
  | o => o
section
variable {W : WX} {B : Bs} {bs : Hp × Hp} {Hs Hf H : Hp} {ρ : Env} {S : Dr} {σ : L2.St} {a dd C : Addr} {fv : List (Str × V)} {fs : List (Str × D)}
theorem R.toX (r : R B bs Hf ρ S σ H) (hx : noX ρ = true) {i : Nat} (hi : i < ρ.length) (hd : H dd = some (.xd fv)) (hf : Hf dd = none) (l : RepF B.K B.dr Hf fv fs) : R (B.exc a dd C) (bs.1, upd bs.2 dd (.xd fv)) Hf (ρ.set i (some (.x C fs))) S (σ.set i (some (.ref a))) H := by
  have n1 : dd ≠ B.dr := fun q => by rw [q, r.drw.dr] at hd; cases hd
  have n2 : dd ≠ B.rs := fun q => by rw [q, r.drw.rs] at hd; cases hd
  have e0 : ∀ b u, b ≠ dd → (upd bs.2 dd (.xd fv)) b = some u → bs.2 b = some u := fun b u n e => by rw [upd_ne n] at e; exact e
  refine ⟨r.ex, r.exb, fun b o h => ?_, r.nd, fun b o h m1 m2 => ?_, ⟨?_, ?_⟩, ⟨r.drw.dr, r.drw.cl, r.drw.rs, r.drw.ne⟩, by rw [List.length_set, List.length_set]; exact r.len, fun j oj hj => ?_, fun j k oj ok b hj hk wj wk ej ek => ?_⟩
  · rcases r.fr b o h with q | q
    · exact .inl q
    · by_cases e : b = dd
      · subst e; rw [hf] at h; cases h
      · right; show upd bs.2 dd (.xd fv) b = none; rw [upd_ne e]; exact q
  · by_cases e : b = dd
    · subst e
      have h : upd bs.2 b (.xd fv) b = some o := h
      rw [upd_same] at h
      cases h
      exact hd
    · exact r.go b o (e0 b o e h) m1 m2
  · obtain ⟨⟨o1, h1⟩, _⟩ := r.h0
    exact ⟨o1, by show upd bs.2 dd (.xd fv) B.dr = _; rw [upd_ne (Ne.symm n1)]; exact h1⟩
  · obtain ⟨_, o1, h1⟩ := r.h0
    exact ⟨o1, by show upd bs.2 dd (.xd fv) B.rs = _; rw [upd_ne (Ne.symm n2)]; exact h1⟩
  · rcases set_some hj with ⟨rfl, e, _⟩ | ⟨ne, hj⟩
    · cases e
      exact ⟨.ref a, by rw [List.getElem?_set_self (by rw [← r.len]; exact hi)], rfl, rfl, n1, n2, fv, upd_same, l⟩
    · obtain ⟨v, e, s⟩ := r.sl j oj hj
      refine ⟨v, by rw [List.getElem?_set_ne (Ne.symm ne)]; exact e, ?_⟩
      have nd : ∀ {b u}, H b = some u → u ≠ .xd fv → b ≠ dd := fun {b u} h1 h2 q => by rw [q, hd] at h1; exact h2 (Option.some.inj h1).symm
      cases oj with
      | v d => exact s
      | l ds =>
        obtain ⟨b, vs, rfl, k1, k2, k3, k4⟩ := s
        exact ⟨b, vs, rfl, k1, k2, k3, by show upd bs.2 dd (.xd fv) b = none; rw [upd_ne (nd k1 (by intro z; cases z))]; exact k4⟩
      | d ds =>
        obtain ⟨b, vs, rfl, k1, k2, k3, k4⟩ := s
        exact ⟨b, vs, rfl, k1, k2, k3, by show upd bs.2 dd (.xd fv) b = none; rw [upd_ne (nd k1 (by intro z; cases z))]; exact k4⟩
      | lt ds =>
        obtain ⟨b, vs, rfl, k1, k2, k3, k4⟩ := s
        exact ⟨b, vs, rfl, by show upd bs.2 dd (.xd fv) b = _; rw [upd_ne (nd (r.go b _ k1 k2 k3) (by intro z; cases z))]; exact k1, k2, k3, k4⟩
      | ld ds =>
        obtain ⟨b, vs, rfl, k1, k2, k3, k4⟩ := s
        exact ⟨b, vs, rfl, by show upd bs.2 dd (.xd fv) b = _; rw [upd_ne (nd (r.go b _ k1 k2 k3) (by intro z; cases z))]; exact k1, k2, k3, k4⟩
      | x C fs => exact (noX_get hx hj).elim
      | ob C fs =>
        obtain ⟨rfl, dx, vs, k1, k2, k3, k4⟩ := s
        exact ⟨rfl, dx, vs, k1, k2, k3, by show upd bs.2 dd (.xd fv) B.me = none; rw [upd_ne (nd k1 (by intro z; cases z))]; exact k4⟩
  · have own : ∀ {m : Nat} {om : O}, (ρ.set i (some (.x C fs)))[m]? = some (some om) → om.own = true → m ≠ i ∧ ρ[m]? = some (some om) := fun {m om} hm wm => by
      rcases set_some hm with ⟨rfl, e2, _⟩ | ⟨ne, hm⟩
      · cases e2; cases wm
      · exact ⟨ne, hm⟩
    obtain ⟨m1, hj'⟩ := own hj wj
    obtain ⟨m2, hk'⟩ := own hk wk
    rw [List.getElem?_set_ne (Ne.symm m1)] at ej
    rw [List.getElem?_set_ne (Ne.symm m2)] at ek
    exact r.inj j k oj ok b hj' hk' wj wk ej ek
theorem upd_sub (r : R B bs Hf ρ S σ H) (hd : H dd = some (.xd fv)) : ∀ b o, bs.2 b = some o → upd bs.2 dd (.xd fv) b = some o := fun b o h => by
  by_cases e : b = dd
  · subst e
    have n1 : b ≠ B.dr := fun q => by rw [q, r.drw.dr] at hd; cases hd
    have n2 : b ≠ B.rs := fun q => by rw [q, r.drw.rs] at hd; cases hd
    have := r.go b o h n1 n2
    rw [hd] at this
    cases this
    exact upd_same
  · rw [upd_ne e]; exact h
theorem upd_none {H : Hp} {b d : Addr} {o : HO} (h : upd H d o b = none) : H b = none ∧ b ≠ d := by
  by_cases e : b = d
  · subst e; rw [upd_same] at h; cases h
  · exact ⟨by rw [upd_ne e] at h; exact h, e⟩
theorem Nx.ofX (r : R B bs Hf ρ S σ H) (hd : H dd = some (.xd fv)) {Hf1 H1 : Hp} (n : Nx (B.exc a dd C) bs.1 (upd bs.2 dd (.xd fv)) Hf1 H1) : Nx B bs.1 bs.2 Hf1 H1 :=
  ⟨n.ex, n.exf, fun b o h => (n.fr b o h).imp id fun q => (upd_none q).1, fun b o h m1 m2 => n.go b o (upd_sub r hd b o h) m1 m2, n.nd⟩
theorem DrR.ofX {Hf1 H1 : Hp} {S1 : Dr} (d : DrR (B.exc a dd C) Hf1 S1 H1) : DrR B Hf1 S1 H1 := ⟨d.dr, d.cl, d.rs, d.ne⟩
theorem ER.ofX {Hf1 H1 : Hp} {v : V} {e : E} (z : ER (B.exc a dd C) (upd bs.2 dd (.xd fv)) Hf1 H1 v e) : ER B bs.2 Hf1 H1 v e := by
  cases e with
  | n ds => obtain ⟨x, vs, h1, h2, h3, h4, h5, h6, h7⟩ := z; exact ⟨x, vs, h1, h2, h3, h4, h5, h6, (upd_none h7).1⟩
  | nd ds => obtain ⟨x, vs, h1, h2, h3, h4, h5, h6, h7⟩ := z; exact ⟨x, vs, h1, h2, h3, h4, h5, h6, (upd_none h7).1⟩
  | _ => exact z
theorem R.ofX (r : R B bs Hf ρ S σ H) (hd : H dd = some (.xd fv)) {Hf1 H1 : Hp} {ρ1 : Env} {S1 : Dr} {σ1 : L2.St} {i : Nat} (r1 : R (B.exc a dd C) (bs.1, upd bs.2 dd (.xd fv)) Hf1 ρ1 S1 σ1 H1) (hx : noX (ρ1.set i none) = true) :
    R B bs Hf1 (ρ1.set i none) S1 (σ1.set i none) H1 := by
  have at_ : ∀ {j : Nat} {oj : O}, (ρ1.set i none)[j]? = some (some oj) → j ≠ i ∧ ρ1[j]? = some (some oj) := fun {j oj} h => by
    rcases set_some h with ⟨_, e, _⟩ | ⟨ne, h⟩
    · cases e
    · exact ⟨ne, h⟩
  refine ⟨r1.ex, r1.exb, fun b o h => (r1.fr b o h).imp id fun q => (upd_none q).1, r1.nd, fun b o h m1 m2 => r1.go b o (upd_sub r hd b o h) m1 m2, r.h0, r1.drw.ofX, by rw [List.length_set, List.length_set]; exact r1.len, fun j oj hj => ?_, fun j k oj ok b hj hk wj wk ej ek => ?_⟩
  · obtain ⟨ne, hj'⟩ := at_ hj
    obtain ⟨v, e, s⟩ := r1.sl j oj hj'
    refine ⟨v, by rw [List.getElem?_set_ne (Ne.symm ne)]; exact e, ?_⟩
    cases oj with
    | v d => exact s
    | l ds => obtain ⟨b, vs, h1, h2, h3, h4, h5⟩ := s; exact ⟨b, vs, h1, h2, h3, h4, (upd_none h5).1⟩
    | d ds => obtain ⟨b, vs, h1, h2, h3, h4, h5⟩ := s; exact ⟨b, vs, h1, h2, h3, h4, (upd_none h5).1⟩
    | lt ds =>
      obtain ⟨b, vs, h1, h2, h3⟩ := s
      have h2 : upd bs.2 dd (.xd fv) b = some (.lst vs) := h2
      refine ⟨b, vs, h1, ?_, h3⟩
      rw [upd_ne (fun q => by rw [q, upd_same] at h2; cases h2)] at h2
      exact h2
    | ld ds =>
      obtain ⟨b, vs, h1, h2, h3⟩ := s
      have h2 : upd bs.2 dd (.xd fv) b = some (.dK vs) := h2
      refine ⟨b, vs, h1, ?_, h3⟩
      rw [upd_ne (fun q => by rw [q, upd_same] at h2; cases h2)] at h2
      exact h2
    | x C fs => exact (noX_get hx hj).elim
    | ob C fs => obtain ⟨h1, dx, vs, h2, h3, h4, h5⟩ := s; exact ⟨h1, dx, vs, h2, h3, h4, (upd_none h5).1⟩
  · obtain ⟨m1, hj'⟩ := at_ hj
    obtain ⟨m2, hk'⟩ := at_ hk
    rw [List.getElem?_set_ne (Ne.symm m1)] at ej
    rw [List.getElem?_set_ne (Ne.symm m2)] at ek
    exact r1.inj j k oj ok b hj' hk' wj wk ej ek
end
section
variable {X : Cx} {W : WX} {B : Bs} {x n : Str} {c : Value} {i : Nat} {body suite : List Stmt} {b₀ : Stmt} {np pos pos' : Pos} {gb gs : Env → Dr → SO} {mt : Addr → Option Bool}
theorem js_try (i : Nat) (hs : X.stack = X.env :: X.outer) (hf : X.env.frame = some X.env.locals) (hN : X.N.Nodup) (hi : X.N[i]? = some n) (hln : X.env.kindOf n = some .local) (hc : Names X x c) (tk : Takes X W) (hmt : ∀ C b, mt C = some b → PySem.W.exmOne X.K (.ref C) c = some b)
    (hb : ∀ (W' : WX) (pn : List (Addr × Obj)) (xe : Value → Shared → Prop), Takes (X.tr pn xe) W' → PassesOwn (model X.prog X.w) X.A X.env xe → JB (X.tr pn xe) W' B body gb)
    (hsu : ∀ (a : Addr) (oe : Obj) (dd C : Addr) (pn : List (Addr × Obj)), Zc (.ref C) (some dd) oe → (∃ vs, oe.data = .fields vs) → JB (X.suite a ((a, oe) :: pn)) W0 (B.exc a dd C) (b₀ :: suite) gs) :
    JS X W B (.Try body [.ExceptHandler (some (.Name x np)) (some n) (b₀ :: suite) pos'] [] [] pos) (sTry i mt gb gs) :=
  JS.mk (ps_try_as (tb := fun W' D σ H => ∀ (pn : List (Addr × Obj)) (xe : Value → Shared → Prop), Takes (X.tr pn xe) W' → PassesOwn (model X.prog X.w) X.A X.env xe → tWSs (X.tr pn xe) body D σ H)
      (ts := fun a cls d D σ H => ∀ (oe : Obj) (pn : List (Addr × Obj)), Zc cls d oe → (∃ vs, oe.data = .fields vs) → tWSs (X.suite a ((a, oe) :: pn)) (b₀ :: suite) D σ H) hs hf hN hi hln hc tk
      (fun W' pn xe t p => ⟨fun pins s σ H D I q => q pn xe t p pins s I⟩) (fun a oe cls d pn z f => ⟨fun pins s σ H D I q => q oe pn z f pins s I⟩)) fun bs σ H ρ S Hf D r h => by
    intro pn xe tk' hp
    refine (hb _ pn xe tk' hp).go bs σ H ρ S Hf D r ?_
    unfold sTry at h
    cases q : gb ρ S with
    | nx ρ1 S1 => rw [q] at h; exact h
    | rt e S1 => rw [q] at h; exact h
    | bk ρ1 S1 => rw [q] at h; exact h
    | ct ρ1 S1 => rw [q] at h; exact h
    | stk => rw [q] at h; exact h
    | exc C fs ρ1 S1 =>
      rw [q] at h
      dsimp only at h
      intro σ1 d Hf1 H1 r1 x1
      cases qm : mt C with
      | none => rw [qm] at h; exact h.elim
      | some b =>
        refine ⟨b, hmt C b qm, fun hbt a na => ?_, fun hbf => ?_⟩
        · subst hbt
          rw [qm] at h
          dsimp only at h
          split at h
          · rename_i hx
            obtain ⟨dd, fv, rfl, hd, hfd, l⟩ := x1
            intro oe pn' z f
            refine (hsu a oe dd C pn' z f).go (bs.1, upd bs.2 dd (.xd fv)) _ H1 _ S1 Hf1 _ (r1.toX hx.1 hx.2 hd hfd l) ?_
            cases qs : gs (ρ1.set i (some (.x C fs))) S1 with
            | nx ρ2 S2 =>
              rw [qs] at h
              unfold unX at h
              dsimp only at h
              split at h
              · rename_i hn; exact fun σ2 Hf2 H2 r2 => h _ Hf2 H2 (R.ofX r1 hd r2 hn)
              · exact h.elim
            | bk ρ2 S2 =>
              rw [qs] at h
              unfold unX at h
              dsimp only at h
              split at h
              · rename_i hn; exact fun σ2 Hf2 H2 r2 => h _ Hf2 H2 (R.ofX r1 hd r2 hn)
              · exact h.elim
            | ct ρ2 S2 =>
              rw [qs] at h
              unfold unX at h
              dsimp only at h
              split at h
              · rename_i hn; exact fun σ2 Hf2 H2 r2 => h _ Hf2 H2 (R.ofX r1 hd r2 hn)
              · exact h.elim
            | rt e S2 =>
              rw [qs] at h
              exact fun v Hf2 H2 n2 d2 z2 => h v Hf2 H2 (Nx.ofX r1 hd n2) d2.ofX (ER.ofX z2)
            | exc C2 fs2 ρ2 S2 => rw [qs] at h; exact h.elim
            | stk => rw [qs] at h; exact h.elim
          · exact h.elim
        · subst hbf
          rw [qm] at h
          exact h σ1 d Hf1 H1 r1 x1
/-- e.f in the suite -/
def fXf (i : Nat) (ok : Addr → Bool) (f : Str) : Env → Dr → Out E := fun ρ S => match ρ[i]? with
  | some (some (.x C fs)) => if ok C = true then match fs.lookup f with
    | some d => .ok (.v d) S
    | none => .stk else .stk
  | _ => .stk
theorem RepF.lookup {K : PySem.W.Frag} {dr : Addr} {H : Hp} (f : Str) : ∀ {vs : List (Str × V)} {ds : List (Str × D)} {d : D}, RepF K dr H vs ds → ds.lookup f = some d → ∃ v, vs.lookup f = some v ∧ Rep K dr H v d
  | _, _, _, .nil, q => by simp at q
  | _, _, _, .cons (k := k) h l, q => by
    rw [List.lookup_cons] at q ⊢
    cases e : f == k with
    | true => rw [e] at q; cases q; exact ⟨_, rfl, h⟩
    | false => rw [e] at q; exact l.lookup f q
theorem je_xf (i : Nat) {a dd C : Addr} {oe : Obj} {pn : List (Addr × Obj)} {x f : Str} {p pos : Pos} {ok : Addr → Bool} (T : ∀ C, ok C = true → XfC X.K C ∧ PySem.W.findIn X.K (.ref C) f = some none)
    (hz : Zc (.ref C) (some dd) oe) (hf : ∃ vs, oe.data = .fields vs) (hN : X.N[i]? = some x := by rfl) (hv : Vis X.env.scope x := by first | exact Or.inl rfl | exact Or.inr (Or.inl rfl) | exact Or.inr (Or.inr rfl))
    (hd : (x == ("__debug__" : Str)) = false := by decide) (hcd : (x == ("__classdict__" : Str)) = false := by decide) (hb : attributeBase (.Name x p) f X.env (eval (.Name x p) X.env) = eval (.Name x p) X.env := by rfl) :
    JE (X.suite a ((a, oe) :: pn)) W0 (B.exc a dd C) (.Attribute (.Name x p) f pos) (fXf i ok f) := by
  by_cases hok : ok C = true
  · obtain ⟨T1, T2⟩ := T C hok
    refine JE.mk (pe_xf T1 T2 hz hf (pe_var (X := X.suite a ((a, oe) :: pn)) (i := i) hN hv hd hcd) hb) fun bs σ H ρ S Hf Q r h => ?_
    unfold fXf at h
    split at h
    · rename_i C' fs e
      obtain ⟨v, e2, rfl, rfl, n1, n2, fv, h1, l⟩ := r.sl i _ e
      rw [if_pos hok] at h
      split at h
      · rename_i d ql
        obtain ⟨u, lu, z⟩ := RepF.lookup f l ql
        exact ⟨_, e2, rfl, rfl, dd, fv, u, rfl, r.go _ _ h1 n1 n2, lu, EPost.now r h z⟩
      · exact h.elim
    · exact h.elim
  · refine .of ?_
    intro bs σ H ρ S Hf Q r h
    unfold fXf at h
    split at h
    · rename_i C' fs e
      obtain ⟨v, e2, rfl, rfl, _⟩ := r.sl i _ e
      rw [if_neg hok] at h
      exact h.elim
    · exact h.elim
end

/-! ### isinstance -/
def tyE : E → Option String
  | .v .non => some "NoneType"
  | .v (.bl _) => some "bool"
  | .v (.int _) => some "int"
  | .v (.str _) => some "str"
  | .v (.tup _) => some "tuple"
  | .v (.lst _) => some "list"
  | .v (.dct _) => some "dict"
  | .b _ => some "list"
  | .n _ => some "list"
  | .bd _ => some "dict"
  | .nd _ => some "dict"
  | _ => none
def isB (t c : String) : Bool := t == c || (t == "bool" && c == "int")
section
variable {X : Cx} {W : WX} {B : Bs} {bs : Hp × Hp} {Hs Hf H : Hp} {ρ : Env} {S : Dr} {σ : L2.St} {a : Expr} {fa : Env → Dr → Out E} {pos p p1 : Pos}
theorem tyT {a : Addr} {vs : List V} (h : SqT B.K H a vs) : TyX B.K H (.ref a) (.type "tuple") := by
  rcases h with (h | ⟨o, h⟩) | ⟨o, its, n, hk, hc, _⟩
  · exact .base (.tup h)
  · exact .fTuple h
  · exact .kTuple hk hc
theorem tyE_ok (r : R B bs Hf ρ S σ H) {v : V} {e : E} {t : String} (h : ER B Hs Hf H v e) (q : tyE e = some t) : TyX B.K H v (.type t) := by
  cases e with
  | v d =>
    cases d <;> simp [tyE] at q <;> subst q
    · cases h.v_ok; exact .base .non
    · cases h.v_ok; exact .base (.bl _)
    · cases h.v_ok; exact .base (.int _)
    · cases h.v_ok; exact .base (.str _)
    · cases h.v_ok with | tup h1 _ => exact tyT (ex_t r.ex h1)
    · cases h.v_ok with | lst h1 _ => exact .base (.lst (r.ex _ _ h1))
    · cases h.v_ok with | dct h1 _ => exact .base (.dK (r.ex _ _ h1))
  | b ds => simp [tyE] at q; subst q; obtain ⟨a, vs, rfl, h1, _⟩ := h; exact .base (.lst h1)
  | n ds => simp [tyE] at q; subst q; obtain ⟨a, vs, rfl, h1, _⟩ := h; exact .base (.lst h1)
  | bd ds => simp [tyE] at q; subst q; obtain ⟨a, vs, rfl, h1, _⟩ := h; exact .base (.dK h1)
  | nd ds => simp [tyE] at q; subst q; obtain ⟨a, vs, rfl, h1, _⟩ := h; exact .base (.dK h1)
def tys : List String := ["NoneType", "bool", "int", "str", "tuple", "list", "dict"]
theorem tyE_mem {e : E} {t : String} (q : tyE e = some t) : t ∈ tys := by
  unfold tyE at q
  split at q <;> simp at q <;> subst q <;> decide
theorem kitB_all : ∀ t ∈ tys, ∀ c ∈ tys.tail, kitB t c = some (isB t c) := by decide +kernel
def fIsi (c : String) (fa : Env → Dr → Out E) : Env → Dr → Out E := fun ρ S => (fa ρ S).bind fun e S1 => match tyE e with
  | some t => .ok (.v (.bl (isB t c))) S1
  | none => .stk
/-- isinstance(e, T), T a built-in type -/
theorem je_isi {x : Str} {c : String} (hK : X.K = B.K) (hm : X.mg "isinstance" = none) (ha : JE X W B a fa) (hmx : X.mg x = none) (hv : bootBuiltins x = some (.type c)) (hc : c ∈ tys.tail := by decide) (hgi : Gl X "isinstance" := by rfl) (hg : Gl X x := by rfl) (hn : x ≠ "__name__" := by decide) (hd : (x == ("__debug__" : Str)) = false := by decide)
    (hs1 : starEach (a :: [.Name x p1]) X.env = (false, eval a X.env) :: starEach [.Name x p1] X.env := by exact star_c rfl) (hpl : (backTo pos (starEach [.Name x p1] X.env)).any (·.1) = false := by exact star_any rfl) :
    JE X W B (.Call (.Name "isinstance" p) [a, .Name x p1] [] pos) (fIsi c fa) :=
  JE.mk (pe_callB call_isi hgi hm (by decide +kernel) (pa_cons pe_W (pa_cons (pe_bltn (v := .ty c) hg hmx hv rfl hn hd) pa_nil) hs1) (by decide) (by decide) hs1 hpl) fun bs σ H ρ S Hf Q r h => by
    show tW X a σ H fun x H1 => _
    refine ha.bind r h back_e fun e1 S1 v H1 Hf1 r1 n1 z1 h1 => ?_
    cases q : tyE e1 with
    | none => rw [q] at h1; exact h1.elim
    | some t =>
      rw [q] at h1
      refine ⟨v, .ty c, .type t, .type c, isB t c, rfl, .ty c, ?_, ?_, EPost.now r1 h1 (Rep.bl _)⟩
      · rw [hK]; exact tyE_ok r1 z1 q
      · exact kit_ty (kitB_all t (tyE_mem q) c hc)
def fIsi2 (c c2 : String) (fa : Env → Dr → Out E) : Env → Dr → Out E := fun ρ S => (fa ρ S).bind fun e S1 => match tyE e with
  | some t => .ok (.v (.bl (isB t c || isB t c2))) S1
  | none => .stk
/-- isinstance(e, (T, T2)) -/
theorem je_isi2 {x x2 : Str} {c c2 : String} {p2 p3 : Pos} {k1} (hK : X.K = B.K) (hm : X.mg "isinstance" = none) (ha : JE X W B a fa) (hmx : X.mg x = none) (hv : bootBuiltins x = some (.type c)) (hmx2 : X.mg x2 = none) (hv2 : bootBuiltins x2 = some (.type c2))
    (hc : c ∈ tys.tail := by decide) (hc2 : c2 ∈ tys.tail := by decide) (hgi : Gl X "isinstance" := by rfl) (hg : Gl X x := by rfl) (hg2 : Gl X x2 := by rfl) (hn : x ≠ "__name__" := by decide) (hd : (x == ("__debug__" : Str)) = false := by decide) (hn2 : x2 ≠ "__name__" := by decide) (hd2 : (x2 == ("__debug__" : Str)) = false := by decide)
    (hs0 : starEach [.Name x p1, .Name x2 p2] X.env = (false, eval (.Name x p1) X.env) :: starEach [.Name x2 p2] X.env := by exact star_c rfl) (hs1 : starEach (a :: [.Tuple [.Name x p1, .Name x2 p2] k1 p3]) X.env = (false, eval a X.env) :: starEach [.Tuple [.Name x p1, .Name x2 p2] k1 p3] X.env := by exact star_c rfl)
    (hpl : (backTo pos (starEach [.Tuple [.Name x p1, .Name x2 p2] k1 p3] X.env)).any (·.1) = false := by exact star_any rfl) :
    JE X W B (.Call (.Name "isinstance" p) [a, .Tuple [.Name x p1, .Name x2 p2] k1 p3] [] pos) (fIsi2 c c2 fa) :=
  JE.mk (pe_callB call_isiT hgi hm (by decide +kernel) (pa_cons pe_W (pa_cons (pe_tup (pa_cons (pe_bltn (v := .ty c) hg hmx hv rfl hn hd) (pa_cons (pe_bltn (v := .ty c2) hg2 hmx2 hv2 rfl hn2 hd2) pa_nil) hs0)) pa_nil) hs1) (by decide) (by decide) hs1 hpl) fun bs σ H ρ S Hf Q r h => by
    show tW X a σ H fun x H1 => _
    refine ha.bind r h back_e fun e1 S1 v H1 Hf1 r1 n1 z1 h1 => ?_
    cases q : tyE e1 with
    | none => rw [q] at h1; exact h1.elim
    | some t =>
      rw [q] at h1
      refine ⟨by show 2 ≤ sizeLine; decide, fun tp hp => ?_⟩
      have n := r1.newF (o := .tup [V.ty c, V.ty c2]) hp
      have d := r1.drw.new (o := .tup [V.ty c, V.ty c2]) hp n.ex
      have r2 := r1.next n d
      refine ⟨v, tp, [.ty c, .ty c2], .type t, [.type c, .type c2], isB t c || isB t c2, rfl, upd_same, .cons (.ty c) (.cons (.ty c2) .nil), ?_, ?_, EPost.now r2 (EPost.step back_e n d h1) (Rep.bl _)⟩
      · rw [hK]; exact tyE_ok r2 (z1.next r1 n) q
      · refine kitAny_cons (kit_ty (kitB_all t (tyE_mem q) c hc)) (fun hb => ?_) (fun hb => by rw [hb]; rfl)
        rw [hb]
        exact kitAny_cons (kit_ty (kitB_all t (tyE_mem q) c2 hc2)) (fun hb => by rw [hb]; exact kitAny_nil) (fun hb => by rw [hb]; rfl)
end
end Dn

set_option Elab.async false
set_option linter.all false
set_option maxRecDepth 100000
set_option maxHeartbeats 4000000
namespace Dn
open PySem PySem.Spec PyProof.Rows L2

/-! ### one operand -/
def gNeg : E → Option E
  | .v (.int i) => some (.v (.int (-i)))
  | _ => none
def fUn (g : E → Option E) (fa : Env → Dr → Out E) : Env → Dr → Out E := fun ρ S => (fa ρ S).bind fun x S1 => Out.of (g x) S1
section
variable {X : Cx} {W : WX} {B : Bs} {bs : Hp × Hp} {Hs Hf H : Hp} {ρ : Env} {S : Dr} {σ : L2.St} {a b c e : Expr} {es : List Expr} {fa fb fc : Env → Dr → Out E} {pos p2 : Pos} {r r' : R2} {g g' : E → E → Option E} {D : Ends}
theorem je_neg (ha : JE X W B a fa) : JE X W B (.UnaryOp .USub a pos) (fUn gNeg fa) := JE.mk (pe_un un_neg pe_W) fun bs σ H ρ S Hf Q r h => by
  show tW X a σ H fun x H1 => _
  refine ha.bind r h back_e fun e1 S1 v H1 Hf1 r1 n1 z1 h1 => ?_
  cases e1 with
  | v d =>
    cases d with
    | int i => cases z1.v_ok; exact ⟨i, rfl, EPost.now r1 h1 (Rep.int _)⟩
    | _ => exact h1.elim
  | _ => exact h1.elim

/-! ### a op b op c -/
def fChain (g g' : E → E → Option E) (fa fb fc : Env → Dr → Out E) : Env → Dr → Out E := fun ρ S => (fa ρ S).bind fun x S1 => (fb ρ S1).bind fun y S2 => match (g x y).bind E.bl? with
  | some true => (fc ρ S2).bind fun z S3 => Out.of (g' y z) S3
  | some false => .ok (.v (.bl false)) S2
  | none => .stk
/-- the first answer of a chain is told at once -/
def OpN (B : Bs) (r : R2) (g : E → E → Option E) : Prop :=
  ∀ (bs : Hp × Hp) (σ : L2.St) (H : Hp) (ρ : Env) (S : Dr) (Hf Hs1 Hs2 : Hp) (x y : V) (e1 e2 e : E) (Q : VK), R B bs Hf ρ S σ H → ER B Hs1 Hf H x e1 → ER B Hs2 Hf H y e2 → g e1 e2 = some e → (∀ b, e.bl? = some b → Q (.bl b) H) → (e.bl?).isSome = true → r x y H Q
theorem opN_I0 {g : Int → Int → V} {gd : Int → Int → Bool} (hg : ∀ i j, g i j = .bl (gd i j)) : OpN B (rI0 g) (gInt fun i j => some (.bl (gd i j))) :=
  fun bs σ H ρ S Hf Hs1 Hs2 x y e1 e2 e Q r h1 h2 q k _ => by
    obtain ⟨i, j, d, rfl, rfl, q2, rfl⟩ := gInt_inv q
    cases q2
    cases h1.v_ok
    cases h2.v_ok
    exact ⟨i, j, rfl, rfl, by rw [hg]; exact k _ rfl⟩
theorem on_lt : OpN B (rI0 fun i j => V.bl (decide (i < j))) gLt := opN_I0 fun _ _ => rfl
theorem on_le : OpN B (rI0 fun i j => V.bl (decide (i ≤ j))) gLe := opN_I0 fun _ _ => rfl
theorem on_gt : OpN B (rI0 fun i j => V.bl (decide (j < i))) gGt := opN_I0 fun _ _ => rfl
theorem on_ge : OpN B (rI0 fun i j => V.bl (decide (j ≤ i))) gGe := opN_I0 fun _ _ => rfl
theorem chain_core (hj : OpN B r g) (hj' : OpJ B r' g') (ha : JE X W B a fa) (hb : JE X W B b fb) (hc : JE X W B c fc) {Q : VK} (R0 : R B bs Hf ρ S σ H) (h : EPost B W Hf σ H (erel B) (fChain g g' fa fb fc ρ S) Q) : tChain r r' (tW X a) (tW X b) (tW X c) σ H Q := by
  show tW X a σ H fun x H1 => tW X b σ H1 fun y H2 => r x y H2 fun z H3 => ∃ k, z = .bl k ∧ (if k = true then tW X c σ H3 fun w' H4 => r' y w' H4 Q else Q (.bl false) H3)
  refine ha.bind R0 h back_e fun e1 S1 v H1 Hf1 r1 n1 z1 h1 => ?_
  refine hb.bind r1 h1 back_e fun e2 S2 v2 H2 Hf2 r2 n2 z2 h2 => ?_
  cases q : g e1 e2 with
  | none => rw [q] at h2; exact h2.elim
  | some e =>
    rw [q] at h2
    have h2 : EPost B W Hf2 σ H2 (erel B) (match e.bl? with
      | some true => (fc ρ S2).bind fun z S3 => Out.of (g' e2 z) S3
      | some false => .ok (.v (.bl false)) S2
      | none => .stk) Q := h2
    cases qb : e.bl? with
    | none => rw [qb] at h2; exact h2.elim
    | some k =>
      rw [qb] at h2
      refine hj _ _ _ _ _ _ _ _ _ _ _ _ _ _ r2 (z1.next r1 n2) z2 q (fun b hb => ?_) (by rw [qb]; rfl)
      rw [qb] at hb
      cases hb
      refine ⟨k, rfl, ?_⟩
      cases k with
      | false => exact iteF (EPost.now r2 h2 (Rep.bl false))
      | true =>
        refine iteT ?_
        have h2 : EPost B W Hf2 σ H2 (erel B) ((fc ρ S2).bind fun z S3 => Out.of (g' e2 z) S3) Q := h2
        refine hc.bind r2 h2 back_e fun e3 S3 v3 H3 Hf3 r3 n3 z3 h3 => ?_
        cases q3 : g' e2 e3 with
        | none => rw [q3] at h3; exact h3.elim
        | some e' =>
          rw [q3] at h3
          exact hj' _ _ _ _ _ _ _ _ _ _ _ _ _ _ r3 (z2.next r2 n3) z3 q3 fun v Hf' H' n d z => h3 v Hf' H' n d z
theorem je_chain {op op' : CmpOp} (ho : OpR X (compareOp op) r) (ho' : OpR X (compareOp op') r') (hj : OpN B r g) (hj' : OpJ B r' g') (ha : JE X W B a fa) (hb : JE X W B b fb) (hc : JE X W B c fc) (hm : lastMarks [op, op'] [b, c] = false := by with_unfolding_all rfl) :
    JE X W B (.Compare a [op, op'] [b, c] pos) (fChain g g' fa fb fc) := JE.mk (pe_chain ho ho' pe_W pe_W pe_W hm) fun bs σ H ρ S Hf Q r h => chain_core hj hj' ha hb hc r h
/-- as a test -/
theorem jt_chain {op op' : CmpOp} (ho : OpR X (compareOp op) r) (ho' : OpR X (compareOp op') r') (hj : OpN B r g) (hj' : OpJ B r' g') (ha : JE X W B a fa) (hb : JE X W B b fb) (hc : JE X W B c fc) (hm : lastMarks [op, op'] [b, c] = false := by with_unfolding_all rfl) :
    JT X W B (.Compare a [op, op'] [b, c] pos) (fTst (fChain g g' fa fb fc)) := JT.mk (pt_chain ho ho' pe_W pe_W pe_W hm) fun bs σ H ρ S Hf Q R0 h => by
  show tChain r r' (tW X a) (tW X b) (tW X c) σ H fun x H' => ∃ k, x = .bl k ∧ Q k H'
  refine chain_core hj hj' ha hb hc (W := W) R0 ?_
  unfold fTst at h
  cases q : fChain g g' fa fb fc ρ S with
  | stk => rw [q] at h; exact h.elim
  | exc C fs S1 => rw [q] at h; exact h
  | ok e S1 =>
    rw [q] at h
    intro v Hf1 H1 n d z
    have h : EPost B W Hf σ H trel (Out.of e.bl? S1) Q := h
    cases qb : e.bl? with
    | none => rw [qb] at h; exact h.elim
    | some k => rw [qb] at h; exact ⟨k, z.bl qb, h k Hf1 H1 n d rfl⟩

/-! ### name = [..], one line -/
theorem js_setLc (i : Nat) {y : Str} {py spos : Pos} {tg iter elt : Expr} {ifs : List Expr} {scope : Scope} {own : List (Str × Nat)} {fi : Env → Dr → Out (List Dn.D)} {tgt : Dn.D → Env → Option Env} {t : TG} {ix : List Nat} {fe : Env → Dr → Out E} {fc : Env → Dr → Out Bool} (fz : Bool)
    (hc : X.calm = true) (hN : X.N.Nodup) (hi : JI X W B true tg iter fi) (ok : BlkOk X.N X.env.scope scope own)
    (hg : ∀ (s : Shared) (H : Hp) (C : Addr) (cl : List (Str × Addr)) (fp : List Addr), JG (X.blk s H scope (compEnvC scope cl C X.env) fp) B tg t ix tgt) (ht : JTs X scope B ifs fc) (he : JEB X scope B elt fe) (hix : ∀ i ∈ ix, i ∈ own.map (·.2) := by decide)
    (hy : X.N[i]? = some y := by rfl) (hyl : X.env.scope.names.lookup y = some .local := by rfl) (hsw : swapsWith (.ListComp elt [⟨tg, iter, ifs, 0⟩] scope pos) (some (.Name y py)) spos.line X.env = pure true := by exact sw_true rfl rfl rfl (by decide +kernel))
    (hs : ∀ x, foldedSetIterable iter X.env x = pure x := by intro _; rfl) : JS X W B (.Assign [.Name y py] (.ListComp elt [⟨tg, iter, ifs, 0⟩] scope pos) spos) (if fz then sSetF i (fLc fi tgt fc fe (own.map (·.2))) else sSet i (fLc fi tgt fc fe (own.map (·.2)))) := by
  obtain ⟨wi, pw, qw⟩ := hi
  obtain ⟨tt, pt, qt⟩ := ht
  refine JS.mk (ps_setLc (te := tWB X scope elt) hc hN hy hyl hsw pw ok (fun s H C cl fp => (hg s H C cl fp).1) pt (fun s0 H0 C cl fp => ⟨fun pins s σ H Q I q => q s0 H0 C cl fp pins s I⟩) hs) fun bs σ H ρ S Hf D r h => ?_
  refine lc_read qw qt hg he hix (W := W) r ?_
  cases fz with
  | true =>
    have h : SPost B W bs D (sSetF i (fLc fi tgt fc fe (own.map (·.2))) ρ S) := h
    unfold sSetF at h
    split at h
    · rename_i hil
      cases q : fLc fi tgt fc fe (own.map (·.2)) ρ S with
      | stk => rw [q] at h; exact h.elim
      | exc C fs S1 => rw [q] at h; exact fun d Hf1 H1 n dr x => h σ d Hf1 H1 (r.next n dr) x
      | ok e S1 =>
        rw [q] at h
        intro v Hf1 H1 n d z
        have h : SPost B W bs D (match per e with
          | some d => .nx (ρ.set i (some (.v d))) S1
          | none => .stk) := h
        cases qp : per e with
        | none => rw [qp] at h; exact h.elim
        | some d' =>
          rw [qp] at h
          obtain ⟨Hf2, n2, x2, d2, z2⟩ := per_ok (r.next n d) n z qp
          exact h _ Hf2 H1 ((r.next n2 d2).store hil z2 fun w => by cases w)
    · exact h.elim
  | false =>
    have h : SPost B W bs D (sSet i (fLc fi tgt fc fe (own.map (·.2))) ρ S) := h
    unfold sSet at h
    split at h
    · rename_i hil
      cases q : fLc fi tgt fc fe (own.map (·.2)) ρ S with
      | stk => rw [q] at h; exact h.elim
      | exc C fs S1 => rw [q] at h; exact fun d Hf1 H1 n dr x => h σ d Hf1 H1 (r.next n dr) x
      | ok e S1 =>
        rw [q] at h
        intro v Hf1 H1 n d z
        have h : SPost B W bs D (match stO e with
          | some o => .nx (ρ.set i (some o)) S1
          | none => .stk) := h
        cases qp : stO e with
        | none => rw [qp] at h; exact h.elim
        | some o =>
          rw [qp] at h
          exact h _ Hf1 H1 (stO_ok r (r.next n d) hil z qp)
    · exact h.elim

theorem ER.int {v : V} {e : E} {i : Int} (h : ER B Hs Hf H v e) (q : e.int? = some i) : v = .int i := by
  cases e with
  | v d =>
    cases d <;> simp [E.int?] at q
    subst q
    cases h
    rfl
  | _ => cases q
/-! ### x[i] = e, a list of the def's own -/
def sSetIx (i : Nat) (fa fb : Env → Dr → Out E) : Env → Dr → SO := fun ρ S => (fa ρ S).so ρ fun e S1 => match per e with
  | none => .stk
  | some d => match ρ[i]? with
    | some (some (.l ds)) => (fb ρ S1).so ρ fun k S2 => match k.int? with
      | none => .stk
      | some z => match ixN ds.length z with
        | some j => .nx (ρ.set i (some (.l (ds.set j d)))) S2
        | none => .stk
    | _ => .stk
theorem js_setIx (i : Nat) {x : Str} {p pp : Pos} (ha : JE X W B a fa) (hb : JE X W B b fb) (hN : X.N[i]? = some x := by rfl) (hv : Vis X.env.scope x := by first | exact Or.inl rfl | exact Or.inr (Or.inl rfl) | exact Or.inr (Or.inr rfl)) (hd : (x == ("__debug__" : Str)) = false := by decide)
    (hcd : (x == ("__classdict__" : Str)) = false := by decide) (hs : swapsWithSole [.Subscript (.Name x p) b pp] a pos.line X.env = pure false := by rfl) (hw : swappedStores [.Subscript (.Name x p) b pp] a X.env = pure none := by rfl)
    (h1 : (assignEach [.Subscript (.Name x p) b pp] X.env).map (·.2) = [assign (.Subscript (.Name x p) b pp) X.env] := by rfl)
    (h2 : ∀ v, assign (.Subscript (.Name x p) b pp) X.env v = (do
      let ov ← holding [v] (eval (.Name x p) X.env)
      let iv ← holding [v, ov] (eval b X.env)
      standAt pp
      holding [v, ov, iv] (setItem ov iv v)
      release [v, ov, iv] []) := by intro _; rfl) :
    JS X W B (.Assign [.Subscript (.Name x p) b pp] a pos) (sSetIx i fa fb) := JS.mk (ps_asg pe_W (pg_sub (pe_var hN hv hd hcd) pe_W set_list h2) hs hw h1) fun bs σ H ρ S Hf D r h => by
  show tW X a σ H fun y H1 => tVar i σ H1 fun o H2 => tW X b σ H2 fun k H3 => rSetL o k y H3 fun H4 => D.nx σ H4
  refine ha.so r h fun e1 S1 y H1 Hf1 r1 n1 z1 q => ?_
  cases qp : per e1 with
  | none => rw [qp] at q; exact q.elim
  | some d =>
    rw [qp] at q
    obtain ⟨Hf2, n2, x2, d2, z2⟩ := per_ok r1 n1 z1 qp
    have r2 := r.next n2 d2
    dsimp only at q
    split at q
    · rename_i ds e
      obtain ⟨v, e2, s⟩ := r2.sl i _ e
      obtain ⟨l, vs, rfl, k1, k2, k3, k4⟩ := s
      refine ⟨_, e2, ?_⟩
      refine hb.so r2 q fun e3 S2 kv H3 Hf3 r3 n3 z3 q3 => ?_
      cases qk : e3.int? with
      | none => rw [qk] at q3; exact q3.elim
      | some z =>
        rw [qk] at q3
        have ek := z3.int qk
        subst ek
        dsimp only at q3
        cases qj : ixN ds.length z with
        | none => rw [show ixN ds.length z = none from qj] at q3; exact q3.elim
        | some j =>
          rw [show ixN ds.length z = some j from qj] at q3
          obtain ⟨v', e4, s'⟩ := r3.sl i _ e
          rw [e2] at e4
          cases e4
          obtain ⟨l', vs', el, m1, m2, m3, m4⟩ := s'
          cases el
          refine ⟨l, vs', z, j, rfl, rfl, m1, by rw [m2.length]; exact qj, ?_⟩
          exact q3 _ Hf3 _ (r3.mut e rfl e2 ⟨l, _, rfl, upd_same, m2.set j (z2.mono n3.ex), m3, m4⟩ rfl)
    · exact q.elim

/-! ### x op= e, ints -/
def sAug (i : Nat) (g : E → E → Option E) (fa : Env → Dr → Out E) : Env → Dr → SO := fun ρ S => match ρ[i]? with
  | some (some (.v d)) => (fa ρ S).so ρ fun e S1 => match g (.v d) e with
    | some (.v d') => .nx (ρ.set i (some (.v d'))) S1
    | _ => .stk
  | _ => .stk
def PIpJ (B : Bs) (t : TIp) (g : E → E → Option E) : Prop := ∀ (H : Hp) (Hf Hs : Hp) (x y : V) (d : Dn.D) (e : E) (d' : Dn.D) (Q : VK), Rep B.K B.dr Hf x d → ER B Hs Hf H y e → g (.v d) e = some (.v d') → (∀ v, Rep B.K B.dr Hf v d' → Q v H) → t x y H Q
theorem ipJ_I {f : Int → Int → Int} : PIpJ B (ipI f) (gInt fun i j => some (.int (f i j))) := fun H Hf Hs x y d e d' Q h1 h2 q k => by
  obtain ⟨i, j, dd, e1, rfl, q2, e3⟩ := gInt_inv q
  cases e1
  cases q2
  cases e3
  cases h1
  cases h2.v_ok
  exact ⟨i, j, rfl, rfl, k _ (.int _)⟩
theorem js_aug (i : Nat) {x : Str} {op : Operator} {ti : TIp} {pos' : Pos} (hN : X.N.Nodup) (ho : PIp X op ti) (hj : PIpJ B ti g) (ha : JE X W B a fa) (hi : X.N[i]? = some x := by rfl) (hx : Loc X.env.scope x := by first | exact .inl rfl | exact .inr rfl)
    (hf : X.fn x = true ∨ X.env.scope.names.lookup x = some .local := by first | exact .inl rfl | exact .inr rfl | assumption) : JS X W B (.AugAssign (.Name x pos') op a pos) (sAug i g fa) := JS.mk (ps_aug hN hi hx pe_W ho hf) fun bs σ H ρ S Hf D r h => by
  unfold sAug at h
  split at h
  · rename_i d e
    obtain ⟨v, e2, s⟩ := r.sl i _ e
    refine ⟨v, e2, ?_⟩
    show tW X a σ H fun y H1 => ti v y H1 fun z H2 => D.nx (σ.set i (some z)) H2
    refine ha.so r h fun e1 S1 y H1 Hf1 r1 n1 z1 q => ?_
    cases qg : g (.v d) e1 with
    | none => rw [qg] at q; exact q.elim
    | some e' =>
      cases e' with
      | v d' =>
        rw [qg] at q
        exact hj H1 Hf1 H v y d e1 d' _ (Rep.mono n1.ex s) z1 qg fun w hw => q _ Hf1 H1 (r1.store ((List.getElem?_eq_some_iff.mp e).1) hw fun w => by cases w)
      | _ => rw [qg] at q; exact q.elim
  · exact h.elim
theorem js_augAdd (i : Nat) {x : Str} {pos' : Pos} (hN : X.N.Nodup) (ha : JE X W B a fa) (hi : X.N[i]? = some x := by rfl) (hx : Loc X.env.scope x := by first | exact .inl rfl | exact .inr rfl)
    (hf : X.fn x = true ∨ X.env.scope.names.lookup x = some .local := by first | exact .inl rfl | exact .inr rfl | assumption) : JS X W B (.AugAssign (.Name x pos') .Add a pos) (sAug i gAddI fa) := js_aug i hN ip_add ipJ_I ha hi hx hf
theorem js_augSub (i : Nat) {x : Str} {pos' : Pos} (hN : X.N.Nodup) (ha : JE X W B a fa) (hi : X.N[i]? = some x := by rfl) (hx : Loc X.env.scope x := by first | exact .inl rfl | exact .inr rfl)
    (hf : X.fn x = true ∨ X.env.scope.names.lookup x = some .local := by first | exact .inl rfl | exact .inr rfl | assumption) : JS X W B (.AugAssign (.Name x pos') .Sub a pos) (sAug i gSub fa) := js_aug i hN ip_sub ipJ_I ha hi hx hf
end
end Dn

set_option Elab.async false
set_option linter.all false
set_option maxRecDepth 100000
set_option maxHeartbeats 4000000
namespace Dn
open PySem PySem.Spec PyProof.Rows L2

/-! ### the draws -/
abbrev BB (K : PySem.W.Frag) (dr rs cl : Addr) : Bs := { K := K, dr := dr, rs := rs, cl := cl }
def okS (S : Dr) (m : Int) : Prop := S.cells.length = S.rests.length ∧ 0 < S.cells.length ∧ S.cells.length ≤ 64 ∧ 0 ≤ S.turn ∧ S.turn < 33554432 ∧ 0 < m ∧ m < 1073741824
instance (S : Dr) (m : Int) : Decidable (okS S m) := by unfold okS; infer_instance
def spotS (S : Dr) : Nat := (S.turn % (S.cells.length : Int)).toNat
def mixS (S : Dr) : Int := (((S.cells.getD (spotS S) 0).fmod 2147483549 + 69621 * S.turn + 9973) ^ 3).fmod 2147483579
def againS (S : Dr) : Int := ((mixS S + 4099 * S.turn * S.turn + 71) ^ 3).fmod 2147483549
def nextV (S : Dr) (m : Int) : Int := if 0 < S.rests.getD (spotS S) 0 then (S.rests.getD (spotS S) 0).fmod m else ((againS S * 2147483423 + mixS S).fmod 4611686018427387847).fmod m
def nextS (S : Dr) (m : Int) : Dr := ⟨S.cells, S.turn + 1, if 0 < S.rests.getD (spotS S) 0 then S.rests.set (spotS S) ((S.rests.getD (spotS S) 0).fdiv m) else S.rests⟩
def nextF : List O → Dr → Out E := fun os S => match os with
  | [.v .drw, .v (.int m)] => if okS S m then .ok (.v (.int (nextV S m))) (nextS S m) else .stk
  | _ => .stk
theorem fmod_rng {a m : Int} (h : 0 < m) : 0 ≤ a.fmod m ∧ a.fmod m < m := by
  rw [Int.fmod_eq_emod_of_nonneg _ (Int.le_of_lt h)]
  exact ⟨Int.emod_nonneg _ (by omega), Int.emod_lt_of_pos _ h⟩
theorem nextV_rng {S : Dr} {m : Int} (h : 0 < m) : 0 ≤ nextV S m ∧ nextV S m < m := by
  unfold nextV
  split <;> exact fmod_rng h
theorem nextS_ok {S : Dr} {m : Int} : (nextS S m).cells.length = S.cells.length ∧ (nextS S m).rests.length = S.rests.length ∧ (nextS S m).turn = S.turn + 1 := by
  refine ⟨rfl, ?_, rfl⟩
  unfold nextS
  dsimp only
  split
  · rw [List.length_set]
  · rfl
/-- the draws' state is right, t of them done at most -/
def OkD (t : Nat) (S : Dr) : Prop := S.cells.length = S.rests.length ∧ 0 < S.cells.length ∧ S.cells.length ≤ 64 ∧ 0 ≤ S.turn ∧ S.turn ≤ (t : Int)
theorem OkD.mono {t u : Nat} {S : Dr} (h : OkD t S) (l : t ≤ u) : OkD u S := ⟨h.1, h.2.1, h.2.2.1, h.2.2.2.1, by have := h.2.2.2.2; omega⟩
theorem next_run {t : Nat} {S : Dr} {m : Int} (h : OkD t S) (ht : t < 33554432) (h0 : 0 < m) (h1 : m < 1073741824) :
    ∃ (r : Int) (S' : Dr), nextF [.v .drw, .v (.int m)] S = .ok (.v (.int r)) S' ∧ 0 ≤ r ∧ r < m ∧ OkD (t + 1) S' := by
  obtain ⟨a, b, c, d, e⟩ := h
  refine ⟨nextV S m, nextS S m, ?_, (nextV_rng h0).1, (nextV_rng h0).2, ?_⟩
  · show (if okS S m then _ else _) = _
    rw [if_pos ⟨a, b, c, d, by omega, h0, h1⟩]
  · obtain ⟨k1, k2, k3⟩ := nextS_ok (S := S) (m := m)
    exact ⟨by rw [k1, k2, a], by rw [k1]; exact b, by rw [k1]; exact c, by rw [k3]; omega, by rw [k3]; omega⟩

/-- the slots of _law_next -/
abbrev nsNext : List Str := ["_law_drawn", "_law_many", "_law_cells", "_law_turn", "_law_rests", "_law_spot", "_law_digit", "_law_mixed", "_law_again"]
end Dn

set_option Elab.async false
set_option linter.all false
set_option maxRecDepth 100000
set_option maxHeartbeats 4000000
namespace Dn
open PySem PySem.Spec PyProof.Rows L2

/-! ### the law's own plumbing -/
/-- a def of the text, by its name -/
structure FnA (K : PySem.W.Frag) (mg : Str → Option Value) (name : Str) (st : Stmt) (ps : List Str) : Type where
  f : Addr
  fd : FuncData
  m : mg name = some (.ref f)
  F : Fun K name name st f fd
  b : Binds K fd ps []
theorem FnA.k {K : PySem.W.Frag} {mg : Str → Option Value} {name : Str} {st : Stmt} {ps : List Str} (A : FnA K mg name st ps) : PySem.W.keepIn K (.ref A.f) = true := A.F.kp
def FnA.mk' {l : PySem.W.OpenLaw} {K : PySem.W.Frag} {h : Heap} {mg : Str → Option Value} (X : K.In h) (G : h.Ns mainGlobals mg) {name : Str} {st : Stmt} {ps : List Str} {f : Addr} {oc kV doc pm cdv ct : Value} {od an : Option Addr} {osl : Array (Option Value)}
    (a : PySem.W.nsIn K mainGlobals name = some (some (.ref f))) (l : K.lookup f = some ⟨oc, od, .func (PySem.W.fnOf name name (defArgs st) (defBody st) (defScope st) .none kV doc pm an cdv ct), osl⟩)
    (c : PySem.W.codeIn K cdv name = true) (k : PySem.W.keepIn K (.ref f) = true)
    (b : ∀ (kV doc pm : Value) (an : Option Addr) (cdv ct : Value) (us : List Value), us.length = ps.length → bindArgs (PySem.W.fnOf name name (defArgs st) (defBody st) (defScope st) .none kV doc pm an cdv ct) ⟨us, []⟩ = pure (ps.zip us)) : FnA K mg name st ps :=
  ⟨f, _, PySem.W.mg_of X G a, fun_mk l c k, (fun_mk (st := st) l c k).binds b⟩
/-- an exception's class of the text with its own __init__, by its name -/
structure ExA (K : PySem.W.Frag) (mg : Str → Option Value) (name qual : Str) (st : Stmt) (ps : List Str) (C : Addr) : Type where
  fI : Addr
  fd : FuncData
  m : mg name = some (.ref C)
  T : OexC K C
  xf : XfC K C
  iC : PySem.W.findIn K (.ref C) "__init__" = some (some (.ref fI))
  tI : PySem.W.typeIn K (.ref fI) = some (.type "function")
  F : Fun K "__init__" qual st fI fd
  b : Binds K fd ps []
def ExA.mk' {K : PySem.W.Frag} {h : Heap} {mg : Str → Option Value} (X : K.In h) (G : h.Ns mainGlobals mg) {name qual : Str} {st : Stmt} {ps : List Str} {C f : Addr} {oc kV doc pm cdv ct : Value} {od an : Option Addr} {osl : Array (Option Value)}
    (aC : PySem.W.nsIn K mainGlobals name = some (some (.ref C))) (iC : PySem.W.findIn K (.ref C) "__init__" = some (some (.ref f))) (tI : PySem.W.typeIn K (.ref f) = some (.type "function"))
    (l : K.lookup f = some ⟨oc, od, .func (PySem.W.fnOf "__init__" qual (defArgs st) (defBody st) (defScope st) .none kV doc pm an cdv ct), osl⟩)
    (c : PySem.W.codeIn K cdv qual = true) (k : PySem.W.keepIn K (.ref f) = true) (T : OexC K C) (xf : XfC K C)
    (b : ∀ (kV doc pm : Value) (an : Option Addr) (cdv ct : Value) (us : List Value), us.length = ps.length → bindArgs (PySem.W.fnOf "__init__" qual (defArgs st) (defBody st) (defScope st) .none kV doc pm an cdv ct) ⟨us, []⟩ = pure (ps.zip us)) : ExA K mg name qual st ps C :=
  ⟨f, _, PySem.W.mg_of X G aC, T, xf, iC, tI, fun_mk l c k, (fun_mk (st := st) l c k).binds b⟩

def cellsOf (ns : List Int) : List Int := ns.take 63 ++ (if ns.length = 0 then [0] else [])
def restOf (c : Int) : Int := if 1000000000000000000 ≤ c then c else 0
def startS (ns : List Int) : Dr := ⟨cellsOf ns, 0, (cellsOf ns).map restOf⟩
theorem startS_ok {ns : List Int} (h : ns.length ≤ 63) : OkD 0 (startS ns) := by
  refine ⟨by unfold startS; rw [List.length_map], ?_, ?_, Int.le_refl _, Int.le_refl _⟩
  · unfold startS cellsOf
    rw [List.length_append, List.length_take]
    split
    · simp
    · simp; omega
  · unfold startS cellsOf
    rw [List.length_append, List.length_take]
    split
    · simp; omega
    · simp; omega
def spDraws (K : PySem.W.Frag) : Sp := fun vs H Q _ => ∃ (a : Addr) (ns : List Int), vs = [.ref a] ∧ SqL K H a (ns.map V.int) ∧ ns.length ≤ 63 ∧ ∀ (dr rs cl : Addr) (H' : Hp), H dr = none → H rs = none → dr ≠ rs → cl ≠ dr → cl ≠ rs → Same H H' →
  H' dr = some (.lst [.ref cl, .int 0, .ref rs]) → H' cl = some (.lst ((cellsOf ns).map V.int)) → H' rs = some (.lst (((cellsOf ns).map restOf).map V.int)) → Q (.ref dr) H'
abbrev nsDraws : List Str := ["_law_script", "_law_cells", "_law_cell"]
theorem cut63 {ns : List Int} (h : ns.length ≤ 63) : cutV (ns.map V.int) none (some 63) = (ns.take 63).map V.int := by
  unfold cutV
  rw [List.length_map, HT.sIx_none, show (some (63 : Int)) = some ((63 : Nat) : Int) from rfl, HT.sIx_nat, List.drop_zero, Nat.sub_zero, Nat.min_eq_right h, List.take_of_length_le (by rw [List.length_map]; exact Nat.le_refl _), List.take_of_length_le h]
theorem yes_go {σ : L2.St} {H : Hp} {t u : Hp → Prop} (h : t H) : tYes σ H (fun b H3 => if b = true then t H3 else u H3) := by
  show if true = true then t H else u H
  rw [if_pos rfl]
  exact h
theorem ifB {b : Bool} {t u : Hp → Prop} {H : Hp} (k : b = true → t H) (l : b = false → u H) : if b = true then t H else u H := by
  cases b
  · exact l rfl
  · exact k rfl
theorem blk_of {X : Cx} {N : List Str} {sc scope : Scope} {own : List (Str × Nat)} (hN : X.N = N) (hs : X.env.scope = sc) (h : BlkOk N sc scope own) : BlkOk X.N X.env.scope scope own := by
  subst hN
  subst hs
  exact h
/-- what the law's script must do -/
def spLaw (K : PySem.W.Frag) : Sp := fun vs H Q _ => ∃ (a : Addr) (ns : List Int), vs = [.ref a] ∧ SqL K H a (ns.map V.int) ∧ ns.length ≤ 63 ∧ ∀ H', Q (.bl true) H'
/-- the locals behind the law's first statement -/
def startL (N : Nat) (ns : List Int) : Env := some (.v (.scr ns)) :: some (.v .drw) :: List.replicate (N - 2) none
/-- from the law's body behind its first statement -/
theorem law_mk {P : Program} {w : World} {K : PySem.W.Frag} {mg : Str → Option Value} {base : Heap} {st sd : Stmt} {f : Addr} {fd : FuncData} {N : List Str} {k : Nat} {g : Env → Dr → SO} {b0 : Stmt} {rest : List Stmt}
    (F : Fun K "law" "law" st f fd) (Sc : FnScope N ["_law_script"] (defScope st)) (D : FnA K mg "_law_draws" sd ["_law_script"]) (okD : FnOk P w K mg base (L2.CX P w) 1 D.f D.fd ["_law_script"] (spDraws K))
    (hb : defBody st = b0 :: rest) (hN : 2 ≤ N.length)
    (h0 : ∀ (cdv : Value) (A : Around) (outer : List PySem.Env) (s : Shared) (H : Hp) (E : XK), Room (k + 1) (A.deeper (envOfC "law" (defScope st) s.heap.objs.size f cdv)) →
      PS (cxOf (L2.CX P w) P w K mg base N "law" (defScope st) f cdv A outer s H E) b0 (tAsg (tCall (spDraws K) [] E (tCons (tVar 0) tNil)) (gName 1)))
    (hbody : ∀ (dr rs cl : Addr) (cdv : Value) (A : Around) (outer : List PySem.Env) (s : Shared) (H : Hp) (E : XK), Room (k + 1) (A.deeper (envOfC "law" (defScope st) s.heap.objs.size f cdv)) →
      JB (cxOf (L2.CX P w) P w K mg base N "law" (defScope st) f cdv A outer s H E) (fun cls d _ H => E cls d H) (BB K dr rs cl) rest g)
    (hg : ∀ ns : List Int, ns.length ≤ 63 → ∃ S', g (startL N.length ns) (startS ns) = .rt (.v (.bl true)) S') : FnOk P w K mg base (L2.CX P w) (k + 2) f fd ["_law_script"] (spLaw K) := by
  refine F.okX Sc (fun vs H Q E h => ?_) fun cdv A outer s H vs Q E hr h => ?_
  · obtain ⟨a, ns, rfl, _⟩ := h
    rfl
  obtain ⟨a, ns, rfl, hS, hl, q⟩ := h
  rw [hb]
  refine ⟨_, pss_cons (h0 cdv A outer s H E hr) pss_W, ?_⟩
  obtain ⟨n1, N2, rfl⟩ : ∃ n1 N2, N = n1 :: N2 := by cases N with
    | nil => simp at hN
    | cons n1 N2 => exact ⟨n1, N2, rfl⟩
  obtain ⟨n2, N3, rfl⟩ : ∃ n1 N3, N2 = n1 :: N3 := by cases N2 with
    | nil => simp at hN
    | cons n1 N2 => exact ⟨n1, N2, rfl⟩
  refine ⟨_, rfl, a, ns, rfl, hS, hl, fun dr rs cl H' d0 r0 ne c1 c2 sm e1 e2 e3 => ?_⟩
  let Hf : Hp := fun x => if x = dr ∨ x = rs then none else H' x
  have hf : ∀ {x}, x ≠ dr → x ≠ rs → Hf x = H' x := fun {x} a b => by
    show (if x = dr ∨ x = rs then none else H' x) = _
    rw [if_neg]
    rintro (e | e)
    · exact a e
    · exact b e
  have hfd : Hf dr = none := by show (if dr = dr ∨ dr = rs then none else H' dr) = none; rw [if_pos (.inl rfl)]
  have hfr : Hf rs = none := by show (if rs = dr ∨ rs = rs then none else H' rs) = none; rw [if_pos (.inr rfl)]
  have ex : Ex Hf H' := fun x o e => by
    by_cases q1 : x = dr
    · rw [q1, hfd] at e; cases e
    by_cases q2 : x = rs
    · rw [q2, hfr] at e; cases e
    rw [hf q1 q2] at e; exact e
  have dR : DrR (BB K dr rs cl) Hf (startS ns) H' := ⟨e1, by rw [hf c1 c2]; exact e2, e3, ne⟩
  have eH : Ex H Hf := fun x o e => by
    have q1 : x ≠ dr := fun z => by rw [z, d0] at e; cases e
    have q2 : x ≠ rs := fun z => by rw [z, r0] at e; cases e
    rw [hf q1 q2]; exact sm _ _ e
  have r : R (BB K dr rs cl) (Hf, H') Hf (startL (n1 :: n2 :: N3).length ns) (startS ns) ((L2.start (n1 :: n2 :: N3) [V.ref a]).set 1 (some (V.ref dr))) H' := by
    refine ⟨ex, Ex.refl _, fun _ _ h => .inl h, ⟨hfd, hfr⟩, Go.refl, ⟨⟨_, e1⟩, _, e3⟩, dR, ?_, fun i o h => ?_, fun i j oi oj b hi hj wi wj _ _ => ?_⟩
    · simp [startL, L2.start]
    · match i with
      | 0 => cases h; exact ⟨_, rfl, Rep.scr (ex_l eH hS)⟩
      | 1 => cases h; exact ⟨_, rfl, Rep.drw⟩
      | i + 2 =>
        have h : (List.replicate ((n1 :: n2 :: N3).length - 2) (none : Option O))[i]? = some (some o) := h
        rw [List.getElem?_replicate] at h
        split at h <;> cases h
    · match i with
      | 0 => cases hi; cases wi
      | 1 => cases hi; cases wi
      | i + 2 =>
        have h : (List.replicate ((n1 :: n2 :: N3).length - 2) (none : Option O))[i]? = some (some oi) := hi
        rw [List.getElem?_replicate] at h
        split at h <;> cases h
  refine (hbody dr rs cl cdv A outer s H E hr).go (Hf, H') _ H' _ _ Hf _ r ?_
  obtain ⟨S', e⟩ := hg ns hl
  rw [e]
  exact fun v Hf1 H1 n d z => by
    cases (show Rep K dr Hf1 v (.bl true) from z)
    exact q H1
theorem units65 {k : Nat} {A : Around} (r : Room k A) : A.units + 65 < cLine := by have := r.un; omega
section
variable {X : Cx} {W : WX} {B : Bs}
theorem je_globI' {x : Str} {i : Int} {pos : Pos} (hm : ∃ t, X.mg x = some (.int i t)) (hg : Gl X x := by rfl) (hd : (x == ("__debug__" : Str)) = false := by decide) : JE X W B (.Name x pos) (fC (.int i)) := by
  obtain ⟨t, hm⟩ := hm
  exact je_globI hm hg hd
theorem je_globS' {x : Str} {i : Str} {pos : Pos} (hm : ∃ t, X.mg x = some (.str i t)) (hg : Gl X x := by rfl) (hd : (x == ("__debug__" : Str)) = false := by decide) : JE X W B (.Name x pos) (fC (.str i)) := by
  obtain ⟨t, hm⟩ := hm
  exact je_globS hm hg hd
theorem fnok_stk {P : Program} {w : World} {K : PySem.W.Frag} {mg : Str → Option Value} {base : Heap} {f : Addr} {fd : FuncData} {ps : List Str} {n : Nat} (hn : n = ps.length) : FnOk P w K mg base (L2.CX P w) 0 f fd ps (spF B n fun _ _ => .stk) :=
  ⟨fun vs H Q E h => by rw [h.1, hn], fun A outer s H args us vs Q E _ _ _ _ h => by
    obtain ⟨_, os, S, Hf, _, _, _, _, q⟩ := h
    exact q.elim⟩
end
end Dn

set_option Elab.async false
set_option linter.all false
set_option maxRecDepth 100000
set_option maxHeartbeats 4000000
namespace Dn
open PySem PySem.Spec PyProof.Rows L2

/-! ### what a meaning ends with -/
abbrev PX := Addr → List (Str × D) → Dr → Prop
def Out.w {α : Type} (o : Out α) (P : α → Dr → Prop) (X : PX) : Prop := match o with
  | .ok a S => P a S
  | .exc C fs S => X C fs S
  | .stk => False
structure Kt where
  nx : Env → Dr → Prop
  rt : E → Dr → Prop
  bk : Env → Dr → Prop
  ct : Env → Dr → Prop
  ex : Addr → List (Str × D) → Env → Dr → Prop
def SO.w (o : SO) (K : Kt) : Prop := match o with
  | .nx ρ S => K.nx ρ S
  | .rt e S => K.rt e S
  | .bk ρ S => K.bk ρ S
  | .ct ρ S => K.ct ρ S
  | .exc C fs ρ S => K.ex C fs ρ S
  | .stk => False
abbrev noX' : PX := fun _ _ _ => False
section
variable {α β : Type} {P : α → Dr → Prop} {X : PX} {S : Dr} {ρ : Env} {K : Kt}
theorem w_bind {o : Out β} {k : β → Dr → Out α} : (o.bind k).w P X = o.w (fun b S1 => (k b S1).w P X) X := by cases o <;> rfl
theorem w_of {o : Option α} : (Out.of o S).w P X = ∃ a, o = some a ∧ P a S := by
  cases o with
  | none => exact propext ⟨fun h => h.elim, fun ⟨_, h, _⟩ => by cases h⟩
  | some a => exact propext ⟨fun h => ⟨a, rfl, h⟩, fun ⟨_, h, k⟩ => by cases h; exact k⟩
theorem w_so {o : Out α} {k : α → Dr → SO} : (o.so ρ k).w K = o.w (fun a S1 => (k a S1).w K) (fun C fs S1 => K.ex C fs ρ S1) := by cases o <;> rfl
@[simp] theorem w_ok {a : α} : (Out.ok a S).w P X = P a S := rfl
theorem Out.w.mono {o : Out α} {P' : α → Dr → Prop} {X' : PX} (h : o.w P X) (hp : ∀ a S, P a S → P' a S) (hx : ∀ C fs S, X C fs S → X' C fs S) : o.w P' X' := by
  cases o with
  | ok a S => exact hp _ _ h
  | exc C fs S => exact hx _ _ _ h
  | stk => exact h
theorem Out.w.imp {o : Out α} {P' : α → Dr → Prop} (h : o.w P X) (hp : ∀ a S, P a S → P' a S) : o.w P' X := h.mono hp fun _ _ _ z => z
theorem Out.w.of_eq {o : Out α} {a : α} {S' : Dr} (e : o = .ok a S') (h : P a S') : o.w P X := by rw [e]; exact h
end
section
variable {P : E → Dr → Prop} {Pb : Bool → Dr → Prop} {Pl : List O → Dr → Prop} {X : PX} {S : Dr} {ρ : Env} {K : Kt} {fa fb fc : Env → Dr → Out E} {ga gb gc : Env → Dr → Out Bool} {fr : Env → Dr → Out (List O)}
@[simp] theorem w_C {d : D} : (fC d ρ S).w P X = P (.v d) S := rfl
theorem w_var {i : Nat} {o : O} {e : E} (h : ρ[i]? = some (some o)) (r : readO o = some e) : (fVar i ρ S).w P X = P e S := by
  unfold fVar
  rw [h]
  show (Out.of (readO o) S).w P X = _
  rw [r]
  rfl
@[simp] theorem w_op {g : E → E → Option E} : (fOp g fa fb ρ S).w P X = (fa ρ S).w (fun x S1 => (fb ρ S1).w (fun y S2 => ∃ e, g x y = some e ∧ P e S2) X) X := by
  unfold fOp
  simp only [w_bind, w_of]
@[simp] theorem w_un {g : E → Option E} : (fUn g fa ρ S).w P X = (fa ρ S).w (fun x S1 => ∃ e, g x = some e ∧ P e S1) X := by
  unfold fUn
  simp only [w_bind, w_of]
@[simp] theorem w_call {g : List O → Option E} : (fCall g fr ρ S).w P X = (fr ρ S).w (fun x S1 => ∃ e, g x = some e ∧ P e S1) X := by
  unfold fCall
  simp only [w_bind, w_of]
@[simp] theorem w_use {n : Nat} {F : List O → Dr → Out E} : (fUse n F fr ρ S).w P X = (fr ρ S).w (fun os S1 => if os.length = n then (F os S1).w P X else False) X := by
  unfold fUse
  rw [w_bind]
  congr 1
  funext os S1
  split <;> rfl
@[simp] theorem w_nil : (aNil ρ S).w Pl X = Pl [] S := rfl
@[simp] theorem w_cons : (aCons fa fr ρ S).w Pl X = (fa ρ S).w (fun e S1 => (fr ρ S1).w (fun os S2 => Pl (toO e :: os) S2) X) X := by
  unfold aCons
  simp only [w_bind, w_ok]
@[simp] theorem w_tst : (fTst fa ρ S).w Pb X = (fa ρ S).w (fun e S1 => ∃ b, e.bl? = some b ∧ Pb b S1) X := by
  unfold fTst
  simp only [w_bind, w_of]
@[simp] theorem w_and : (fAnd ga gb ρ S).w Pb X = (ga ρ S).w (fun c S1 => if c = true then (gb ρ S1).w Pb X else Pb false S1) X := by
  unfold fAnd
  rw [w_bind]
  congr 1
  funext c S1
  split <;> rfl
@[simp] theorem w_or : (fOr ga gb ρ S).w Pb X = (ga ρ S).w (fun c S1 => if c = true then Pb true S1 else (gb ρ S1).w Pb X) X := by
  unfold fOr
  rw [w_bind]
  congr 1
  funext c S1
  split <;> rfl
@[simp] theorem w_not : (fNot ga ρ S).w Pb X = (ga ρ S).w (fun c S1 => Pb (!c) S1) X := by
  unfold fNot
  simp only [w_bind, w_ok]
@[simp] theorem w_andV : (fAndV fa fb ρ S).w P X = (fTst fa ρ S).w (fun c S1 => if c = true then (fb ρ S1).w P X else P (.v (.bl false)) S1) X := by
  unfold fAndV
  rw [w_bind]
  congr 1
  funext c S1
  split <;> rfl
@[simp] theorem w_orV : (fOrV fa fb ρ S).w P X = (fTst fa ρ S).w (fun c S1 => if c = true then P (.v (.bl true)) S1 else (fb ρ S1).w P X) X := by
  unfold fOrV
  rw [w_bind]
  congr 1
  funext c S1
  split <;> rfl
@[simp] theorem w_notV : (fNotV fa ρ S).w P X = (fTst fa ρ S).w (fun c S1 => P (.v (.bl !c)) S1) X := by
  unfold fNotV
  simp only [w_bind, w_ok]
@[simp] theorem w_if : (fIf gc fa fb ρ S).w P X = (gc ρ S).w (fun c S1 => if c = true then (fa ρ S1).w P X else (fb ρ S1).w P X) X := by
  unfold fIf
  rw [w_bind]
  congr 1
  funext c S1
  split <;> rfl
@[simp] theorem w_chain {g g' : E → E → Option E} : (fChain g g' fa fb fc ρ S).w P X = (fa ρ S).w (fun x S1 => (fb ρ S1).w (fun y S2 => ∃ b, (g x y).bind E.bl? = some b ∧ if b = true then (fc ρ S2).w (fun z S3 => ∃ e, g' y z = some e ∧ P e S3) X else P (.v (.bl false)) S2) X) X := by
  unfold fChain
  rw [w_bind]
  congr 1
  funext x S1
  rw [w_bind]
  congr 1
  funext y S2
  cases q : (g x y).bind E.bl? with
  | none => exact propext ⟨fun h => h.elim, fun ⟨_, h, _⟩ => by cases h⟩
  | some b =>
    cases b with
    | false => exact propext ⟨fun h => ⟨false, rfl, h⟩, fun ⟨_, h, k⟩ => by cases h; exact k⟩
    | true =>
      have e : ∀ o : Out E, o = ((fc ρ S2).bind fun z S3 => Out.of (g' y z) S3) → o.w P X = (fc ρ S2).w (fun z S3 => ∃ e, g' y z = some e ∧ P e S3) X := fun o h => by rw [h]; simp only [w_bind, w_of]
      have e' := e _ rfl
      exact propext ⟨fun h => ⟨true, rfl, e' ▸ h⟩, fun ⟨_, h, k⟩ => by cases h; exact e'.symm ▸ k⟩
@[simp] theorem w_none {P : Option Int → Dr → Prop} : (oNone ρ S).w P X = P none S := rfl
@[simp] theorem w_some {P : Option Int → Dr → Prop} : (oSome fa ρ S).w P X = (fa ρ S).w (fun e S1 => ∃ i, e.int? = some i ∧ P (some i) S1) X := by
  unfold oSome
  rw [w_bind]
  congr 1
  funext e S1
  cases e.int? with
  | none => exact propext ⟨fun h => h.elim, fun ⟨_, h, _⟩ => by cases h⟩
  | some i => exact propext ⟨fun h => ⟨i, rfl, h⟩, fun ⟨_, h, k⟩ => by cases h; exact k⟩
@[simp] theorem w_sl {fl fh : Env → Dr → Out (Option Int)} : (fSl fl fh fa ρ S).w P X = (fa ρ S).w (fun x S1 => (fl ρ S1).w (fun l S2 => (fh ρ S2).w (fun u S3 => ∃ e, gSl l u x = some e ∧ P e S3) X) X) X := by
  unfold fSl
  simp only [w_bind, w_of]
@[simp] theorem w_itr {c : Bool} {P : List D → Dr → Prop} : (fItr c fa ρ S).w P X = (fa ρ S).w (fun e S1 => ∃ ds, itE c e = some ds ∧ P ds S1) X := by
  unfold fItr
  simp only [w_bind, w_of]
@[simp] theorem w_itC {g : List O → Option (List D)} {P : List D → Dr → Prop} : (fItC g fr ρ S).w P X = (fr ρ S).w (fun os S1 => ∃ ds, g os = some ds ∧ P ds S1) X := by
  unfold fItC
  simp only [w_bind, w_of]
@[simp] theorem w_isi {c : String} : (fIsi c fa ρ S).w P X = (fa ρ S).w (fun e S1 => ∃ t, tyE e = some t ∧ P (.v (.bl (isB t c))) S1) X := by
  unfold fIsi
  rw [w_bind]
  congr 1
  funext e S1
  cases tyE e with
  | none => exact propext ⟨fun h => h.elim, fun ⟨_, h, _⟩ => by cases h⟩
  | some t => exact propext ⟨fun h => ⟨t, rfl, h⟩, fun ⟨_, h, k⟩ => by cases h; exact k⟩
@[simp] theorem w_isi2 {c c2 : String} : (fIsi2 c c2 fa ρ S).w P X = (fa ρ S).w (fun e S1 => ∃ t, tyE e = some t ∧ P (.v (.bl (isB t c || isB t c2))) S1) X := by
  unfold fIsi2
  rw [w_bind]
  congr 1
  funext e S1
  cases tyE e with
  | none => exact propext ⟨fun h => h.elim, fun ⟨_, h, _⟩ => by cases h⟩
  | some t => exact propext ⟨fun h => ⟨t, rfl, h⟩, fun ⟨_, h, k⟩ => by cases h; exact k⟩
end
/-! statements -/
section
variable {S : Dr} {ρ : Env} {K : Kt} {fa fb : Env → Dr → Out E} {gc : Env → Dr → Out Bool} {g1 g2 g : Env → Dr → SO} {fr : Env → Dr → Out (List O)}
@[simp] theorem w_nx : (sNx ρ S).w K = K.nx ρ S := rfl
@[simp] theorem w_seq : (sSeq g1 g2 ρ S).w K = (g1 ρ S).w { K with nx := fun ρ' S' => (g2 ρ' S').w K } := by
  unfold sSeq
  cases g1 ρ S <;> rfl
@[simp] theorem w_ret : (sRet fa ρ S).w K = (fa ρ S).w (fun e S1 => ∃ e', retE e = some e' ∧ K.rt e' S1) (fun C fs S1 => K.ex C fs ρ S1) := by
  unfold sRet
  rw [w_so]
  congr 1
  funext e S1
  cases retE e with
  | none => exact propext ⟨fun h => h.elim, fun ⟨_, h, _⟩ => by cases h⟩
  | some t => exact propext ⟨fun h => ⟨t, rfl, h⟩, fun ⟨_, h, k⟩ => by cases h; exact k⟩
@[simp] theorem w_retN : (sRetN ρ S).w K = K.rt (.v .non) S := rfl
@[simp] theorem w_drop : (sDrop fa ρ S).w K = (fa ρ S).w (fun _ S1 => K.nx ρ S1) (fun C fs S1 => K.ex C fs ρ S1) := by
  unfold sDrop
  rw [w_so]
  rfl
@[simp] theorem w_ifS : (sIf gc g1 g2 ρ S).w K = (gc ρ S).w (fun c S1 => if c = true then (g1 ρ S1).w K else (g2 ρ S1).w K) (fun C fs S1 => K.ex C fs ρ S1) := by
  unfold sIf
  rw [w_so]
  congr 1
  funext c S1
  split <;> rfl
@[simp] theorem w_brk : (sBrk ρ S).w K = K.bk ρ S := rfl
@[simp] theorem w_cnt : (sCnt ρ S).w K = K.ct ρ S := rfl
theorem w_set {i : Nat} (h : i < ρ.length) : (sSet i fa ρ S).w K = (fa ρ S).w (fun e S1 => ∃ o, stO e = some o ∧ K.nx (ρ.set i (some o)) S1) (fun C fs S1 => K.ex C fs ρ S1) := by
  unfold sSet
  rw [if_pos h, w_so]
  congr 1
  funext e S1
  cases stO e with
  | none => exact propext ⟨fun h => h.elim, fun ⟨_, h, _⟩ => by cases h⟩
  | some t => exact propext ⟨fun h => ⟨t, rfl, h⟩, fun ⟨_, h, k⟩ => by cases h; exact k⟩
theorem w_setF {i : Nat} (h : i < ρ.length) : (sSetF i fa ρ S).w K = (fa ρ S).w (fun e S1 => ∃ d, per e = some d ∧ K.nx (ρ.set i (some (.v d))) S1) (fun C fs S1 => K.ex C fs ρ S1) := by
  unfold sSetF
  rw [if_pos h, w_so]
  congr 1
  funext e S1
  cases per e with
  | none => exact propext ⟨fun h => h.elim, fun ⟨_, h, _⟩ => by cases h⟩
  | some t => exact propext ⟨fun h => ⟨t, rfl, h⟩, fun ⟨_, h, k⟩ => by cases h; exact k⟩
@[simp] theorem w_raise {C : Addr} {names : List Str} : (sRaise C names fr ρ S).w K = (fr ρ S).w (fun os S1 => ∃ ds, vals os = some ds ∧ ds.length = names.length ∧ K.ex C (names.zip ds).reverse ρ S1) (fun C fs S1 => K.ex C fs ρ S1) := by
  unfold sRaise
  rw [w_so]
  congr 1
  funext os S1
  cases vals os with
  | none => exact propext ⟨fun h => h.elim, fun ⟨_, h, _⟩ => by cases h⟩
  | some ds =>
    dsimp only
    split
    · rename_i hl
      exact propext ⟨fun h => ⟨ds, rfl, hl, h⟩, fun ⟨_, h, _, k⟩ => by cases h; exact k⟩
    · rename_i hl
      exact propext ⟨fun h => h.elim, fun ⟨_, h, k, _⟩ => by cases h; exact (hl k).elim⟩
@[simp] theorem w_run {n : Nat} {os : List O} {P : E → Dr → Prop} {X : PX} : (runF n g os S).w P X = (g (startE n os) S).w ⟨fun _ S1 => P (.v .non) S1, P, fun _ _ => False, fun _ _ => False, fun C fs _ S1 => X C fs S1⟩ := by
  unfold runF
  cases g (startE n os) S <;> rfl
@[simp] theorem w_for {fi : Env → Dr → Out (List D)} {tgt : D → Env → Option Env} : (sFor fi tgt g ρ S).w K = (fi ρ S).w (fun ds S1 => (forD tgt g ds ρ S1).w K) (fun C fs S1 => K.ex C fs ρ S1) := by
  unfold sFor
  rw [w_so]
@[simp] theorem w_fnil {tgt : D → Env → Option Env} : (forD tgt g [] ρ S).w K = K.nx ρ S := rfl
theorem w_fcons {tgt : D → Env → Option Env} {d : D} {ds : List D} : (forD tgt g (d :: ds) ρ S).w K = ∃ ρ1, tgt d ρ = some ρ1 ∧ (g ρ1 S).w { K with nx := fun ρ2 S2 => (forD tgt g ds ρ2 S2).w K, ct := fun ρ2 S2 => (forD tgt g ds ρ2 S2).w K, bk := fun ρ2 S2 => K.nx ρ2 S2 } := by
  rw [forD]
  cases tgt d ρ with
  | none => exact propext ⟨fun h => h.elim, fun ⟨_, h, _⟩ => by cases h⟩
  | some ρ1 =>
    have : ∀ o : SO, (match o with | .nx ρ2 S2 => forD tgt g ds ρ2 S2 | .ct ρ2 S2 => forD tgt g ds ρ2 S2 | .bk ρ2 S2 => .nx ρ2 S2 | o => o : SO).w K = o.w { K with nx := fun ρ2 S2 => (forD tgt g ds ρ2 S2).w K, ct := fun ρ2 S2 => (forD tgt g ds ρ2 S2).w K, bk := fun ρ2 S2 => K.nx ρ2 S2 } := fun o => by cases o <;> rfl
    have z := this (g ρ1 S)
    exact propext ⟨fun h => ⟨ρ1, rfl, z ▸ h⟩, fun ⟨_, h, k⟩ => by cases h; exact z.symm ▸ k⟩
/-- a loop with an invariant, by what is left -/
theorem for_inv {tgt : D → Env → Option Env} (I : List D → Env → Dr → Prop) (h : ∀ d ds ρ S, I (d :: ds) ρ S → ∃ ρ1, tgt d ρ = some ρ1 ∧ (g ρ1 S).w { K with nx := I ds, ct := I ds, bk := fun ρ2 S2 => K.nx ρ2 S2 }) (h0 : ∀ ρ S, I [] ρ S → K.nx ρ S) : ∀ (ds : List D) (ρ : Env) (S : Dr), I ds ρ S → (forD tgt g ds ρ S).w K
  | [], ρ, S, i => by rw [w_fnil]; exact h0 ρ S i
  | d :: ds, ρ, S, i => by
    rw [w_fcons]
    obtain ⟨ρ1, e, k⟩ := h d ds ρ S i
    refine ⟨ρ1, e, ?_⟩
    have ih := for_inv I h h0 ds
    revert k
    cases g ρ1 S with
    | nx ρ2 S2 => exact fun k => ih ρ2 S2 k
    | ct ρ2 S2 => exact fun k => ih ρ2 S2 k
    | bk ρ2 S2 => exact fun k => k
    | rt e S2 => exact fun k => k
    | exc C fs ρ2 S2 => exact fun k => k
    | stk => exact fun k => k
theorem SO.w.mono {o : SO} {K' : Kt} (h : o.w K) (h1 : ∀ ρ S, K.nx ρ S → K'.nx ρ S) (h2 : ∀ e S, K.rt e S → K'.rt e S) (h3 : ∀ ρ S, K.bk ρ S → K'.bk ρ S) (h4 : ∀ ρ S, K.ct ρ S → K'.ct ρ S) (h5 : ∀ C fs ρ S, K.ex C fs ρ S → K'.ex C fs ρ S) : o.w K' := by
  cases o with
  | nx ρ S => exact h1 _ _ h
  | rt e S => exact h2 _ _ h
  | bk ρ S => exact h3 _ _ h
  | ct ρ S => exact h4 _ _ h
  | exc C fs ρ S => exact h5 _ _ _ _ h
  | stk => exact h
/-- a draw -/
theorem w_next {t : Nat} {m : Int} {P : E → Dr → Prop} {X : PX} (h : OkD t S) (ht : t < 33554432) (h0 : 0 < m) (h1 : m < 1073741824) (k : ∀ (r : Int) (S' : Dr), 0 ≤ r → r < m → OkD (t + 1) S' → P (.v (.int r)) S') : (nextF [.v .drw, .v (.int m)] S).w P X := by
  obtain ⟨r, S', e, a, b, c⟩ := next_run h ht h0 h1
  rw [e]
  exact k r S' a b c
end

/-! ### variables, by their places in a row of locals that stands open -/
section
variable {P : E → Dr → Prop} {X : PX} {S : Dr} {ρ : Env} {K : Kt} {fa : Env → Dr → Out E}
@[simp] theorem w_v0 {o : O} : (fVar 0 (some o :: ρ) S).w P X = (Out.of (readO o) S).w P X := rfl
@[simp] theorem w_v1 {a0 : Option O} {o : O} : (fVar 1 (a0 :: some o :: ρ) S).w P X = (Out.of (readO o) S).w P X := rfl
@[simp] theorem w_v2 {a0 a1 : Option O} {o : O} : (fVar 2 (a0 :: a1 :: some o :: ρ) S).w P X = (Out.of (readO o) S).w P X := rfl
@[simp] theorem w_v3 {a0 a1 a2 : Option O} {o : O} : (fVar 3 (a0 :: a1 :: a2 :: some o :: ρ) S).w P X = (Out.of (readO o) S).w P X := rfl
@[simp] theorem w_v4 {a0 a1 a2 a3 : Option O} {o : O} : (fVar 4 (a0 :: a1 :: a2 :: a3 :: some o :: ρ) S).w P X = (Out.of (readO o) S).w P X := rfl
@[simp] theorem w_v5 {a0 a1 a2 a3 a4 : Option O} {o : O} : (fVar 5 (a0 :: a1 :: a2 :: a3 :: a4 :: some o :: ρ) S).w P X = (Out.of (readO o) S).w P X := rfl
@[simp] theorem w_v6 {a0 a1 a2 a3 a4 a5 : Option O} {o : O} : (fVar 6 (a0 :: a1 :: a2 :: a3 :: a4 :: a5 :: some o :: ρ) S).w P X = (Out.of (readO o) S).w P X := rfl
@[simp] theorem w_v7 {a0 a1 a2 a3 a4 a5 a6 : Option O} {o : O} : (fVar 7 (a0 :: a1 :: a2 :: a3 :: a4 :: a5 :: a6 :: some o :: ρ) S).w P X = (Out.of (readO o) S).w P X := rfl
@[simp] theorem w_v8 {a0 a1 a2 a3 a4 a5 a6 a7 : Option O} {o : O} : (fVar 8 (a0 :: a1 :: a2 :: a3 :: a4 :: a5 :: a6 :: a7 :: some o :: ρ) S).w P X = (Out.of (readO o) S).w P X := rfl
@[simp] theorem w_v9 {a0 a1 a2 a3 a4 a5 a6 a7 a8 : Option O} {o : O} : (fVar 9 (a0 :: a1 :: a2 :: a3 :: a4 :: a5 :: a6 :: a7 :: a8 :: some o :: ρ) S).w P X = (Out.of (readO o) S).w P X := rfl
@[simp] theorem w_v10 {a0 a1 a2 a3 a4 a5 a6 a7 a8 a9 : Option O} {o : O} : (fVar 10 (a0 :: a1 :: a2 :: a3 :: a4 :: a5 :: a6 :: a7 :: a8 :: a9 :: some o :: ρ) S).w P X = (Out.of (readO o) S).w P X := rfl
@[simp] theorem w_v11 {a0 a1 a2 a3 a4 a5 a6 a7 a8 a9 a10 : Option O} {o : O} : (fVar 11 (a0 :: a1 :: a2 :: a3 :: a4 :: a5 :: a6 :: a7 :: a8 :: a9 :: a10 :: some o :: ρ) S).w P X = (Out.of (readO o) S).w P X := rfl
@[simp] theorem w_v12 {a0 a1 a2 a3 a4 a5 a6 a7 a8 a9 a10 a11 : Option O} {o : O} : (fVar 12 (a0 :: a1 :: a2 :: a3 :: a4 :: a5 :: a6 :: a7 :: a8 :: a9 :: a10 :: a11 :: some o :: ρ) S).w P X = (Out.of (readO o) S).w P X := rfl
@[simp] theorem w_v13 {a0 a1 a2 a3 a4 a5 a6 a7 a8 a9 a10 a11 a12 : Option O} {o : O} : (fVar 13 (a0 :: a1 :: a2 :: a3 :: a4 :: a5 :: a6 :: a7 :: a8 :: a9 :: a10 :: a11 :: a12 :: some o :: ρ) S).w P X = (Out.of (readO o) S).w P X := rfl
@[simp] theorem w_v14 {a0 a1 a2 a3 a4 a5 a6 a7 a8 a9 a10 a11 a12 a13 : Option O} {o : O} : (fVar 14 (a0 :: a1 :: a2 :: a3 :: a4 :: a5 :: a6 :: a7 :: a8 :: a9 :: a10 :: a11 :: a12 :: a13 :: some o :: ρ) S).w P X = (Out.of (readO o) S).w P X := rfl
@[simp] theorem w_v15 {a0 a1 a2 a3 a4 a5 a6 a7 a8 a9 a10 a11 a12 a13 a14 : Option O} {o : O} : (fVar 15 (a0 :: a1 :: a2 :: a3 :: a4 :: a5 :: a6 :: a7 :: a8 :: a9 :: a10 :: a11 :: a12 :: a13 :: a14 :: some o :: ρ) S).w P X = (Out.of (readO o) S).w P X := rfl
@[simp] theorem w_rv {d : D} : (Out.of (readO (.v d)) S).w P X = P (.v d) S := rfl
@[simp] theorem w_rl {d : List D} : (Out.of (readO (.l d)) S).w P X = P (.b d) S := rfl
@[simp] theorem w_rlt {d : List D} : (Out.of (readO (.lt d)) S).w P X = P (.b d) S := rfl
@[simp] theorem w_sF0 {a0 : Option O} : (sSetF 0 fa (a0 :: ρ) S).w K = (fa (a0 :: ρ) S).w (fun e S1 => ∃ d, per e = some d ∧ K.nx (some (.v d) :: ρ) S1) (fun C fs S1 => K.ex C fs (a0 :: ρ) S1) := w_setF (by simp)
@[simp] theorem w_sS0 {a0 : Option O} : (sSet 0 fa (a0 :: ρ) S).w K = (fa (a0 :: ρ) S).w (fun e S1 => ∃ o, stO e = some o ∧ K.nx (some o :: ρ) S1) (fun C fs S1 => K.ex C fs (a0 :: ρ) S1) := w_set (by simp)
@[simp] theorem w_sF1 {a0 a1 : Option O} : (sSetF 1 fa (a0 :: a1 :: ρ) S).w K = (fa (a0 :: a1 :: ρ) S).w (fun e S1 => ∃ d, per e = some d ∧ K.nx (a0 :: some (.v d) :: ρ) S1) (fun C fs S1 => K.ex C fs (a0 :: a1 :: ρ) S1) := w_setF (by simp)
@[simp] theorem w_sS1 {a0 a1 : Option O} : (sSet 1 fa (a0 :: a1 :: ρ) S).w K = (fa (a0 :: a1 :: ρ) S).w (fun e S1 => ∃ o, stO e = some o ∧ K.nx (a0 :: some o :: ρ) S1) (fun C fs S1 => K.ex C fs (a0 :: a1 :: ρ) S1) := w_set (by simp)
@[simp] theorem w_sF2 {a0 a1 a2 : Option O} : (sSetF 2 fa (a0 :: a1 :: a2 :: ρ) S).w K = (fa (a0 :: a1 :: a2 :: ρ) S).w (fun e S1 => ∃ d, per e = some d ∧ K.nx (a0 :: a1 :: some (.v d) :: ρ) S1) (fun C fs S1 => K.ex C fs (a0 :: a1 :: a2 :: ρ) S1) := w_setF (by simp)
@[simp] theorem w_sS2 {a0 a1 a2 : Option O} : (sSet 2 fa (a0 :: a1 :: a2 :: ρ) S).w K = (fa (a0 :: a1 :: a2 :: ρ) S).w (fun e S1 => ∃ o, stO e = some o ∧ K.nx (a0 :: a1 :: some o :: ρ) S1) (fun C fs S1 => K.ex C fs (a0 :: a1 :: a2 :: ρ) S1) := w_set (by simp)
@[simp] theorem w_sF3 {a0 a1 a2 a3 : Option O} : (sSetF 3 fa (a0 :: a1 :: a2 :: a3 :: ρ) S).w K = (fa (a0 :: a1 :: a2 :: a3 :: ρ) S).w (fun e S1 => ∃ d, per e = some d ∧ K.nx (a0 :: a1 :: a2 :: some (.v d) :: ρ) S1) (fun C fs S1 => K.ex C fs (a0 :: a1 :: a2 :: a3 :: ρ) S1) := w_setF (by simp)
@[simp] theorem w_sS3 {a0 a1 a2 a3 : Option O} : (sSet 3 fa (a0 :: a1 :: a2 :: a3 :: ρ) S).w K = (fa (a0 :: a1 :: a2 :: a3 :: ρ) S).w (fun e S1 => ∃ o, stO e = some o ∧ K.nx (a0 :: a1 :: a2 :: some o :: ρ) S1) (fun C fs S1 => K.ex C fs (a0 :: a1 :: a2 :: a3 :: ρ) S1) := w_set (by simp)
@[simp] theorem w_sF4 {a0 a1 a2 a3 a4 : Option O} : (sSetF 4 fa (a0 :: a1 :: a2 :: a3 :: a4 :: ρ) S).w K = (fa (a0 :: a1 :: a2 :: a3 :: a4 :: ρ) S).w (fun e S1 => ∃ d, per e = some d ∧ K.nx (a0 :: a1 :: a2 :: a3 :: some (.v d) :: ρ) S1) (fun C fs S1 => K.ex C fs (a0 :: a1 :: a2 :: a3 :: a4 :: ρ) S1) := w_setF (by simp)
@[simp] theorem w_sS4 {a0 a1 a2 a3 a4 : Option O} : (sSet 4 fa (a0 :: a1 :: a2 :: a3 :: a4 :: ρ) S).w K = (fa (a0 :: a1 :: a2 :: a3 :: a4 :: ρ) S).w (fun e S1 => ∃ o, stO e = some o ∧ K.nx (a0 :: a1 :: a2 :: a3 :: some o :: ρ) S1) (fun C fs S1 => K.ex C fs (a0 :: a1 :: a2 :: a3 :: a4 :: ρ) S1) := w_set (by simp)
@[simp] theorem w_sF5 {a0 a1 a2 a3 a4 a5 : Option O} : (sSetF 5 fa (a0 :: a1 :: a2 :: a3 :: a4 :: a5 :: ρ) S).w K = (fa (a0 :: a1 :: a2 :: a3 :: a4 :: a5 :: ρ) S).w (fun e S1 => ∃ d, per e = some d ∧ K.nx (a0 :: a1 :: a2 :: a3 :: a4 :: some (.v d) :: ρ) S1) (fun C fs S1 => K.ex C fs (a0 :: a1 :: a2 :: a3 :: a4 :: a5 :: ρ) S1) := w_setF (by simp)
@[simp] theorem w_sS5 {a0 a1 a2 a3 a4 a5 : Option O} : (sSet 5 fa (a0 :: a1 :: a2 :: a3 :: a4 :: a5 :: ρ) S).w K = (fa (a0 :: a1 :: a2 :: a3 :: a4 :: a5 :: ρ) S).w (fun e S1 => ∃ o, stO e = some o ∧ K.nx (a0 :: a1 :: a2 :: a3 :: a4 :: some o :: ρ) S1) (fun C fs S1 => K.ex C fs (a0 :: a1 :: a2 :: a3 :: a4 :: a5 :: ρ) S1) := w_set (by simp)
@[simp] theorem w_sF6 {a0 a1 a2 a3 a4 a5 a6 : Option O} : (sSetF 6 fa (a0 :: a1 :: a2 :: a3 :: a4 :: a5 :: a6 :: ρ) S).w K = (fa (a0 :: a1 :: a2 :: a3 :: a4 :: a5 :: a6 :: ρ) S).w (fun e S1 => ∃ d, per e = some d ∧ K.nx (a0 :: a1 :: a2 :: a3 :: a4 :: a5 :: some (.v d) :: ρ) S1) (fun C fs S1 => K.ex C fs (a0 :: a1 :: a2 :: a3 :: a4 :: a5 :: a6 :: ρ) S1) := w_setF (by simp)
@[simp] theorem w_sS6 {a0 a1 a2 a3 a4 a5 a6 : Option O} : (sSet 6 fa (a0 :: a1 :: a2 :: a3 :: a4 :: a5 :: a6 :: ρ) S).w K = (fa (a0 :: a1 :: a2 :: a3 :: a4 :: a5 :: a6 :: ρ) S).w (fun e S1 => ∃ o, stO e = some o ∧ K.nx (a0 :: a1 :: a2 :: a3 :: a4 :: a5 :: some o :: ρ) S1) (fun C fs S1 => K.ex C fs (a0 :: a1 :: a2 :: a3 :: a4 :: a5 :: a6 :: ρ) S1) := w_set (by simp)
@[simp] theorem w_sF7 {a0 a1 a2 a3 a4 a5 a6 a7 : Option O} : (sSetF 7 fa (a0 :: a1 :: a2 :: a3 :: a4 :: a5 :: a6 :: a7 :: ρ) S).w K = (fa (a0 :: a1 :: a2 :: a3 :: a4 :: a5 :: a6 :: a7 :: ρ) S).w (fun e S1 => ∃ d, per e = some d ∧ K.nx (a0 :: a1 :: a2 :: a3 :: a4 :: a5 :: a6 :: some (.v d) :: ρ) S1) (fun C fs S1 => K.ex C fs (a0 :: a1 :: a2 :: a3 :: a4 :: a5 :: a6 :: a7 :: ρ) S1) := w_setF (by simp)
@[simp] theorem w_sS7 {a0 a1 a2 a3 a4 a5 a6 a7 : Option O} : (sSet 7 fa (a0 :: a1 :: a2 :: a3 :: a4 :: a5 :: a6 :: a7 :: ρ) S).w K = (fa (a0 :: a1 :: a2 :: a3 :: a4 :: a5 :: a6 :: a7 :: ρ) S).w (fun e S1 => ∃ o, stO e = some o ∧ K.nx (a0 :: a1 :: a2 :: a3 :: a4 :: a5 :: a6 :: some o :: ρ) S1) (fun C fs S1 => K.ex C fs (a0 :: a1 :: a2 :: a3 :: a4 :: a5 :: a6 :: a7 :: ρ) S1) := w_set (by simp)
@[simp] theorem w_sF8 {a0 a1 a2 a3 a4 a5 a6 a7 a8 : Option O} : (sSetF 8 fa (a0 :: a1 :: a2 :: a3 :: a4 :: a5 :: a6 :: a7 :: a8 :: ρ) S).w K = (fa (a0 :: a1 :: a2 :: a3 :: a4 :: a5 :: a6 :: a7 :: a8 :: ρ) S).w (fun e S1 => ∃ d, per e = some d ∧ K.nx (a0 :: a1 :: a2 :: a3 :: a4 :: a5 :: a6 :: a7 :: some (.v d) :: ρ) S1) (fun C fs S1 => K.ex C fs (a0 :: a1 :: a2 :: a3 :: a4 :: a5 :: a6 :: a7 :: a8 :: ρ) S1) := w_setF (by simp)
@[simp] theorem w_sS8 {a0 a1 a2 a3 a4 a5 a6 a7 a8 : Option O} : (sSet 8 fa (a0 :: a1 :: a2 :: a3 :: a4 :: a5 :: a6 :: a7 :: a8 :: ρ) S).w K = (fa (a0 :: a1 :: a2 :: a3 :: a4 :: a5 :: a6 :: a7 :: a8 :: ρ) S).w (fun e S1 => ∃ o, stO e = some o ∧ K.nx (a0 :: a1 :: a2 :: a3 :: a4 :: a5 :: a6 :: a7 :: some o :: ρ) S1) (fun C fs S1 => K.ex C fs (a0 :: a1 :: a2 :: a3 :: a4 :: a5 :: a6 :: a7 :: a8 :: ρ) S1) := w_set (by simp)
@[simp] theorem w_sF9 {a0 a1 a2 a3 a4 a5 a6 a7 a8 a9 : Option O} : (sSetF 9 fa (a0 :: a1 :: a2 :: a3 :: a4 :: a5 :: a6 :: a7 :: a8 :: a9 :: ρ) S).w K = (fa (a0 :: a1 :: a2 :: a3 :: a4 :: a5 :: a6 :: a7 :: a8 :: a9 :: ρ) S).w (fun e S1 => ∃ d, per e = some d ∧ K.nx (a0 :: a1 :: a2 :: a3 :: a4 :: a5 :: a6 :: a7 :: a8 :: some (.v d) :: ρ) S1) (fun C fs S1 => K.ex C fs (a0 :: a1 :: a2 :: a3 :: a4 :: a5 :: a6 :: a7 :: a8 :: a9 :: ρ) S1) := w_setF (by simp)
@[simp] theorem w_sS9 {a0 a1 a2 a3 a4 a5 a6 a7 a8 a9 : Option O} : (sSet 9 fa (a0 :: a1 :: a2 :: a3 :: a4 :: a5 :: a6 :: a7 :: a8 :: a9 :: ρ) S).w K = (fa (a0 :: a1 :: a2 :: a3 :: a4 :: a5 :: a6 :: a7 :: a8 :: a9 :: ρ) S).w (fun e S1 => ∃ o, stO e = some o ∧ K.nx (a0 :: a1 :: a2 :: a3 :: a4 :: a5 :: a6 :: a7 :: a8 :: some o :: ρ) S1) (fun C fs S1 => K.ex C fs (a0 :: a1 :: a2 :: a3 :: a4 :: a5 :: a6 :: a7 :: a8 :: a9 :: ρ) S1) := w_set (by simp)
@[simp] theorem w_sF10 {a0 a1 a2 a3 a4 a5 a6 a7 a8 a9 a10 : Option O} : (sSetF 10 fa (a0 :: a1 :: a2 :: a3 :: a4 :: a5 :: a6 :: a7 :: a8 :: a9 :: a10 :: ρ) S).w K = (fa (a0 :: a1 :: a2 :: a3 :: a4 :: a5 :: a6 :: a7 :: a8 :: a9 :: a10 :: ρ) S).w (fun e S1 => ∃ d, per e = some d ∧ K.nx (a0 :: a1 :: a2 :: a3 :: a4 :: a5 :: a6 :: a7 :: a8 :: a9 :: some (.v d) :: ρ) S1) (fun C fs S1 => K.ex C fs (a0 :: a1 :: a2 :: a3 :: a4 :: a5 :: a6 :: a7 :: a8 :: a9 :: a10 :: ρ) S1) := w_setF (by simp)
@[simp] theorem w_sS10 {a0 a1 a2 a3 a4 a5 a6 a7 a8 a9 a10 : Option O} : (sSet 10 fa (a0 :: a1 :: a2 :: a3 :: a4 :: a5 :: a6 :: a7 :: a8 :: a9 :: a10 :: ρ) S).w K = (fa (a0 :: a1 :: a2 :: a3 :: a4 :: a5 :: a6 :: a7 :: a8 :: a9 :: a10 :: ρ) S).w (fun e S1 => ∃ o, stO e = some o ∧ K.nx (a0 :: a1 :: a2 :: a3 :: a4 :: a5 :: a6 :: a7 :: a8 :: a9 :: some o :: ρ) S1) (fun C fs S1 => K.ex C fs (a0 :: a1 :: a2 :: a3 :: a4 :: a5 :: a6 :: a7 :: a8 :: a9 :: a10 :: ρ) S1) := w_set (by simp)
@[simp] theorem w_sF11 {a0 a1 a2 a3 a4 a5 a6 a7 a8 a9 a10 a11 : Option O} : (sSetF 11 fa (a0 :: a1 :: a2 :: a3 :: a4 :: a5 :: a6 :: a7 :: a8 :: a9 :: a10 :: a11 :: ρ) S).w K = (fa (a0 :: a1 :: a2 :: a3 :: a4 :: a5 :: a6 :: a7 :: a8 :: a9 :: a10 :: a11 :: ρ) S).w (fun e S1 => ∃ d, per e = some d ∧ K.nx (a0 :: a1 :: a2 :: a3 :: a4 :: a5 :: a6 :: a7 :: a8 :: a9 :: a10 :: some (.v d) :: ρ) S1) (fun C fs S1 => K.ex C fs (a0 :: a1 :: a2 :: a3 :: a4 :: a5 :: a6 :: a7 :: a8 :: a9 :: a10 :: a11 :: ρ) S1) := w_setF (by simp)
@[simp] theorem w_sS11 {a0 a1 a2 a3 a4 a5 a6 a7 a8 a9 a10 a11 : Option O} : (sSet 11 fa (a0 :: a1 :: a2 :: a3 :: a4 :: a5 :: a6 :: a7 :: a8 :: a9 :: a10 :: a11 :: ρ) S).w K = (fa (a0 :: a1 :: a2 :: a3 :: a4 :: a5 :: a6 :: a7 :: a8 :: a9 :: a10 :: a11 :: ρ) S).w (fun e S1 => ∃ o, stO e = some o ∧ K.nx (a0 :: a1 :: a2 :: a3 :: a4 :: a5 :: a6 :: a7 :: a8 :: a9 :: a10 :: some o :: ρ) S1) (fun C fs S1 => K.ex C fs (a0 :: a1 :: a2 :: a3 :: a4 :: a5 :: a6 :: a7 :: a8 :: a9 :: a10 :: a11 :: ρ) S1) := w_set (by simp)
@[simp] theorem w_sF12 {a0 a1 a2 a3 a4 a5 a6 a7 a8 a9 a10 a11 a12 : Option O} : (sSetF 12 fa (a0 :: a1 :: a2 :: a3 :: a4 :: a5 :: a6 :: a7 :: a8 :: a9 :: a10 :: a11 :: a12 :: ρ) S).w K = (fa (a0 :: a1 :: a2 :: a3 :: a4 :: a5 :: a6 :: a7 :: a8 :: a9 :: a10 :: a11 :: a12 :: ρ) S).w (fun e S1 => ∃ d, per e = some d ∧ K.nx (a0 :: a1 :: a2 :: a3 :: a4 :: a5 :: a6 :: a7 :: a8 :: a9 :: a10 :: a11 :: some (.v d) :: ρ) S1) (fun C fs S1 => K.ex C fs (a0 :: a1 :: a2 :: a3 :: a4 :: a5 :: a6 :: a7 :: a8 :: a9 :: a10 :: a11 :: a12 :: ρ) S1) := w_setF (by simp)
@[simp] theorem w_sS12 {a0 a1 a2 a3 a4 a5 a6 a7 a8 a9 a10 a11 a12 : Option O} : (sSet 12 fa (a0 :: a1 :: a2 :: a3 :: a4 :: a5 :: a6 :: a7 :: a8 :: a9 :: a10 :: a11 :: a12 :: ρ) S).w K = (fa (a0 :: a1 :: a2 :: a3 :: a4 :: a5 :: a6 :: a7 :: a8 :: a9 :: a10 :: a11 :: a12 :: ρ) S).w (fun e S1 => ∃ o, stO e = some o ∧ K.nx (a0 :: a1 :: a2 :: a3 :: a4 :: a5 :: a6 :: a7 :: a8 :: a9 :: a10 :: a11 :: some o :: ρ) S1) (fun C fs S1 => K.ex C fs (a0 :: a1 :: a2 :: a3 :: a4 :: a5 :: a6 :: a7 :: a8 :: a9 :: a10 :: a11 :: a12 :: ρ) S1) := w_set (by simp)
@[simp] theorem w_sF13 {a0 a1 a2 a3 a4 a5 a6 a7 a8 a9 a10 a11 a12 a13 : Option O} : (sSetF 13 fa (a0 :: a1 :: a2 :: a3 :: a4 :: a5 :: a6 :: a7 :: a8 :: a9 :: a10 :: a11 :: a12 :: a13 :: ρ) S).w K = (fa (a0 :: a1 :: a2 :: a3 :: a4 :: a5 :: a6 :: a7 :: a8 :: a9 :: a10 :: a11 :: a12 :: a13 :: ρ) S).w (fun e S1 => ∃ d, per e = some d ∧ K.nx (a0 :: a1 :: a2 :: a3 :: a4 :: a5 :: a6 :: a7 :: a8 :: a9 :: a10 :: a11 :: a12 :: some (.v d) :: ρ) S1) (fun C fs S1 => K.ex C fs (a0 :: a1 :: a2 :: a3 :: a4 :: a5 :: a6 :: a7 :: a8 :: a9 :: a10 :: a11 :: a12 :: a13 :: ρ) S1) := w_setF (by simp)
@[simp] theorem w_sS13 {a0 a1 a2 a3 a4 a5 a6 a7 a8 a9 a10 a11 a12 a13 : Option O} : (sSet 13 fa (a0 :: a1 :: a2 :: a3 :: a4 :: a5 :: a6 :: a7 :: a8 :: a9 :: a10 :: a11 :: a12 :: a13 :: ρ) S).w K = (fa (a0 :: a1 :: a2 :: a3 :: a4 :: a5 :: a6 :: a7 :: a8 :: a9 :: a10 :: a11 :: a12 :: a13 :: ρ) S).w (fun e S1 => ∃ o, stO e = some o ∧ K.nx (a0 :: a1 :: a2 :: a3 :: a4 :: a5 :: a6 :: a7 :: a8 :: a9 :: a10 :: a11 :: a12 :: some o :: ρ) S1) (fun C fs S1 => K.ex C fs (a0 :: a1 :: a2 :: a3 :: a4 :: a5 :: a6 :: a7 :: a8 :: a9 :: a10 :: a11 :: a12 :: a13 :: ρ) S1) := w_set (by simp)
@[simp] theorem w_sF14 {a0 a1 a2 a3 a4 a5 a6 a7 a8 a9 a10 a11 a12 a13 a14 : Option O} : (sSetF 14 fa (a0 :: a1 :: a2 :: a3 :: a4 :: a5 :: a6 :: a7 :: a8 :: a9 :: a10 :: a11 :: a12 :: a13 :: a14 :: ρ) S).w K = (fa (a0 :: a1 :: a2 :: a3 :: a4 :: a5 :: a6 :: a7 :: a8 :: a9 :: a10 :: a11 :: a12 :: a13 :: a14 :: ρ) S).w (fun e S1 => ∃ d, per e = some d ∧ K.nx (a0 :: a1 :: a2 :: a3 :: a4 :: a5 :: a6 :: a7 :: a8 :: a9 :: a10 :: a11 :: a12 :: a13 :: some (.v d) :: ρ) S1) (fun C fs S1 => K.ex C fs (a0 :: a1 :: a2 :: a3 :: a4 :: a5 :: a6 :: a7 :: a8 :: a9 :: a10 :: a11 :: a12 :: a13 :: a14 :: ρ) S1) := w_setF (by simp)
@[simp] theorem w_sS14 {a0 a1 a2 a3 a4 a5 a6 a7 a8 a9 a10 a11 a12 a13 a14 : Option O} : (sSet 14 fa (a0 :: a1 :: a2 :: a3 :: a4 :: a5 :: a6 :: a7 :: a8 :: a9 :: a10 :: a11 :: a12 :: a13 :: a14 :: ρ) S).w K = (fa (a0 :: a1 :: a2 :: a3 :: a4 :: a5 :: a6 :: a7 :: a8 :: a9 :: a10 :: a11 :: a12 :: a13 :: a14 :: ρ) S).w (fun e S1 => ∃ o, stO e = some o ∧ K.nx (a0 :: a1 :: a2 :: a3 :: a4 :: a5 :: a6 :: a7 :: a8 :: a9 :: a10 :: a11 :: a12 :: a13 :: some o :: ρ) S1) (fun C fs S1 => K.ex C fs (a0 :: a1 :: a2 :: a3 :: a4 :: a5 :: a6 :: a7 :: a8 :: a9 :: a10 :: a11 :: a12 :: a13 :: a14 :: ρ) S1) := w_set (by simp)
@[simp] theorem w_sF15 {a0 a1 a2 a3 a4 a5 a6 a7 a8 a9 a10 a11 a12 a13 a14 a15 : Option O} : (sSetF 15 fa (a0 :: a1 :: a2 :: a3 :: a4 :: a5 :: a6 :: a7 :: a8 :: a9 :: a10 :: a11 :: a12 :: a13 :: a14 :: a15 :: ρ) S).w K = (fa (a0 :: a1 :: a2 :: a3 :: a4 :: a5 :: a6 :: a7 :: a8 :: a9 :: a10 :: a11 :: a12 :: a13 :: a14 :: a15 :: ρ) S).w (fun e S1 => ∃ d, per e = some d ∧ K.nx (a0 :: a1 :: a2 :: a3 :: a4 :: a5 :: a6 :: a7 :: a8 :: a9 :: a10 :: a11 :: a12 :: a13 :: a14 :: some (.v d) :: ρ) S1) (fun C fs S1 => K.ex C fs (a0 :: a1 :: a2 :: a3 :: a4 :: a5 :: a6 :: a7 :: a8 :: a9 :: a10 :: a11 :: a12 :: a13 :: a14 :: a15 :: ρ) S1) := w_setF (by simp)
@[simp] theorem w_sS15 {a0 a1 a2 a3 a4 a5 a6 a7 a8 a9 a10 a11 a12 a13 a14 a15 : Option O} : (sSet 15 fa (a0 :: a1 :: a2 :: a3 :: a4 :: a5 :: a6 :: a7 :: a8 :: a9 :: a10 :: a11 :: a12 :: a13 :: a14 :: a15 :: ρ) S).w K = (fa (a0 :: a1 :: a2 :: a3 :: a4 :: a5 :: a6 :: a7 :: a8 :: a9 :: a10 :: a11 :: a12 :: a13 :: a14 :: a15 :: ρ) S).w (fun e S1 => ∃ o, stO e = some o ∧ K.nx (a0 :: a1 :: a2 :: a3 :: a4 :: a5 :: a6 :: a7 :: a8 :: a9 :: a10 :: a11 :: a12 :: a13 :: a14 :: some o :: ρ) S1) (fun C fs S1 => K.ex C fs (a0 :: a1 :: a2 :: a3 :: a4 :: a5 :: a6 :: a7 :: a8 :: a9 :: a10 :: a11 :: a12 :: a13 :: a14 :: a15 :: ρ) S1) := w_set (by simp)
end
/-! ### values -/
@[simp] theorem gNe_bl {a b : Bool} : gNe (.v (.bl a)) (.v (.bl b)) = some (.v (.bl (a != b))) := rfl
@[simp] theorem gEq_bl {a b : Bool} : gEq (.v (.bl a)) (.v (.bl b)) = some (.v (.bl (a == b))) := rfl
@[simp] theorem gNe_int {a b : Int} : gNe (.v (.int a)) (.v (.int b)) = some (.v (.bl (a != b))) := rfl
@[simp] theorem gEq_int {a b : Int} : gEq (.v (.int a)) (.v (.int b)) = some (.v (.bl (a == b))) := rfl
@[simp] theorem gAdd_int {a b : Int} : gAdd (.v (.int a)) (.v (.int b)) = some (.v (.int (a + b))) := rfl
@[simp] theorem gSub_int {a b : Int} : gSub (.v (.int a)) (.v (.int b)) = some (.v (.int (a - b))) := rfl
@[simp] theorem gNeg_int {a : Int} : gNeg (.v (.int a)) = some (.v (.int (-a))) := rfl
@[simp] theorem gLt_int {a b : Int} : gLt (.v (.int a)) (.v (.int b)) = some (.v (.bl (decide (a < b)))) := rfl
@[simp] theorem gLe_int {a b : Int} : gLe (.v (.int a)) (.v (.int b)) = some (.v (.bl (decide (a ≤ b)))) := rfl
@[simp] theorem gGt_int {a b : Int} : gGt (.v (.int a)) (.v (.int b)) = some (.v (.bl (decide (b < a)))) := rfl
@[simp] theorem gGe_int {a b : Int} : gGe (.v (.int a)) (.v (.int b)) = some (.v (.bl (decide (b ≤ a)))) := rfl
@[simp] theorem gIsN_non {e : E} : gIsN e (.v .non) = some (.v (.bl (isNone e))) := rfl
@[simp] theorem gNotN_non {e : E} : gNotN e (.v .non) = some (.v (.bl (!isNone e))) := rfl
@[simp] theorem bl_bl {b : Bool} : E.bl? (.v (.bl b)) = some b := rfl
@[simp] theorem int_int {b : Int} : E.int? (.v (.int b)) = some b := rfl
@[simp] theorem toO_v {d : D} : toO (.v d) = .v d := rfl
@[simp] theorem toO_n {d : List D} : toO (.n d) = .v (.lst d) := rfl
@[simp] theorem toO_b {d : List D} : toO (.b d) = .lt d := rfl
@[simp] theorem per_v {d : D} : per (.v d) = some d := rfl
@[simp] theorem ret_v {d : D} : retE (.v d) = some (.v d) := rfl
@[simp] theorem ret_n {d : List D} : retE (.n d) = some (.n d) := rfl
@[simp] theorem gLen_tup {ds : List D} : gLen [.v (.tup ds)] = some (.v (.int ds.length)) := rfl
@[simp] theorem gLen_lst {ds : List D} : gLen [.v (.lst ds)] = some (.v (.int ds.length)) := rfl
@[simp] theorem gLen_lt {ds : List D} : gLen [.lt ds] = some (.v (.int ds.length)) := rfl
@[simp] theorem ty_tup {ds : List D} : tyE (.v (.tup ds)) = some "tuple" := rfl
@[simp] theorem ty_lst {ds : List D} : tyE (.v (.lst ds)) = some "list" := rfl
@[simp] theorem ty_b {ds : List D} : tyE (.b ds) = some "list" := rfl
@[simp] theorem ty_n {ds : List D} : tyE (.n ds) = some "list" := rfl
@[simp] theorem ty_int {i : Int} : tyE (.v (.int i)) = some "int" := rfl
@[simp] theorem ty_bl {i : Bool} : tyE (.v (.bl i)) = some "bool" := rfl
@[simp] theorem ty_str {i : Str} : tyE (.v (.str i)) = some "str" := rfl
@[simp] theorem ty_dct {k : List (Key × D)} : tyE (.v (.dct k)) = some "dict" := rfl
@[simp] theorem ty_non : tyE (.v .non) = some "NoneType" := rfl
theorem ne_of_dec {a b : String} (h : (a == b) = false) : (a == b) = false := h
@[simp] theorem isB_NoneType_bool : isB "NoneType" "bool" = false := by decide
@[simp] theorem isB_NoneType_int : isB "NoneType" "int" = false := by decide
@[simp] theorem isB_NoneType_str : isB "NoneType" "str" = false := by decide
@[simp] theorem isB_NoneType_tuple : isB "NoneType" "tuple" = false := by decide
@[simp] theorem isB_NoneType_list : isB "NoneType" "list" = false := by decide
@[simp] theorem isB_NoneType_dict : isB "NoneType" "dict" = false := by decide
@[simp] theorem isB_bool_bool : isB "bool" "bool" = true := by decide
@[simp] theorem isB_bool_int : isB "bool" "int" = true := by decide
@[simp] theorem isB_bool_str : isB "bool" "str" = false := by decide
@[simp] theorem isB_bool_tuple : isB "bool" "tuple" = false := by decide
@[simp] theorem isB_bool_list : isB "bool" "list" = false := by decide
@[simp] theorem isB_bool_dict : isB "bool" "dict" = false := by decide
@[simp] theorem isB_int_bool : isB "int" "bool" = false := by decide
@[simp] theorem isB_int_int : isB "int" "int" = true := by decide
@[simp] theorem isB_int_str : isB "int" "str" = false := by decide
@[simp] theorem isB_int_tuple : isB "int" "tuple" = false := by decide
@[simp] theorem isB_int_list : isB "int" "list" = false := by decide
@[simp] theorem isB_int_dict : isB "int" "dict" = false := by decide
@[simp] theorem isB_str_bool : isB "str" "bool" = false := by decide
@[simp] theorem isB_str_int : isB "str" "int" = false := by decide
@[simp] theorem isB_str_str : isB "str" "str" = true := by decide
@[simp] theorem isB_str_tuple : isB "str" "tuple" = false := by decide
@[simp] theorem isB_str_list : isB "str" "list" = false := by decide
@[simp] theorem isB_str_dict : isB "str" "dict" = false := by decide
@[simp] theorem isB_tuple_bool : isB "tuple" "bool" = false := by decide
@[simp] theorem isB_tuple_int : isB "tuple" "int" = false := by decide
@[simp] theorem isB_tuple_str : isB "tuple" "str" = false := by decide
@[simp] theorem isB_tuple_tuple : isB "tuple" "tuple" = true := by decide
@[simp] theorem isB_tuple_list : isB "tuple" "list" = false := by decide
@[simp] theorem isB_tuple_dict : isB "tuple" "dict" = false := by decide
@[simp] theorem isB_list_bool : isB "list" "bool" = false := by decide
@[simp] theorem isB_list_int : isB "list" "int" = false := by decide
@[simp] theorem isB_list_str : isB "list" "str" = false := by decide
@[simp] theorem isB_list_tuple : isB "list" "tuple" = false := by decide
@[simp] theorem isB_list_list : isB "list" "list" = true := by decide
@[simp] theorem isB_list_dict : isB "list" "dict" = false := by decide
@[simp] theorem isB_dict_bool : isB "dict" "bool" = false := by decide
@[simp] theorem isB_dict_int : isB "dict" "int" = false := by decide
@[simp] theorem isB_dict_str : isB "dict" "str" = false := by decide
@[simp] theorem isB_dict_tuple : isB "dict" "tuple" = false := by decide
@[simp] theorem isB_dict_list : isB "dict" "list" = false := by decide
@[simp] theorem isB_dict_dict : isB "dict" "dict" = true := by decide
section
variable {P : E → Dr → Prop} {X : PX} {S : Dr} {ρ : Env}
@[simp] theorem w_lc {fi : Env → Dr → Out (List D)} {tgt : D → Env → Option Env} {ft : Env → Dr → Out Bool} {fe : Env → Dr → Out E} {vs : List Nat} : (fLc fi tgt ft fe vs ρ S).w P X = (fi ρ S).w (fun ds S1 => ∃ xs S2, lcD tgt ft fe (wipeE ρ vs) ds S1 = .ok xs S2 ∧ xs.length ≤ sizeLine ∧ P (.n xs) S2) X := by
  unfold fLc
  rw [w_bind]
  congr 1
  funext ds S1
  cases lcD tgt ft fe (wipeE ρ vs) ds S1 with
  | ok xs S2 =>
    show (if xs.length ≤ sizeLine then Out.ok (E.n xs) S2 else .stk).w P X = _
    split
    · rename_i h
      exact propext ⟨fun k => ⟨xs, S2, rfl, h, k⟩, fun ⟨_, _, e, _, k⟩ => by cases e; exact k⟩
    · rename_i h
      exact propext ⟨fun k => k.elim, fun ⟨_, _, e, k, _⟩ => by cases e; exact (h k).elim⟩
  | exc C fs S2 => exact propext ⟨fun k => k.elim, fun ⟨_, _, e, _⟩ => by cases e⟩
  | stk => exact propext ⟨fun k => k.elim, fun ⟨_, _, e, _⟩ => by cases e⟩
end
@[simp] theorem gAll_lst {bs : List Bool} : gAll [.v (.lst (bs.map D.bl))] = some (.v (.bl (bs.all id))) := by
  show (match blsD (bs.map D.bl) with | some cs => some (E.v (.bl (cs.all id))) | none => none) = _
  rw [bls_map]
@[simp] theorem gAny_lst {bs : List Bool} : gAny [.v (.lst (bs.map D.bl))] = some (.v (.bl (bs.any id))) := by
  show (match blsD (bs.map D.bl) with | some cs => some (E.v (.bl (cs.any id))) | none => none) = _
  rw [bls_map]
@[simp] theorem gZip_tt {c : Bool} {xs ys : List D} : gZip c [.v (.tup xs), .v (.tup ys)] = some (zipD xs ys) := rfl
@[simp] theorem gZip_ll {c : Bool} {xs ys : List D} : gZip c [.v (.lst xs), .v (.lst ys)] = some (zipD xs ys) := rfl
@[simp] theorem gEnum_t {c : Bool} {xs : List D} : gEnum c [.v (.tup xs)] = some (enumD xs) := rfl
@[simp] theorem gEnum_l {c : Bool} {xs : List D} : gEnum c [.v (.lst xs)] = some (enumD xs) := rfl
/-- enumerate, from i on -/
def enF : Nat → List D → List D
  | _, [] => []
  | i, d :: ds => .tup [.int (i : Int), d] :: enF (i + 1) ds
theorem enF_zip : ∀ (ds : List D) (i : Nat), enF i ds = (List.range' i ds.length).zipWith (fun (i : Nat) d => D.tup [.int (i : Int), d]) ds
  | [], _ => rfl
  | d :: ds, i => by
    rw [enF, enF_zip ds (i + 1), List.length_cons, List.range'_succ]
    rfl
@[simp] theorem enumD_eq {ds : List D} : enumD ds = enF 0 ds := by
  unfold enumD
  rw [enF_zip, List.range_eq_range']
theorem cut_up {α : Type} {xs : List α} {k : Nat} : cutD xs none (some (k : Int)) = xs.take k := by
  unfold cutD
  rw [HT.sIx_none, HT.sIx_nat, List.drop_zero, Nat.sub_zero]
  rcases Nat.le_total k xs.length with h | h
  · rw [Nat.min_eq_left h]
  · rw [Nat.min_eq_right h, List.take_of_length_le (Nat.le_refl _), List.take_of_length_le h]
theorem gSl_t60 {ds : List D} : gSl none (some 60) (.v (.tup ds)) = some (.v (.tup (ds.take 60))) := by
  rw [← cut_up]
  rfl
/-- a value with a built-in class -/
def Ty1 (d : D) : Prop := ∃ t, tyE (.v d) = some t
theorem rng_succ {lo : Int} {n : Nat} : rngD lo (n + 1) = .int lo :: rngD (lo + 1) n := by
  unfold rngD
  rw [List.range_succ_eq_map, List.map_cons, List.map_map]
  congr 1
  · simp
  · apply List.map_congr_left
    intro a _
    show D.int _ = D.int _
    congr 1
    simp
    omega
theorem rng_zero {lo : Int} : rngD lo 0 = [] := rfl
theorem gRng1_int {i : Int} (h : -(2 ^ 62) ≤ i ∧ i < 2 ^ 62) : gRng1 [.v (.int i)] = some (rngD 0 i.toNat) := if_pos h
theorem gRng1_nat {n : Nat} (h : n < 2 ^ 62) : gRng1 [.v (.int (n : Int))] = some (rngD 0 n) := by
  rw [gRng1_int ⟨by omega, by omega⟩]
  simp
@[simp] theorem gMin2_int {i j : Int} : gMin2 [.v (.int i), .v (.int j)] = some (.v (.int (if j < i then j else i))) := rfl
@[simp] theorem gMax2_int {i j : Int} : gMax2 [.v (.int i), .v (.int j)] = some (.v (.int (if j > i then j else i))) := rfl
theorem gIx_t {ds : List D} {i : Nat} {d : D} (h : ds[i]? = some d) : gIx (.v (.tup ds)) (.v (.int (i : Int))) = some (.v d) := by
  show (atI ds (i : Int)).map E.v = _
  rw [atI_nat h]
  rfl
theorem gIx_l {ds : List D} {i : Nat} {d : D} (h : ds[i]? = some d) : gIx (.v (.lst ds)) (.v (.int (i : Int))) = some (.v d) := by
  show (atI ds (i : Int)).map E.v = _
  rw [atI_nat h]
  rfl
theorem gIx_b {ds : List D} {i : Nat} {d : D} (h : ds[i]? = some d) : gIx (.b ds) (.v (.int (i : Int))) = some (.v d) := by
  show (atI ds (i : Int)).map E.v = _
  rw [atI_nat h]
  rfl
/-! ### try -/
section
variable {S : Dr} {ρ : Env} {K : Kt} {gb gs : Env → Dr → SO} {P : E → Dr → Prop} {X : PX}
@[simp] theorem w_unX {i : Nat} {o : SO} : (unX i o).w K = o.w ⟨fun ρ S => noX (ρ.set i none) = true ∧ K.nx (ρ.set i none) S, K.rt, fun ρ S => noX (ρ.set i none) = true ∧ K.bk (ρ.set i none) S, fun ρ S => noX (ρ.set i none) = true ∧ K.ct (ρ.set i none) S, fun _ _ _ _ => False⟩ := by
  have aux : ∀ {c : Prop} [Decidable c] {o : SO} {p : Prop}, (o.w K = p) → ((if c then o else .stk : SO).w K) = (c ∧ p) := fun {c} _ {o p} h => by
    by_cases hc : c
    · rw [if_pos hc, h]; exact propext ⟨fun k => ⟨hc, k⟩, fun k => k.2⟩
    · rw [if_neg hc]; exact propext ⟨fun k => k.elim, fun k => hc k.1⟩
  cases o with
  | nx ρ S => exact aux rfl
  | bk ρ S => exact aux rfl
  | ct ρ S => exact aux rfl
  | rt e S => rfl
  | exc C fs ρ S => rfl
  | stk => rfl
@[simp] theorem w_try {i : Nat} {mt : Addr → Option Bool} : (sTry i mt gb gs ρ S).w K = (gb ρ S).w { K with ex := fun C fs ρ1 S1 => ∃ b, mt C = some b ∧ if b = true then (noX ρ1 = true ∧ i < ρ1.length) ∧ (unX i (gs (ρ1.set i (some (.x C fs))) S1)).w K else K.ex C fs ρ1 S1 } := by
  unfold sTry
  cases gb ρ S with
  | exc C fs ρ1 S1 =>
    show (match mt C with | some true => (if noX ρ1 = true ∧ i < ρ1.length then unX i (gs (ρ1.set i (some (.x C fs))) S1) else .stk) | some false => .exc C fs ρ1 S1 | none => .stk : SO).w K = ∃ b, mt C = some b ∧ if b = true then (noX ρ1 = true ∧ i < ρ1.length) ∧ (unX i (gs (ρ1.set i (some (.x C fs))) S1)).w K else K.ex C fs ρ1 S1
    cases mt C with
    | none => exact propext ⟨fun h => h.elim, fun ⟨_, h, _⟩ => by cases h⟩
    | some b =>
      cases b with
      | false => exact propext ⟨fun h => ⟨false, rfl, h⟩, fun ⟨_, h, k⟩ => by cases h; exact k⟩
      | true =>
        by_cases hc : noX ρ1 = true ∧ i < ρ1.length
        · show (if noX ρ1 = true ∧ i < ρ1.length then unX i (gs (ρ1.set i (some (.x C fs))) S1) else .stk : SO).w K = _
          rw [if_pos hc]
          exact propext ⟨fun h => ⟨true, rfl, hc, h⟩, fun ⟨_, h, k⟩ => by cases h; exact k.2⟩
        · show (if noX ρ1 = true ∧ i < ρ1.length then unX i (gs (ρ1.set i (some (.x C fs))) S1) else .stk : SO).w K = _
          rw [if_neg hc]
          exact propext ⟨fun h => h.elim, fun ⟨_, h, k⟩ => by cases h; exact hc k.1⟩
  | _ => rfl
theorem w_xf {i : Nat} {ok : Addr → Bool} {f : Str} {C : Addr} {fs : List (Str × D)} (h : ρ[i]? = some (some (.x C fs))) : (fXf i ok f ρ S).w P X = (ok C = true ∧ ∃ d, fs.lookup f = some d ∧ P (.v d) S) := by
  unfold fXf
  rw [h]
  dsimp only
  cases ok C with
  | false => exact propext ⟨fun k => k.elim, fun k => by cases k.1⟩
  | true =>
    cases hl : fs.lookup f with
    | none => exact propext ⟨fun k => k.elim, fun ⟨_, _, k, _⟩ => by cases k⟩
    | some d => exact propext ⟨fun k => ⟨rfl, d, rfl, k⟩, fun ⟨_, _, k, q⟩ => by cases k; exact q⟩
@[simp] theorem w_xf0 {ok : Addr → Bool} {f : Str} {C : Addr} {fs : List (Str × D)} : (fXf 0 ok f (some (.x C fs) :: ρ) S).w P X = (ok C = true ∧ ∃ d, fs.lookup f = some d ∧ P (.v d) S) := w_xf rfl
@[simp] theorem w_xf1 {a0 : Option O} {ok : Addr → Bool} {f : Str} {C : Addr} {fs : List (Str × D)} : (fXf 1 ok f (a0 :: some (.x C fs) :: ρ) S).w P X = (ok C = true ∧ ∃ d, fs.lookup f = some d ∧ P (.v d) S) := w_xf rfl
@[simp] theorem w_xf2 {a0 a1 : Option O} {ok : Addr → Bool} {f : Str} {C : Addr} {fs : List (Str × D)} : (fXf 2 ok f (a0 :: a1 :: some (.x C fs) :: ρ) S).w P X = (ok C = true ∧ ∃ d, fs.lookup f = some d ∧ P (.v d) S) := w_xf rfl
@[simp] theorem w_xf3 {a0 a1 a2 : Option O} {ok : Addr → Bool} {f : Str} {C : Addr} {fs : List (Str × D)} : (fXf 3 ok f (a0 :: a1 :: a2 :: some (.x C fs) :: ρ) S).w P X = (ok C = true ∧ ∃ d, fs.lookup f = some d ∧ P (.v d) S) := w_xf rfl
@[simp] theorem w_xf4 {a0 a1 a2 a3 : Option O} {ok : Addr → Bool} {f : Str} {C : Addr} {fs : List (Str × D)} : (fXf 4 ok f (a0 :: a1 :: a2 :: a3 :: some (.x C fs) :: ρ) S).w P X = (ok C = true ∧ ∃ d, fs.lookup f = some d ∧ P (.v d) S) := w_xf rfl
@[simp] theorem w_xf5 {a0 a1 a2 a3 a4 : Option O} {ok : Addr → Bool} {f : Str} {C : Addr} {fs : List (Str × D)} : (fXf 5 ok f (a0 :: a1 :: a2 :: a3 :: a4 :: some (.x C fs) :: ρ) S).w P X = (ok C = true ∧ ∃ d, fs.lookup f = some d ∧ P (.v d) S) := w_xf rfl
@[simp] theorem w_xf6 {a0 a1 a2 a3 a4 a5 : Option O} {ok : Addr → Bool} {f : Str} {C : Addr} {fs : List (Str × D)} : (fXf 6 ok f (a0 :: a1 :: a2 :: a3 :: a4 :: a5 :: some (.x C fs) :: ρ) S).w P X = (ok C = true ∧ ∃ d, fs.lookup f = some d ∧ P (.v d) S) := w_xf rfl
@[simp] theorem w_xf7 {a0 a1 a2 a3 a4 a5 a6 : Option O} {ok : Addr → Bool} {f : Str} {C : Addr} {fs : List (Str × D)} : (fXf 7 ok f (a0 :: a1 :: a2 :: a3 :: a4 :: a5 :: a6 :: some (.x C fs) :: ρ) S).w P X = (ok C = true ∧ ∃ d, fs.lookup f = some d ∧ P (.v d) S) := w_xf rfl
@[simp] theorem w_xf8 {a0 a1 a2 a3 a4 a5 a6 a7 : Option O} {ok : Addr → Bool} {f : Str} {C : Addr} {fs : List (Str × D)} : (fXf 8 ok f (a0 :: a1 :: a2 :: a3 :: a4 :: a5 :: a6 :: a7 :: some (.x C fs) :: ρ) S).w P X = (ok C = true ∧ ∃ d, fs.lookup f = some d ∧ P (.v d) S) := w_xf rfl
@[simp] theorem w_xf9 {a0 a1 a2 a3 a4 a5 a6 a7 a8 : Option O} {ok : Addr → Bool} {f : Str} {C : Addr} {fs : List (Str × D)} : (fXf 9 ok f (a0 :: a1 :: a2 :: a3 :: a4 :: a5 :: a6 :: a7 :: a8 :: some (.x C fs) :: ρ) S).w P X = (ok C = true ∧ ∃ d, fs.lookup f = some d ∧ P (.v d) S) := w_xf rfl
@[simp] theorem w_xf10 {a0 a1 a2 a3 a4 a5 a6 a7 a8 a9 : Option O} {ok : Addr → Bool} {f : Str} {C : Addr} {fs : List (Str × D)} : (fXf 10 ok f (a0 :: a1 :: a2 :: a3 :: a4 :: a5 :: a6 :: a7 :: a8 :: a9 :: some (.x C fs) :: ρ) S).w P X = (ok C = true ∧ ∃ d, fs.lookup f = some d ∧ P (.v d) S) := w_xf rfl
@[simp] theorem w_xf11 {a0 a1 a2 a3 a4 a5 a6 a7 a8 a9 a10 : Option O} {ok : Addr → Bool} {f : Str} {C : Addr} {fs : List (Str × D)} : (fXf 11 ok f (a0 :: a1 :: a2 :: a3 :: a4 :: a5 :: a6 :: a7 :: a8 :: a9 :: a10 :: some (.x C fs) :: ρ) S).w P X = (ok C = true ∧ ∃ d, fs.lookup f = some d ∧ P (.v d) S) := w_xf rfl
@[simp] theorem w_xf12 {a0 a1 a2 a3 a4 a5 a6 a7 a8 a9 a10 a11 : Option O} {ok : Addr → Bool} {f : Str} {C : Addr} {fs : List (Str × D)} : (fXf 12 ok f (a0 :: a1 :: a2 :: a3 :: a4 :: a5 :: a6 :: a7 :: a8 :: a9 :: a10 :: a11 :: some (.x C fs) :: ρ) S).w P X = (ok C = true ∧ ∃ d, fs.lookup f = some d ∧ P (.v d) S) := w_xf rfl
@[simp] theorem w_xf13 {a0 a1 a2 a3 a4 a5 a6 a7 a8 a9 a10 a11 a12 : Option O} {ok : Addr → Bool} {f : Str} {C : Addr} {fs : List (Str × D)} : (fXf 13 ok f (a0 :: a1 :: a2 :: a3 :: a4 :: a5 :: a6 :: a7 :: a8 :: a9 :: a10 :: a11 :: a12 :: some (.x C fs) :: ρ) S).w P X = (ok C = true ∧ ∃ d, fs.lookup f = some d ∧ P (.v d) S) := w_xf rfl
@[simp] theorem w_xf14 {a0 a1 a2 a3 a4 a5 a6 a7 a8 a9 a10 a11 a12 a13 : Option O} {ok : Addr → Bool} {f : Str} {C : Addr} {fs : List (Str × D)} : (fXf 14 ok f (a0 :: a1 :: a2 :: a3 :: a4 :: a5 :: a6 :: a7 :: a8 :: a9 :: a10 :: a11 :: a12 :: a13 :: some (.x C fs) :: ρ) S).w P X = (ok C = true ∧ ∃ d, fs.lookup f = some d ∧ P (.v d) S) := w_xf rfl
@[simp] theorem w_xf15 {a0 a1 a2 a3 a4 a5 a6 a7 a8 a9 a10 a11 a12 a13 a14 : Option O} {ok : Addr → Bool} {f : Str} {C : Addr} {fs : List (Str × D)} : (fXf 15 ok f (a0 :: a1 :: a2 :: a3 :: a4 :: a5 :: a6 :: a7 :: a8 :: a9 :: a10 :: a11 :: a12 :: a13 :: a14 :: some (.x C fs) :: ρ) S).w P X = (ok C = true ∧ ∃ d, fs.lookup f = some d ∧ P (.v d) S) := w_xf rfl
end
end Dn

set_option Elab.async false
set_option linter.all false
set_option maxRecDepth 100000
set_option maxHeartbeats 4000000
namespace Dn
open PySem PySem.Spec PyProof.Rows L2

/-! ### x[::-1] of lists and tuples -/
section
open HT
variable {prog : Program} {w : World} {A : Around} {E : Value → Shared → Prop} {s : Shared}
theorem sliceApplied_rev {sl : Addr} {t : Tok} {n : Nat} {Q : Int × Int × Nat → Shared → Prop} (hs : s.heap.IsSliceOf sl .none .none (.int (-1) t))
    (h : Q ((n : Int) - 1, -1, n) s) : wpAny (model prog w) A (Builtin.Slice.sliceApplied (.ref sl) (pure (n : Int))) Q E s := by
  obtain ⟨os, hos, hcs, hds⟩ := id hs
  unfold Builtin.Slice.sliceApplied Builtin.Slice.sliceFields
  refine wpAny_bind (wpAny_bind (wpAny_field hos hds (x := .none) rfl (wpAny_bind (wpAny_field hos hds (x := .none) rfl (wpAny_bind (wpAny_field hos hds (x := .int (-1) t) rfl (wpAny_pure ?_)))))))
  refine wpAny_bind (slicePart_ (.int (-1) t) ?_)
  show wpAny _ _ (if ((-1 : Int) == 0) = true then _ else _) _ _ s
  rw [if_neg (by decide)]
  refine wpAny_bind (slicePart_ .none (wpAny_bind (slicePart_ .none (wpAny_bind (wpAny_pure ?_)))))
  show wpAny _ _ (match Builtin.Slice.sliceAdjust none none (-1) (n : Int) with | (lo, hi) => pure (lo, (-1 : Int), Builtin.Slice.slicePlaces lo hi (-1))) _ _ s
  have e : Builtin.Slice.sliceAdjust none none (-1) (n : Int) = ((n : Int) - 1, -1) := by
    unfold Builtin.Slice.sliceAdjust
    simp
  rw [e]
  have e2 : Builtin.Slice.slicePlaces ((n : Int) - 1) (-1) (-1) = n := by
    unfold Builtin.Slice.slicePlaces
    have h1 : ¬ (-1 : Int) > 0 := by omega
    simp only [h1, if_false]
    split <;> simp <;> omega
  show wpAny _ _ (pure ((n : Int) - 1, (-1 : Int), Builtin.Slice.slicePlaces ((n : Int) - 1) (-1) (-1))) _ _ s
  rw [e2]
  exact wpAny_pure h
theorem pick_rev (xs : Array Value) : ((List.range xs.size).filterMap fun (m : Nat) => xs[(((xs.size : Nat) : Int) - 1 + (m : Int) * -1).toNat]?).toArray = xs.toList.reverse.toArray := by
  congr 1
  have e : ∀ l : List Nat, (∀ m ∈ l, m < xs.size) → (l.filterMap fun (m : Nat) => xs[(((xs.size : Nat) : Int) - 1 + (m : Int) * -1).toNat]?) = l.map fun m => xs.toList.reverse.getD m .none := by
    intro l hl
    induction l with
    | nil => rfl
    | cons m l ih =>
      have hm := hl m (by simp)
      have e1 : ((((xs.size : Nat) : Int) - 1 + (m : Int) * -1)).toNat = xs.size - 1 - m := by omega
      have h2 : xs[xs.size - 1 - m]? = some (xs.toList.reverse.getD m .none) := by
        rw [List.getD_eq_getElem?_getD, List.getElem?_reverse (by simpa using hm)]
        simp
        rw [Array.getElem?_eq_getElem (by omega)]
        rfl
      rw [List.filterMap_cons, e1, h2, List.map_cons, ih fun z hz => hl z (by simp [hz])]
  rw [e _ fun m hm => by simpa using hm]
  apply List.ext_getElem
  · simp
  · intro i h1 h2
    simp
    simp at h1
    rw [List.getElem?_eq_getElem (by simpa using h1)]
    simp
theorem getItem_tuple_rev {t sl : Addr} {items : Array Value} {u : Tok} {Q : Value → Shared → Prop} (ht : IsTup s.heap t items) (hs : s.heap.IsSliceOf sl .none .none (.int (-1) u))
    (h : Q (.ref s.heap.objs.size) { s with heap := s.heap.push { cls := .type "tuple", data := .seq items.toList.reverse.toArray } })
    (hsz : items.size ≤ sizeLine) : wpAny (model prog w) A (getItem (.ref t) (.ref sl)) Q E s := by
  have htake : sizeOk (.seq items.toList.reverse.toArray) := by
    show items.toList.reverse.toArray.size ≤ sizeLine
    rw [List.size_toArray, List.length_reverse, Array.length_toList]
    exact hsz
  obtain ⟨os, hos, hcs, hds⟩ := id hs
  have hTs : s.TypeIs (.ref sl) "slice" := ⟨os, hos, hcs⟩
  unfold getItem
  try with_reducible refine wpAny_holding ?_
  first | refine wpAny_bind (wpAny_pure ?_) | skip
  refine wpAny_bind (wpAny_sequenceKey ht.typeIs (by decide) ?_)
  refine wpAny_bind (wpAny_callSpecial?_slot (name := Str.ofString "__getitem__") ht.typeIs PyProof.Rows.slot_tuple_getitem
    (wpAny_call_entry PyProof.Rows.slot_tuple_getitem ht.typeIs entry_tuple_getitem ?_ (args_tuple_getitem _ _)))
  show wpAny _ _ (Builtin.Tuple.tupleItemsOf (.ref t) >>= _) _ _ s
  refine wpAny_bind (tupleItemsOf_ ht ?_)
  refine wpAny_bind (wpAny_typeOf hTs ?_)
  rw [if_pos (by decide)]
  refine wpAny_bind (sliceApplied_rev hs ?_)
  have hno : ¬ (((((items.size : Nat) : Int) - 1) == 0 && (-1 : Int) == 1 && items.size == items.size) = true) := by
    intro q
    rw [Bool.and_eq_true, Bool.and_eq_true] at q
    exact absurd q.1.2 (by decide)
  show wpAny _ _ (if ((((items.size : Nat) : Int) - 1) == 0 && (-1 : Int) == 1 && items.size == items.size) = true then _ else _) _ _ s
  rw [if_neg hno, pick_rev]
  first
    | exact wpAny_bind (m := Builtin.Tuple.tupleExact _) (wpAny_newObj_type (wpAny_pure ⟨_, rfl, wpAny_pure h⟩) htake)
    | exact wpAny_bind (m := Builtin.Tuple.tupleExact _) (wpAny_newObj_type (wpAny_bind (wpAny_pure (wpAny_pure ⟨_, rfl, wpAny_pure h⟩))) htake)
    | exact wpAny_bind (wpAny_bind (m := Builtin.Tuple.tupleExact _) (wpAny_newObj_type (wpAny_pure (wpAny_pure ⟨_, rfl, wpAny_pure h⟩)) htake))
    | exact wpAny_bind (wpAny_bind (m := Builtin.Tuple.tupleExact _) (wpAny_newObj_type (wpAny_pure ⟨_, rfl, wpAny_pure h⟩) htake))
end
def tRevA (K : PySem.W.Frag) (te : TE) : TE := fun σ H Q => te σ H fun x H1 => (∃ a xs, x = .ref a ∧ SqL K H1 a xs ∧ ∀ p, H1 p = none → Q (.ref p) (upd H1 p (.lst xs.reverse))) ∨
  (∃ a xs, x = .ref a ∧ SqT K H1 a xs ∧ ∀ p, H1 p = none → Q (.ref p) (upd H1 p (.tup xs.reverse)))
theorem pe_revA {X : Cx} {e : Expr} {te : TE} {k : Nat} {p1 p2 p3 pos : Pos} (he : PE X e te) : PE X (.Subscript e (.Slice none none (some (.UnaryOp .USub (.Constant (.int 1) k p1) p2)) p3) pos) (tRevA X.K te) := by
  refine ⟨fun pins s σ H Q I h => ?_⟩
  refine Subscript_ (thn (he.run pins s σ H _ I h) fun v s1 ⟨x, H1, I1, r1, q1⟩ => ?_)
  have hst : PO X (some (.UnaryOp .USub (.Constant (.int 1) k p1) p2)) (tPart (tUn (rU fun i => .int (-i)) (tC (.int 1)))) := po_some (pe_un un_neg pe_int)
  refine wpAny_Slice (thn (po_none.run pins s1 σ H1 (fun o H2 => o = none ∧ H2 = H1) I1 ⟨rfl, rfl⟩) fun vl s2 ⟨l, H2, I2, pl, el, e2⟩ => ?_)
  subst el e2
  refine thn (po_none.run pins s2 σ H2 (fun o H3 => o = none ∧ H3 = H2) I2 ⟨rfl, rfl⟩) fun vu s3 ⟨u, H3, I3, pu, eu, e3⟩ => ?_
  subst eu e3
  refine thn (hst.run pins s3 σ H3 (fun o H4 => o = some (-1) ∧ H4 = H3) I3 ⟨1, rfl, -1, rfl, rfl, rfl⟩) fun vs s4 ⟨o, H4, I4, ps, eo, e4⟩ => ?_
  subst eo e4
  have I5 : Inv X pins σ H4 { s4 with heap := s4.heap.push { cls := .type "slice", data := .fields #[vl, vu, vs] } } := I4.kept (t' := s4.toks) fun b ob q => Heap.get?_push_of_some _ q
  rcases q1 with ⟨a, xs, ex, hx, q⟩ | ⟨a, xs, ex, hx, q⟩
  · subst ex
    cases r1
    obtain ⟨its, r, ht, hz⟩ := I5.list hx
    have hlen := r.length
    show wpAny (model X.prog X.w) X.A (subscriptTail e (.Slice none none (some (.UnaryOp .USub (.Constant (.int 1) k p1) p2)) p3) (.ref a) (.ref s4.heap.objs.size)) (EP X pins σ Q) X.xe { s4 with heap := s4.heap.push { cls := .type "slice", data := .fields #[vl, vu, vs] } }
    refine tail_any (ops := [.ref a, .ref s4.heap.objs.size]) ht.isList.typeIs (PySem.slot_list_getitem.lookup) ?_ (by with_unfolding_all rfl)
    refine wpAny_getItem_list_slice ht.isList (Heap.IsSliceOf.new _ vl vu vs) pl pu ps (by decide) ?_ (by rw [List.size_toArray]; omega)
    rw [PySem.W.krv_pick]
    refine ⟨.ref _, _, I5.laid (t' := s4.toks) (o := .lst xs.reverse) (fun b ob q => Heap.get?_push_of_some _ q) (Nat.le_refl _) ?_, rfl, q _ (I5.hok.fresh (Nat.le_refl _))⟩
    exact ⟨by rw [List.length_reverse]; exact hz, _, 0, r.reverse, Heap.get?_push_size _ rfl⟩
  · subst ex
    cases r1
    obtain ⟨its, r, ht, hz⟩ := I5.tuple hx
    have hlen := r.length
    cases pl
    cases pu
    cases ps with
    | int i t =>
    show wpAny (model X.prog X.w) X.A (subscriptTail e (.Slice none none (some (.UnaryOp .USub (.Constant (.int 1) k p1) p2)) p3) (.ref a) (.ref s4.heap.objs.size)) (EP X pins σ Q) X.xe { s4 with heap := s4.heap.push { cls := .type "slice", data := .fields #[.none, .none, .int (-1) t] } }
    refine tail_any (ops := [.ref a, .ref s4.heap.objs.size]) ht.typeIs (PyProof.Rows.slot_tuple_getitem.lookup) ?_ (by with_unfolding_all rfl)
    refine getItem_tuple_rev ht (Heap.IsSliceOf.new _ .none .none (.int (-1) t)) ?_ (by rw [List.size_toArray]; omega)
    refine ⟨.ref _, _, I5.laid (t' := s4.toks) (o := .tup xs.reverse) (fun b ob q => Heap.get?_push_of_some _ q) (Nat.le_refl _) ?_, rfl, q _ (I5.hok.fresh (Nat.le_refl _))⟩
    exact ⟨by rw [List.length_reverse]; exact hz, _, r.reverse, IsTup.new _ _⟩
section
variable {X : Cx} {W : WX} {B : Bs} {bs : Hp × Hp} {Hs Hf H : Hp} {ρ : Env} {S : Dr} {σ : L2.St} {a b e : Expr} {es : List Expr} {fa fb : Env → Dr → Out E} {fr : Env → Dr → Out (List O)} {pos p2 : Pos}
theorem RepL.rvs {K : PySem.W.Frag} {dr : Addr} : ∀ {vs : List V} {ds : List D}, RepL K dr Hf vs ds → RepL K dr Hf vs.reverse ds.reverse
  | _, _, .nil => .nil
  | _, _, .cons h l => by
    rw [List.reverse_cons, List.reverse_cons]
    exact l.rvs.append (.one h)
def gRev : E → Option E
  | .v (.tup ds) => some (.v (.tup ds.reverse))
  | x => match x.ls with
    | some ds => some (.n ds.reverse)
    | none => none
theorem je_rev {k : Nat} {p1 p2 p3 pos : Pos} (hK : X.K = B.K) (ha : JE X W B a fa) : JE X W B (.Subscript a (.Slice none none (some (.UnaryOp .USub (.Constant (.int 1) k p1) p2)) p3) pos) (fUn gRev fa) :=
  JE.mk (pe_revA pe_W) fun bs σ H ρ S Hf Q r h => by
    show tW X a σ H fun x H1 => _
    rw [hK]
    refine ha.bind r h back_e fun e1 S1 v H1 Hf1 r1 n1 z1 h1 => ?_
    cases q : gRev e1 with
    | none => rw [q] at h1; exact h1.elim
    | some e =>
      rw [q] at h1
      have k : VP B S1 Hf1 H1 e Q := fun v Hf' H' n d z => h1 v Hf' H' n d z
      unfold gRev at q
      split at q
      · rename_i ds
        cases q
        obtain ⟨a, vs, rfl, t, lr⟩ := rep_tup (Ex.refl Hf1) z1.v_ok
        exact .inr ⟨a, vs, rfl, ex_t r1.ex t, fun p hp => VP.newT r1 k lr.rvs hp⟩
      · split at q
        · rename_i ds q1
          cases q
          obtain ⟨a, vs, rfl, t, lr⟩ := z1.ls r1 q1
          exact .inl ⟨a, vs, rfl, SqL.of t, fun p hp => VP.newL r1 k lr.rvs hp⟩
        · cases q

/-! ### is True, is False -/
def gIsB : E → E → Option E
  | .v (.bl a), .v (.bl b) => some (.v (.bl (decide (a = b))))
  | _, _ => none
theorem oj_isB : OpJ B rIsB gIsB := fun bs σ H ρ S Hf Hs1 Hs2 x y e1 e2 e Q r h1 h2 q k => by
  unfold gIsB at q
  split at q
  · cases q
    cases h1.v_ok
    cases h2.v_ok
    exact ⟨_, _, rfl, rfl, VP.now r k (Rep.bl _)⟩
  · cases q

/-! ### < of ints and of tuples of ints -/
def gLtT : E → E → Option E
  | .v (.tup a), .v (.tup b) => match intsD a, intsD b with
    | some ns, some ms => some (.v (.bl (HT.lexLt ns ms)))
    | _, _ => none
  | _, _ => none
theorem oj_ltT : OpJ B (rLtT B.K) gLtT := fun bs σ H ρ S Hf Hs1 Hs2 x y e1 e2 e Q r h1 h2 q k => by
  unfold gLtT at q
  split at q
  · split at q
    · rename_i ns ms q1 q2
      cases q
      obtain ⟨a, vs, rfl, t1, l1⟩ := rep_tup (Ex.refl Hf) h1.v_ok
      obtain ⟨b, ws, rfl, t2, l2⟩ := rep_tup (Ex.refl Hf) h2.v_ok
      rw [ints_ok l1 q1] at t1
      rw [ints_ok l2 q2] at t2
      exact ⟨a, b, ns, ms, rfl, rfl, ex_t r.ex t1, ex_t r.ex t2, VP.now r k (Rep.bl _)⟩
    · cases q
  · cases q
def gLtA : E → E → Option E := fun x y => match gLt x y with
  | some e => some e
  | none => gLtT x y
theorem oj_ltA : OpJ B (fun x y H Q => (rI0 fun i j => V.bl (decide (i < j))) x y H Q ∨ rLtT B.K x y H Q) gLtA := OpJ.or oj_lt oj_ltT
theorem op_ltA (hK : X.K = B.K) (hu : X.A.units + 65 < cLine) : OpR X (compareOp .Lt) (fun x y H Q => (rI0 fun i j => V.bl (decide (i < j))) x y H Q ∨ rLtT B.K x y H Q) := OpR.or op_lt (hK ▸ op_ltT (by omega))
end
end Dn

set_option Elab.async false
set_option linter.all false
set_option maxRecDepth 100000
set_option maxHeartbeats 4000000
namespace Dn
open PySem PySem.Spec PyProof.Rows L2

/-! ### texts' methods with one argument -/
def E.str? : E → Option Str
  | .v (.str x) => some x
  | _ => none
def fM1 (g : E → E → Option E) (fa fb : Env → Dr → Out E) : Env → Dr → Out E := fun ρ S => (fa ρ S).bind fun x S1 => match x.str? with
  | some _ => (fb ρ S1).bind fun y S2 => Out.of (g x y) S2
  | none => .stk
section
variable {X : Cx} {W : WX} {B : Bs} {bs : Hp × Hp} {Hs Hf H : Hp} {ρ : Env} {S : Dr} {σ : L2.St} {a b e : Expr} {es : List Expr} {fa fb : Env → Dr → Out E} {fr : Env → Dr → Out (List O)} {pos p2 : Pos} {D : Ends} {c : Bool} {tg : Expr}
theorem ER.str {v : V} {e : E} {x : Str} (h : ER B Hs Hf H v e) (q : e.str? = some x) : v = .str x := by
  cases e with
  | v d =>
    cases d <;> simp [E.str?] at q
    subst q
    cases h
    rfl
  | _ => cases q
theorem je_m1 {id : String} {name : Str} {apos : Pos} {r : V → List V → Hp → VK → Prop} {g : E → E → Option E} (slot : Slot "str" name id) (ty : typeOf (.builtin id) = pure (.type "method_descriptor")) (rule : MtR X id r) (hj : OpJ B (fun x y H Q => r x [y] H Q) g)
    (ha : JE X W B a fa) (hb : JE X W B b fb) (hs : starEach [b] X.env = [(false, eval b X.env)] := by exact star_1 rfl) (hbase : attributeBase a name X.env (eval a X.env) = eval a X.env := by rfl) (hline : (apos.endLine == pos.line) = true := by rfl) :
    JE X W B (.Call (.Attribute a name apos) [b] [] pos) (fM1 g fa fb) :=
  JE.mk (pe_m1 slot ty rule pe_W pe_W hs hbase hline) fun bs σ H ρ S Hf Q R0 h => by
    show tW X a σ H fun x H1 => (∃ a, x = .str a) ∧ tW X b σ H1 fun y H2 => r x [y] H2 Q
    refine ha.bind R0 h back_e fun e1 S1 v H1 Hf1 r1 n1 z1 h1 => ?_
    cases qs : e1.str? with
    | none => rw [qs] at h1; exact h1.elim
    | some x =>
      rw [qs] at h1
      refine ⟨⟨x, z1.str qs⟩, ?_⟩
      refine hb.bind r1 h1 back_e fun e2 S2 v2 H2 Hf2 r2 n2 z2 h2 => ?_
      cases q : g e1 e2 with
      | none => rw [q] at h2; exact h2.elim
      | some e =>
        rw [q] at h2
        exact hj _ _ _ _ _ _ _ _ _ _ _ _ _ _ r2 (z1.next r1 n2) z2 q fun v Hf' H' n d z => h2 v Hf' H' n d z
def strsD : List Dn.D → Option (List Str)
  | [] => some []
  | .str b :: ds => (strsD ds).map (b :: ·)
  | _ :: _ => none
theorem strs_ok {K : PySem.W.Frag} {dr : Addr} : ∀ {ds : List Dn.D} {vs : List V} {cs : List Str}, RepL K dr Hf vs ds → strsD ds = some cs → vs = cs.map V.str
  | [], _, _, .nil, q => by simp [strsD] at q; subst q; rfl
  | .str b :: ds, _, _, .cons h l, q => by
    simp [strsD] at q
    obtain ⟨cs, q, rfl⟩ := q
    cases h
    rw [strs_ok l q]; rfl
  | .non :: ds, _, _, _, q => by simp [strsD] at q
  | .int _ :: ds, _, _, _, q => by simp [strsD] at q
  | .bl _ :: ds, _, _, _, q => by simp [strsD] at q
  | .tup _ :: ds, _, _, _, q => by simp [strsD] at q
  | .lst _ :: ds, _, _, _, q => by simp [strsD] at q
  | .dct _ :: ds, _, _, _, q => by simp [strsD] at q
  | .obj _ _ :: ds, _, _, _, q => by simp [strsD] at q
  | .ref _ :: ds, _, _, _, q => by simp [strsD] at q
  | .ty _ :: ds, _, _, _, q => by simp [strsD] at q
  | .drw :: ds, _, _, _, q => by simp [strsD] at q
  | .scr _ :: ds, _, _, _, q => by simp [strsD] at q
theorem strs_map (ns : List Str) : strsD (ns.map Dn.D.str) = some ns := by
  induction ns with
  | nil => rfl
  | cons n r ih => simp [strsD, ih]
theorem rep_strs {K : PySem.W.Frag} {dr : Addr} : ∀ (ys : List Str), RepL K dr Hf (ys.map V.str) (ys.map Dn.D.str)
  | [] => .nil
  | y :: ys => .cons (.str y) (rep_strs ys)
def E.tu : E → Option (List Dn.D)
  | .v (.tup ds) => some ds
  | _ => none
def gSplit : E → E → Option E
  | .v (.str x), .v (.str y) => if (y.length == 0) = false ∧ x.length + 2 ≤ sizeLine then some (.n ((Txt.split x y).map Dn.D.str)) else none
  | _, _ => none
def gPart : E → E → Option E
  | .v (.str x), .v (.str y) => if (y.length == 0) = false ∧ x.length ≤ sizeLine then some (.v (.tup [.str (Txt.partition x y).1, .str (Txt.partition x y).2.1, .str (Txt.partition x y).2.2])) else none
  | _, _ => none
def gEnds : E → E → Option E
  | .v (.str x), .v (.str y) => some (.v (.bl (Txt.endswith x y)))
  | _, _ => none
def gJoin : E → E → Option E := fun x y => match x.str? with
  | some a => match (match y.ls with | some ds => some ds | none => y.tu) with
    | some ds => match strsD ds with
      | some ys => if (ys.map (·.length)).sum + ys.length * a.length ≤ 16777216 then some (.v (.str (Txt.join a ys))) else none
      | none => none
    | none => none
  | none => none
theorem oj_split : OpJ B (fun x y H Q => ∃ a b, x = .str a ∧ [y] = [.str b] ∧ (b.length == 0) = false ∧ a.length + 2 ≤ sizeLine ∧ rNewStrs (Txt.split a b) H Q) gSplit := fun bs σ H ρ S Hf Hs1 Hs2 x y e1 e2 e Q r h1 h2 q k => by
  unfold gSplit at q
  split at q
  · split at q
    · rename_i hc
      cases q
      cases h1.v_ok
      cases h2.v_ok
      exact ⟨_, _, rfl, rfl, hc.1, hc.2, fun p hp => VP.newL r k (rep_strs _) hp⟩
    · cases q
  · cases q
theorem oj_part : OpJ B (fun x y H Q => ∃ a b, x = .str a ∧ [y] = [.str b] ∧ (b.length == 0) = false ∧ a.length ≤ sizeLine ∧
    ∀ p, H p = none → Q (.ref p) (upd H p (.tup [.str (Txt.partition a b).1, .str (Txt.partition a b).2.1, .str (Txt.partition a b).2.2]))) gPart := fun bs σ H ρ S Hf Hs1 Hs2 x y e1 e2 e Q r h1 h2 q k => by
  unfold gPart at q
  split at q
  · split at q
    · rename_i hc
      cases q
      cases h1.v_ok
      cases h2.v_ok
      exact ⟨_, _, rfl, rfl, hc.1, hc.2, fun p hp => VP.newT r k (.cons (.str _) (.cons (.str _) (.cons (.str _) .nil))) hp⟩
    · cases q
  · cases q
theorem oj_ends : OpJ B (fun x y H Q => ∃ a b, x = .str a ∧ [y] = [.str b] ∧ Q (.bl (Txt.endswith a b)) H) gEnds := fun bs σ H ρ S Hf Hs1 Hs2 x y e1 e2 e Q r h1 h2 q k => by
  unfold gEnds at q
  split at q
  · cases q
    cases h1.v_ok
    cases h2.v_ok
    exact ⟨_, _, rfl, rfl, VP.now r k (Rep.bl _)⟩
  · cases q
theorem oj_join : OpJ B (fun x y H Q => ∃ a p, ∃ ys : List Str, x = .str a ∧ [y] = [.ref p] ∧ (SqL B.K H p (ys.map V.str) ∨ SqT B.K H p (ys.map V.str)) ∧
    (ys.map (·.length)).sum + ys.length * a.length ≤ 16777216 ∧ Q (.str (Txt.join a ys)) H) gJoin := fun bs σ H ρ S Hf Hs1 Hs2 x y e1 e2 e Q r h1 h2 q k => by
  unfold gJoin at q
  split at q
  · rename_i a qa
    cases h1.str qa
    split at q
    · rename_i ds qd
      split at q
      · rename_i ys qy
        split at q
        · rename_i hc
          cases q
          cases ql : e2.ls with
          | some ds' =>
            rw [ql] at qd
            cases qd
            obtain ⟨p, vs, rfl, t, l⟩ := h2.ls r ql
            rw [strs_ok l qy] at t
            exact ⟨_, p, ys, rfl, rfl, .inl (SqL.of t), hc, VP.now r k (Rep.str _)⟩
          | none =>
            rw [ql] at qd
            dsimp only at qd
            cases e2 with
            | v d =>
              cases d <;> simp [E.tu] at qd
              subst qd
              obtain ⟨p, vs, rfl, t, l⟩ := rep_tup (Ex.refl Hf) h2.v_ok
              rw [strs_ok l qy] at t
              exact ⟨_, p, ys, rfl, rfl, .inr (ex_t r.ex t), hc, VP.now r k (Rep.str _)⟩
            | _ => cases qd
        · cases q
      · cases q
    · cases q
  · cases q
theorem je_split {apos : Pos} (ha : JE X W B a fa) (hb : JE X W B b fb) (hs : starEach [b] X.env = [(false, eval b X.env)] := by exact star_1 rfl) (hbase : attributeBase a "split" X.env (eval a X.env) = eval a X.env := by rfl) (hline : (apos.endLine == pos.line) = true := by rfl) :
    JE X W B (.Call (.Attribute a "split" apos) [b] [] pos) (fM1 gSplit fa fb) := je_m1 PySem.F.slot_str_split PySem.F.type_str_split mt_split oj_split ha hb hs hbase hline
theorem je_part {apos : Pos} (ha : JE X W B a fa) (hb : JE X W B b fb) (hs : starEach [b] X.env = [(false, eval b X.env)] := by exact star_1 rfl) (hbase : attributeBase a "partition" X.env (eval a X.env) = eval a X.env := by rfl) (hline : (apos.endLine == pos.line) = true := by rfl) :
    JE X W B (.Call (.Attribute a "partition" apos) [b] [] pos) (fM1 gPart fa fb) := je_m1 PySem.F.slot_str_partition PySem.F.type_str_partition mt_partition oj_part ha hb hs hbase hline
theorem je_ends {apos : Pos} (ha : JE X W B a fa) (hb : JE X W B b fb) (hs : starEach [b] X.env = [(false, eval b X.env)] := by exact star_1 rfl) (hbase : attributeBase a "endswith" X.env (eval a X.env) = eval a X.env := by rfl) (hline : (apos.endLine == pos.line) = true := by rfl) :
    JE X W B (.Call (.Attribute a "endswith" apos) [b] [] pos) (fM1 gEnds fa fb) := je_m1 PySem.F.slot_str_endswith PySem.F.type_str_endswith mt_endswith oj_ends ha hb hs hbase hline
theorem je_join {apos : Pos} (hK : X.K = B.K) (ha : JE X W B a fa) (hb : JE X W B b fb) (hs : starEach [b] X.env = [(false, eval b X.env)] := by exact star_1 rfl) (hbase : attributeBase a "join" X.env (eval a X.env) = eval a X.env := by rfl) (hline : (apos.endLine == pos.line) = true := by rfl) :
    JE X W B (.Call (.Attribute a "join" apos) [b] [] pos) (fM1 gJoin fa fb) := je_m1 PySem.F.slot_str_join PySem.F.type_str_join (hK ▸ mt_join (X := X)) oj_join ha hb hs hbase hline

/-! ### a sign in a text -/
def gInSg (neg : Bool) : E → E → Option E
  | .v (.str x), .v (.str z) => match x.cps.toList with
    | [c] => some (.v (.bl (if neg then !decide (c ∈ z.cps.toList) else decide (c ∈ z.cps.toList))))
    | _ => none
  | _, _ => none
theorem sg_eq {x : Str} {c : Nat} (h : x.cps.toList = [c]) : x = ⟨#[c]⟩ := by
  cases x with
  | mk a => congr 1; apply Array.ext'; exact h
theorem oj_inSg : OpJ B (fun x y H Q => ∃ (c : Nat) (z : Str), x = .str ⟨#[c]⟩ ∧ y = .str z ∧ Q (.bl (decide (c ∈ z.cps.toList))) H) (gInSg false) := fun bs σ H ρ S Hf Hs1 Hs2 x y e1 e2 e Q r h1 h2 q k => by
  unfold gInSg at q
  split at q
  · split at q
    · rename_i c hc
      cases q
      cases h1.v_ok
      cases h2.v_ok
      exact ⟨c, _, by rw [← sg_eq hc], rfl, VP.now r k (Rep.bl _)⟩
    · cases q
  · cases q
theorem oj_notInSg : OpJ B (fun x y H Q => ∃ (c : Nat) (z : Str), x = .str ⟨#[c]⟩ ∧ y = .str z ∧ Q (.bl (!decide (c ∈ z.cps.toList))) H) (gInSg true) := fun bs σ H ρ S Hf Hs1 Hs2 x y e1 e2 e Q r h1 h2 q k => by
  unfold gInSg at q
  split at q
  · split at q
    · rename_i c hc
      cases q
      cases h1.v_ok
      cases h2.v_ok
      exact ⟨c, _, by rw [← sg_eq hc], rfl, VP.now r k (Rep.bl _)⟩
    · cases q
  · cases q

/-! ### a text is walked -/
theorem wk_str {z : Str} {Hf1 H1 : Hp} : Wk B bs c Hf1 H1 (Its z) (z.cps.toList.map fun c => Dn.D.str ⟨#[c]⟩) := by
  refine ⟨fun _ => True, fun i H v H' => H' = H ∧ ∃ c, z.cps[i]? = some c ∧ v = .str ⟨#[c]⟩, by rw [List.length_map, Array.length_toList]; exact walk_str, fun _ _ _ _ _ _ _ _ => trivial, fun i Hf H ρ S σ v H' hi r x g y => ?_⟩
  obtain ⟨rfl, u, hu, rfl⟩ := y
  exact ⟨.str ⟨#[u]⟩, Hf, by rw [List.getElem?_map, Array.getElem?_toList, hu]; rfl, r.nx0, r.drw, .str _⟩
def itEs (c : Bool) : E → Option (List Dn.D)
  | .v (.str z) => some (z.cps.toList.map fun c => Dn.D.str ⟨#[c]⟩)
  | e => itE c e
def fItrs (c : Bool) (fa : Env → Dr → Out E) : Env → Dr → Out (List Dn.D) := fun ρ S => (fa ρ S).bind fun e S1 => Out.of (itEs c e) S1
/-- lists, tuples and texts -/
theorem ji_seqs (hK : X.K = B.K) (ha : JE X W B a fa) : JI X W B c tg a (fItrs c fa) := by
  obtain ⟨wi, pw, qw⟩ := ji_seq (c := c) (tg := tg) hK ha
  refine ⟨_, PI.or pw (pi_str pe_W), fun bs σ H ρ S Hf P r h => ?_⟩
  unfold fItrs at h
  by_cases ht : ∃ z S1, fa ρ S = .ok (.v (.str z)) S1
  · obtain ⟨z, S1, q⟩ := ht
    rw [q] at h
    refine .inr ?_
    show tW X a σ H fun x H1 => ∃ y, x = .str y ∧ P (Its y) H1
    refine ha.go bs σ H ρ S Hf _ r ?_
    rw [q]
    intro v Hf1 H1 n d z1
    cases z1.v_ok
    exact ⟨_, rfl, h _ H1 Hf1 (r.next n d) n wk_str⟩
  · refine .inl (qw bs σ H ρ S Hf P r ?_)
    unfold fItr
    cases q : fa ρ S with
    | stk => rw [q] at h; exact h
    | exc C fs S1 => rw [q] at h; exact h
    | ok e S1 =>
      rw [q] at h
      have e2 : itEs c e = itE c e := by
        cases e with
        | v d => cases d <;> first | rfl | exact (ht ⟨_, _, q⟩).elim
        | _ => rfl
      have h : IPost B W bs c ρ σ Hf H (Out.of (itEs c e) S1) P := h
      rw [e2] at h
      exact h

/-! ### a, b = x, y -/
def sPar (i j : Nat) (fr : Env → Dr → Out (List O)) : Env → Dr → SO := fun ρ S => if i < ρ.length ∧ j < ρ.length then (fr ρ S).so ρ fun os S1 => match os with
  | [.v d1, .v d2] => .nx ((ρ.set i (some (.v d1))).set j (some (.v d2))) S1
  | _ => .stk else .stk
def sPar3 (i j l : Nat) (fr : Env → Dr → Out (List O)) : Env → Dr → SO := fun ρ S => if i < ρ.length ∧ j < ρ.length ∧ l < ρ.length then (fr ρ S).so ρ fun os S1 => match os with
  | [.v d1, .v d2, .v d3] => .nx (((ρ.set i (some (.v d1))).set j (some (.v d2))).set l (some (.v d3))) S1
  | _ => .stk else .stk
theorem js_par (i j : Nat) {x y : Str} {px py pt : Pos} {kt k2 pt2} (hc : X.calm = true) (hN : X.N.Nodup) (ha : JA X W B [a, b] fr) (hij : i ≠ j := by decide) (hi : X.N[i]? = some x := by rfl) (hj : X.N[j]? = some y := by rfl)
    (hx : X.env.scope.names.lookup x = some .local := by rfl) (hy : X.env.scope.names.lookup y = some .local := by rfl)
    (hw : swappedStores [.Tuple [.Name x px, .Name y py] kt pt] (.Tuple [a, b] k2 pt2) X.env = pure (some [x, y]) := by rfl)
    (hs : swapsWithSole [.Tuple [.Name x px, .Name y py] kt pt] (.Tuple [a, b] k2 pt2) pos.line X.env = pure false := by rfl) :
    JS X W B (.Assign [.Tuple [.Name x px, .Name y py] kt pt] (.Tuple [a, b] k2 pt2) pos) (sPar i j fr) :=
  JS.mk (ps_par hc hN hi hj hij hx hy pa_W hw hs) fun bs σ H ρ S Hf D r h => by
    show tWA X [a, b] σ H fun vs H1 => ∃ v w, vs = [v, w] ∧ D.nx ((σ.set i (some v)).set j (some w)) H1
    unfold sPar at h
    split at h
    · rename_i hl
      refine ha.so r h fun os S1 vs H1 Hf1 r1 n1 z1 q => ?_
      split at q
      · obtain ⟨v, w, rfl, h1, h2⟩ := as2 z1
        exact ⟨v, w, rfl, q _ Hf1 H1 ((r1.store (o := .v _) hl.1 (show SlR B bs Hf1 H1 v (.v _) from h1) fun w => by cases w).store (o := .v _) (by rw [List.length_set]; exact hl.2) (show SlR B bs Hf1 H1 w (.v _) from h2) fun w => by cases w)⟩
      · exact q.elim
    · exact h.elim
theorem as3 {vs : List V} {o o2 o3 : O} (z : AsR B Hf H vs [o, o2, o3]) : ∃ v v2 v3, vs = [v, v2, v3] ∧ ArR B Hf H v o ∧ ArR B Hf H v2 o2 ∧ ArR B Hf H v3 o3 := by
  cases z with | cons h t => obtain ⟨v2, v3, rfl, h2, h3⟩ := as2 t; exact ⟨_, _, _, rfl, h, h2, h3⟩
theorem js_par3 (i j l : Nat) {cc : Expr} {x y z : Str} {px py pz pt : Pos} {kt k2 pt2} (hc : X.calm = true) (hN : X.N.Nodup) (ha : JA X W B [a, b, cc] fr) (hij : i ≠ j := by decide) (hil : i ≠ l := by decide) (hjl : j ≠ l := by decide) (hi : X.N[i]? = some x := by rfl) (hj : X.N[j]? = some y := by rfl) (hl : X.N[l]? = some z := by rfl)
    (hx : X.env.scope.names.lookup x = some .local := by rfl) (hy : X.env.scope.names.lookup y = some .local := by rfl) (hz : X.env.scope.names.lookup z = some .local := by rfl)
    (hw : swappedStores [.Tuple [.Name x px, .Name y py, .Name z pz] kt pt] (.Tuple [a, b, cc] k2 pt2) X.env = pure (some [x, y, z]) := by rfl)
    (hs : swapsWithSole [.Tuple [.Name x px, .Name y py, .Name z pz] kt pt] (.Tuple [a, b, cc] k2 pt2) pos.line X.env = pure false := by rfl) :
    JS X W B (.Assign [.Tuple [.Name x px, .Name y py, .Name z pz] kt pt] (.Tuple [a, b, cc] k2 pt2) pos) (sPar3 i j l fr) :=
  JS.mk (ps_par3 hc hN hi hj hl hij hil hjl hx hy hz pa_W hw hs) fun bs σ H ρ S Hf D r h => by
    show tWA X [a, b, cc] σ H fun vs H1 => ∃ u v w, vs = [u, v, w] ∧ D.nx (((σ.set i (some u)).set j (some v)).set l (some w)) H1
    unfold sPar3 at h
    split at h
    · rename_i hl
      refine ha.so r h fun os S1 vs H1 Hf1 r1 n1 z1 q => ?_
      split at q
      · obtain ⟨u, v, w, rfl, h1, h2, h3⟩ := as3 z1
        exact ⟨u, v, w, rfl, q _ Hf1 H1 (((r1.store (o := .v _) hl.1 (show SlR B bs Hf1 H1 u (.v _) from h1) fun w => by cases w).store (o := .v _) (by rw [List.length_set]; exact hl.2.1) (show SlR B bs Hf1 H1 v (.v _) from h2) fun w => by cases w).store (o := .v _) (by rw [List.length_set, List.length_set]; exact hl.2.2) (show SlR B bs Hf1 H1 w (.v _) from h3) fun w => by cases w)⟩
      · exact q.elim
    · exact h.elim
end
end Dn

set_option Elab.async false
set_option linter.all false
set_option maxRecDepth 100000
set_option maxHeartbeats 4000000
namespace Dn
open PySem PySem.Spec PyProof.Rows L2

/-! ### comprehensions, loops, with draws in them -/
section
variable {tgt : D → Env → Option Env} {ft : Env → Dr → Out Bool} {fe : Env → Dr → Out E} {ρ : Env}
/-- each turn makes at most k draws -/
theorem lc_draw {G : D → Prop} {k : Nat} : ∀ (ds : List D) (S : Dr) (t : Nat), OkD t S → (∀ d ∈ ds, ∀ S t', OkD t' S → t' + k ≤ t + k * ds.length → ∃ ρ1, tgt d ρ = some ρ1 ∧ (ft ρ1 S).w (fun c S1 => if c = true then (fe ρ1 S1).w (fun e S2 => ∃ x, per e = some x ∧ G x ∧ OkD (t' + k) S2) noX' else OkD (t' + k) S1) noX') →
    ∃ xs S', lcD tgt ft fe ρ ds S = .ok xs S' ∧ xs.length ≤ ds.length ∧ (∀ x ∈ xs, G x) ∧ OkD (t + k * ds.length) S'
  | [], S, t, hS, _ => ⟨[], S, rfl, Nat.le_refl _, by simp, hS⟩
  | d :: ds, S, t, hS, h => by
    obtain ⟨ρ1, e1, w⟩ := h d (by simp) S t hS (by rw [List.length_cons, Nat.mul_add]; omega)
    have ih := fun S (hS : OkD (t + k) S) => lc_draw ds S (t + k) hS fun d' m S t' a b => h d' (by simp [m]) S t' a (by rw [List.length_cons, Nat.mul_add]; omega)
    rw [lcD, e1]
    dsimp only
    cases q : ft ρ1 S with
    | stk => rw [q] at w; exact w.elim
    | exc C fs S1 => rw [q] at w; exact w.elim
    | ok c S1 =>
      rw [q] at w
      cases c with
      | false =>
        have w : OkD (t + k) S1 := w
        obtain ⟨xs, S', e2, l, g, o⟩ := ih S1 w
        exact ⟨xs, S', e2, by simp; omega, g, by rw [List.length_cons, Nat.mul_add]; exact o.mono (by omega)⟩
      | true =>
        have w : (fe ρ1 S1).w (fun e S2 => ∃ x, per e = some x ∧ G x ∧ OkD (t + k) S2) noX' := w
        show ∃ xs S', ((fe ρ1 S1).bind fun e S2 => match per e with
          | none => Out.stk
          | some x => (lcD tgt ft fe ρ ds S2).bind fun xs S3 => .ok (x :: xs) S3) = .ok xs S' ∧ _
        cases q2 : fe ρ1 S1 with
        | stk => rw [q2] at w; exact w.elim
        | exc C fs S1 => rw [q2] at w; exact w.elim
        | ok e S2 =>
          rw [q2] at w
          obtain ⟨x, p, gx, w⟩ := w
          obtain ⟨xs, S', e2, l, g, o⟩ := ih S2 w
          refine ⟨x :: xs, S', ?_, by simp; omega, ?_, by rw [List.length_cons, Nat.mul_add]; exact o.mono (by omega)⟩
          · show (match per e with
              | none => Out.stk
              | some x => (lcD tgt ft fe ρ ds S2).bind fun xs S3 => .ok (x :: xs) S3) = _
            rw [p]
            dsimp only
            rw [e2]
            rfl
          · intro z m
            rcases List.mem_cons.mp m with rfl | m
            · exact gx
            · exact g z m
/-- .. without a test -/
theorem lc_draw1 {G : D → Prop} {k : Nat} : ∀ (ds : List D) (S : Dr) (t : Nat), OkD t S → (∀ d ∈ ds, ∀ S t', OkD t' S → t' + k ≤ t + k * ds.length → ∃ ρ1, tgt d ρ = some ρ1 ∧ (fe ρ1 S).w (fun e S2 => ∃ x, per e = some x ∧ G x ∧ OkD (t' + k) S2) noX') →
    ∃ xs S', lcD tgt fYes fe ρ ds S = .ok xs S' ∧ xs.length = ds.length ∧ (∀ x ∈ xs, G x) ∧ OkD (t + k * ds.length) S'
  | [], S, t, hS, _ => ⟨[], S, rfl, rfl, by simp, hS⟩
  | d :: ds, S, t, hS, h => by
    obtain ⟨ρ1, e1, w⟩ := h d (by simp) S t hS (by rw [List.length_cons, Nat.mul_add]; omega)
    have ih := fun S (hS : OkD (t + k) S) => lc_draw1 ds S (t + k) hS fun d' m S t' a b => h d' (by simp [m]) S t' a (by rw [List.length_cons, Nat.mul_add]; omega)
    rw [lcD, e1]
    show ∃ xs S', ((fe ρ1 S).bind fun e S2 => match per e with
      | none => Out.stk
      | some x => (lcD tgt fYes fe ρ ds S2).bind fun xs S3 => .ok (x :: xs) S3) = .ok xs S' ∧ _
    cases q2 : fe ρ1 S with
    | stk => rw [q2] at w; exact w.elim
    | exc C fs S1 => rw [q2] at w; exact w.elim
    | ok e S2 =>
      rw [q2] at w
      obtain ⟨x, p, gx, w⟩ := w
      obtain ⟨xs, S', e2, l, g, o⟩ := ih S2 w
      refine ⟨x :: xs, S', ?_, by simp [l], ?_, by rw [List.length_cons, Nat.mul_add]; exact o.mono (by omega)⟩
      · show (match per e with
          | none => Out.stk
          | some x => (lcD tgt fYes fe ρ ds S2).bind fun xs S3 => .ok (x :: xs) S3) = _
        rw [p]
        dsimp only
        rw [e2]
        rfl
      · intro z m
        rcases List.mem_cons.mp m with rfl | m
        · exact gx
        · exact g z m
/-- nothing is drawn: the items one by one -/
theorem lc_map {S : Dr} (f : D → D) : ∀ (ds : List D), (∀ d ∈ ds, ∃ ρ1, tgt d ρ = some ρ1 ∧ (fe ρ1 S).w (fun e S2 => per e = some (f d) ∧ S2 = S) noX') → lcD tgt fYes fe ρ ds S = .ok (ds.map f) S
  | [], _ => rfl
  | d :: ds, h => by
    obtain ⟨ρ1, e1, w⟩ := h d (by simp)
    have ih := lc_map f ds fun d' m => h d' (by simp [m])
    rw [lcD, e1]
    show ((fe ρ1 S).bind fun e S2 => match per e with
      | none => Out.stk
      | some x => (lcD tgt fYes fe ρ ds S2).bind fun xs S3 => .ok (x :: xs) S3) = _
    cases q2 : fe ρ1 S with
    | stk => rw [q2] at w; exact w.elim
    | exc C fs S1 => rw [q2] at w; exact w.elim
    | ok e S2 =>
      rw [q2] at w
      obtain ⟨p, rfl⟩ := w
      show (match per e with
        | none => Out.stk
        | some x => (lcD tgt fYes fe ρ ds S2).bind fun xs S3 => .ok (x :: xs) S3) = _
      rw [p]
      dsimp only
      rw [ih]
      rfl
/-- .. with a test -/
theorem lc_filter {S : Dr} (p : D → Bool) (f : D → D) : ∀ (ds : List D), (∀ d ∈ ds, ∃ ρ1, tgt d ρ = some ρ1 ∧ (ft ρ1 S).w (fun c S1 => c = p d ∧ S1 = S) noX' ∧ (p d = true → (fe ρ1 S).w (fun e S2 => per e = some (f d) ∧ S2 = S) noX')) →
    lcD tgt ft fe ρ ds S = .ok ((ds.filter p).map f) S
  | [], _ => rfl
  | d :: ds, h => by
    obtain ⟨ρ1, e1, w0, w⟩ := h d (by simp)
    have ih := lc_filter p f ds fun d' m => h d' (by simp [m])
    rw [lcD, e1]
    dsimp only
    cases q : ft ρ1 S with
    | stk => rw [q] at w0; exact w0.elim
    | exc C fs S1 => rw [q] at w0; exact w0.elim
    | ok c S1 =>
      rw [q] at w0
      obtain ⟨rfl, rfl⟩ := w0
      cases hp : p d with
      | false =>
        show lcD tgt ft fe ρ ds S1 = _
        rw [ih, List.filter_cons_of_neg (by simp [hp])]
      | true =>
        have w := w hp
        show ((fe ρ1 S1).bind fun e S2 => match per e with
          | none => Out.stk
          | some x => (lcD tgt ft fe ρ ds S2).bind fun xs S3 => .ok (x :: xs) S3) = _
        cases q2 : fe ρ1 S1 with
        | stk => rw [q2] at w; exact w.elim
        | exc C fs S1 => rw [q2] at w; exact w.elim
        | ok e S2 =>
          rw [q2] at w
          obtain ⟨pe, rfl⟩ := w
          show (match per e with
            | none => Out.stk
            | some x => (lcD tgt ft fe ρ ds S2).bind fun xs S3 => .ok (x :: xs) S3) = _
          rw [pe]
          dsimp only
          rw [ih, List.filter_cons_of_pos hp]
          rfl
end
theorem Out.eq_w {α : Type} {e : α} {o : Out α} {S' : Dr} (h : o.w (fun a S1 => a = e ∧ S1 = S') noX') : o = .ok e S' := by
  cases o with
  | ok a S1 => obtain ⟨rfl, rfl⟩ := h; rfl
  | exc C fs S1 => exact h.elim
  | stk => exact h.elim
theorem Out.w_eq {α : Type} {P : α → Dr → Prop} {X : PX} {e : α} {o : Out α} {S' : Dr} (h : o = .ok e S') (k : P e S') : o.w P X := by rw [h]; exact k
/-- what holds of all, from one noX' reading -/
theorem Out.w.of {α : Type} {P P' : α → Dr → Prop} {X : PX} {o : Out α} (h : o.w P noX') (k : ∀ a S, P a S → P' a S) : o.w P' X := h.mono k fun _ _ _ z => z.elim
/-- the items of a list that are drawn from -/
theorem gIx_any {ds : List D} {x : E} (hx : x = .v (.lst ds) ∨ x = .b ds ∨ x = .n ds ∨ x = .v (.tup ds)) {r : Int} (h0 : 0 ≤ r) (h1 : r < ds.length) : ∃ d ∈ ds, gIx x (.v (.int r)) = some (.v d) := by
  obtain ⟨i, rfl⟩ : ∃ i : Nat, r = (i : Int) := ⟨r.toNat, by omega⟩
  have hi : i < ds.length := by omega
  refine ⟨ds[i], List.getElem_mem hi, ?_⟩
  have e : atI ds (i : Int) = some ds[i] := atI_nat (by simp [hi])
  rcases hx with rfl | rfl | rfl | rfl
  · show (atI ds (i : Int)).map E.v = _; rw [e]; rfl
  · show (atI ds (i : Int)).map E.v = _; rw [e]; rfl
  · show (atI ds (i : Int)).map E.v = _; rw [e]; rfl
  · show (atI ds (i : Int)).map E.v = _; rw [e]; rfl
end Dn

set_option Elab.async false
set_option linter.all false
set_option maxRecDepth 100000
set_option maxHeartbeats 4000000
namespace Dn
open PySem PySem.Spec PyProof.Rows L2

/-! ### values, more -/
@[simp] theorem szl : sizeLine = 16777216 := sizeLine_eq
@[simp] theorem vals_nil : vals [] = some [] := rfl
@[simp] theorem vals_cons {d : D} {os : List O} : vals (.v d :: os) = (vals os).map (d :: ·) := rfl
@[simp] theorem gLstD_eq {os : List O} : gLstD os = (vals os).bind fun ds => if ds.length ≤ 16777216 then some (.n ds) else none := by
  unfold gLstD
  rw [szl]
  cases vals os <;> rfl
@[simp] theorem gTupD_eq {os : List O} : gTupD os = (vals os).bind fun ds => if ds.length ≤ 16777216 then some (.v (.tup ds)) else none := by
  unfold gTupD
  rw [szl]
  cases vals os <;> rfl
@[simp] theorem wipe_nil' {ρ : Env} : wipeE ρ [] = ρ := rfl
@[simp] theorem wipe_cons' {ρ : Env} {i : Nat} {r : List Nat} : wipeE ρ (i :: r) = (wipeE ρ r).set i none := rfl
@[simp] theorem tgN_eq {i : Nat} {d : D} {ρ : Env} : tgN i d ρ = if i < ρ.length then some (ρ.set i (some (.v d))) else none := rfl
@[simp] theorem tgNil_nil {ρ : Env} : tgNil [] ρ = some ρ := rfl
@[simp] theorem tgCons_cons {g : D → Env → Option Env} {gs : List D → Env → Option Env} {d : D} {r : List D} {ρ : Env} : tgCons g gs (d :: r) ρ = (g d ρ).bind (gs r) := rfl
@[simp] theorem tgT_tup {n : Nat} {gs : List D → Env → Option Env} {ds : List D} {ρ : Env} : tgT n gs (.tup ds) ρ = if ds.length = n then gs ds ρ else none := rfl
@[simp] theorem stO_v {d : D} : stO (.v d) = some (.v d) := rfl
@[simp] theorem stO_n {d : List D} : stO (.n d) = some (.l d) := rfl
@[simp] theorem stO_nd {d : List (Key × D)} : stO (.nd d) = some (.d d) := rfl
@[simp] theorem toO_nd {d : List (Key × D)} : toO (.nd d) = .v (.dct d) := rfl
@[simp] theorem toO_bd {d : List (Key × D)} : toO (.bd d) = .ld d := rfl
@[simp] theorem per_n {d : List D} : per (.n d) = some (.lst d) := rfl
@[simp] theorem per_nd {d : List (Key × D)} : per (.nd d) = some (.dct d) := rfl
@[simp] theorem gTupleOf_l {ds : List D} : gTupleOf [.v (.lst ds)] = some (.v (.tup ds)) := rfl
@[simp] theorem gTupleOf_lt {ds : List D} : gTupleOf [.lt ds] = some (.v (.tup ds)) := rfl
@[simp] theorem gTupleOf_t {ds : List D} : gTupleOf [.v (.tup ds)] = some (.v (.tup ds)) := rfl
@[simp] theorem gListOf_l {ds : List D} : gListOf [.v (.lst ds)] = some (.n ds) := rfl
@[simp] theorem gListOf_lt {ds : List D} : gListOf [.lt ds] = some (.n ds) := rfl
@[simp] theorem gListOf_t {ds : List D} : gListOf [.v (.tup ds)] = some (.n ds) := rfl
@[simp] theorem gIntOf_int {i : Int} : gIntOf [.v (.int i)] = some (.v (.int i)) := rfl
@[simp] theorem gIntOf_bl {b : Bool} : gIntOf [.v (.bl b)] = some (.v (.int (if b then 1 else 0))) := rfl
theorem gMul_int {i j : Int} (h : CMul i j) : gMul (.v (.int i)) (.v (.int j)) = some (.v (.int (i * j))) := by
  show (match gMulI (.v (.int i)) (.v (.int j)) with | some e => some e | none => gMulL _ _) = _
  have : gMulI (.v (.int i)) (.v (.int j)) = some (.v (.int (i * j))) := by
    show (if CMul i j then some (D.int (i * j)) else none).map E.v = _
    rw [if_pos h]
    rfl
  rw [this]
theorem gPow_int {i j : Int} (h : CPow i j) : gPow (.v (.int i)) (.v (.int j)) = some (.v (.int (i ^ j.toNat))) := by
  show (if CPow i j then some (D.int (i ^ j.toNat)) else none).map E.v = _
  rw [if_pos h]
  rfl
theorem gMod_int {i j : Int} (h : j ≠ 0) : gMod (.v (.int i)) (.v (.int j)) = some (.v (.int (i.fmod j))) := by
  show (if j ≠ 0 then some (D.int (i.fmod j)) else none).map E.v = _
  rw [if_pos h]
  rfl
theorem gFdiv_int {i j : Int} (h : CDivN i j) : gFdiv (.v (.int i)) (.v (.int j)) = some (.v (.int (i.fdiv j))) := by
  show (if CDivN i j then some (D.int (i.fdiv j)) else none).map E.v = _
  rw [if_pos h]
  rfl
@[simp] theorem gPow_1030 : gPow (.v (.int 10)) (.v (.int 30)) = some (.v (.int (10 ^ 30))) := gPow_int (by unfold CPow; decide)
@[simp] theorem gPow_1040 : gPow (.v (.int 10)) (.v (.int 40)) = some (.v (.int (10 ^ 40))) := gPow_int (by unfold CPow; decide)
theorem gMul_l {x : E} {ds : List D} {k : Int} (hx : x.ls = some ds) (hn : x.int? = none) (h : -(2 ^ 63) ≤ k ∧ k < 2 ^ 63 ∧ ds.length * k.toNat ≤ sizeLine) : gMul x (.v (.int k)) = some (.n (List.replicate k.toNat ds).flatten) := by
  have e1 : gMulI x (.v (.int k)) = none := by
    cases x with
    | v d => cases d <;> first | rfl | (simp [E.int?] at hn)
    | _ => rfl
  show (match gMulI x (.v (.int k)) with | some e => some e | none => gMulL x (.v (.int k))) = _
  rw [e1]
  show (match x.ls, E.v (.int k) with
    | some a, .v (.int k) => if -(2 ^ 63) ≤ k ∧ k < 2 ^ 63 ∧ a.length * k.toNat ≤ sizeLine then some (E.n (List.replicate k.toNat a).flatten) else none
    | _, _ => none) = _
  rw [hx]
  exact if_pos h
@[simp] theorem gAdd_tt {a b : List D} : gAdd (.v (.tup a)) (.v (.tup b)) = if a.length + b.length ≤ 16777216 then some (.v (.tup (a ++ b))) else none := by
  show (match gAddT (.v (.tup a)) (.v (.tup b)) with | some e => some e | none => gAddL _ _) = _
  show (match (if a.length + b.length ≤ sizeLine then some (E.v (.tup (a ++ b))) else none) with | some e => some e | none => none) = _
  rw [szl]
  split <;> split <;> simp_all
theorem gAdd_ls {x y : E} {a b : List D} (hx : x.ls = some a) (hy : y.ls = some b) : gAdd x y = if a.length + b.length ≤ 16777216 then some (.n (a ++ b)) else none := by
  have e1 : gAddI x y = none := by
    cases x with
    | v d => cases d <;> first | rfl | (simp [E.ls] at hx)
    | _ => rfl
  have e2 : gAddS x y = none := by
    cases x with
    | v d => cases d <;> first | rfl | (simp [E.ls] at hx)
    | _ => rfl
  have e3 : gAddT x y = none := by
    cases x with
    | v d => cases d <;> first | rfl | (simp [E.ls] at hx)
    | _ => rfl
  unfold gAdd
  rw [e1, e2, e3]
  dsimp only
  unfold gAddL
  rw [hx, hy, szl]
@[simp] theorem gAdd_nn {a b : List D} : gAdd (.n a) (.n b) = if a.length + b.length ≤ 16777216 then some (.n (a ++ b)) else none := gAdd_ls rfl rfl
@[simp] theorem gAdd_ln {a b : List D} : gAdd (.v (.lst a)) (.n b) = if a.length + b.length ≤ 16777216 then some (.n (a ++ b)) else none := gAdd_ls rfl rfl
@[simp] theorem gAdd_nl {a b : List D} : gAdd (.n a) (.v (.lst b)) = if a.length + b.length ≤ 16777216 then some (.n (a ++ b)) else none := gAdd_ls rfl rfl
@[simp] theorem gAdd_ll {a b : List D} : gAdd (.v (.lst a)) (.v (.lst b)) = if a.length + b.length ≤ 16777216 then some (.n (a ++ b)) else none := gAdd_ls rfl rfl
@[simp] theorem gAdd_bn {a b : List D} : gAdd (.b a) (.n b) = if a.length + b.length ≤ 16777216 then some (.n (a ++ b)) else none := gAdd_ls rfl rfl
@[simp] theorem gAdd_bl {a b : List D} : gAdd (.b a) (.v (.lst b)) = if a.length + b.length ≤ 16777216 then some (.n (a ++ b)) else none := gAdd_ls rfl rfl
@[simp] theorem gAdd_bb {a b : List D} : gAdd (.b a) (.b b) = if a.length + b.length ≤ 16777216 then some (.n (a ++ b)) else none := gAdd_ls rfl rfl
@[simp] theorem gAdd_lb {a b : List D} : gAdd (.v (.lst a)) (.b b) = if a.length + b.length ≤ 16777216 then some (.n (a ++ b)) else none := gAdd_ls rfl rfl
@[simp] theorem gAdd_nb {a b : List D} : gAdd (.n a) (.b b) = if a.length + b.length ≤ 16777216 then some (.n (a ++ b)) else none := gAdd_ls rfl rfl
@[simp] theorem gRev_t {ds : List D} : gRev (.v (.tup ds)) = some (.v (.tup ds.reverse)) := rfl
@[simp] theorem gRev_l {ds : List D} : gRev (.v (.lst ds)) = some (.n ds.reverse) := rfl
@[simp] theorem gRev_n {ds : List D} : gRev (.n ds) = some (.n ds.reverse) := rfl
@[simp] theorem gRev_b {ds : List D} : gRev (.b ds) = some (.n ds.reverse) := rfl
@[simp] theorem gIsB_bl {a b : Bool} : gIsB (.v (.bl a)) (.v (.bl b)) = some (.v (.bl (decide (a = b)))) := rfl
@[simp] theorem itE_t {c : Bool} {ds : List D} : itE c (.v (.tup ds)) = some ds := rfl
@[simp] theorem itE_l {c : Bool} {ds : List D} : itE c (.v (.lst ds)) = some ds := rfl
@[simp] theorem itE_n {c : Bool} {ds : List D} : itE c (.n ds) = some ds := rfl
@[simp] theorem itE_b {ds : List D} : itE true (.b ds) = some ds := rfl
@[simp] theorem str_str {x : Str} : E.str? (.v (.str x)) = some x := rfl
@[simp] theorem isNone_non : isNone (.v .non) = true := rfl
@[simp] theorem isNone_int {i : Int} : isNone (.v (.int i)) = false := rfl
@[simp] theorem isNone_bl {i : Bool} : isNone (.v (.bl i)) = false := rfl
@[simp] theorem isNone_str {i : Str} : isNone (.v (.str i)) = false := rfl
@[simp] theorem isNone_tup {i : List D} : isNone (.v (.tup i)) = false := rfl
@[simp] theorem isNone_lst {i : List D} : isNone (.v (.lst i)) = false := rfl
@[simp] theorem isNone_obj {C : Addr} {i : List (Str × D)} : isNone (.v (.obj C i)) = false := rfl
@[simp] theorem isNone_n {i : List D} : isNone (.n i) = false := rfl
@[simp] theorem isNone_b {i : List D} : isNone (.b i) = false := rfl
section
variable {P : E → Dr → Prop} {X : PX} {S : Dr} {ρ : Env} {K : Kt} {fa fb : Env → Dr → Out E} {fr : Env → Dr → Out (List O)}
@[simp] theorem w_m1 {g : E → E → Option E} : (fM1 g fa fb ρ S).w P X = (fa ρ S).w (fun x S1 => ∃ z, x.str? = some z ∧ (fb ρ S1).w (fun y S2 => ∃ e, g x y = some e ∧ P e S2) X) X := by
  unfold fM1
  rw [w_bind]
  congr 1
  funext x S1
  cases hx : x.str? with
  | none => exact propext ⟨fun h => h.elim, fun ⟨_, h, _⟩ => by cases h⟩
  | some z =>
    show ((fb ρ S1).bind fun y S2 => Out.of (g x y) S2).w P X = _
    simp only [w_bind, w_of]
    exact propext ⟨fun h => ⟨z, rfl, h⟩, fun ⟨_, h, k⟩ => k⟩
@[simp] theorem w_itrs {c : Bool} {P : List D → Dr → Prop} : (fItrs c fa ρ S).w P X = (fa ρ S).w (fun e S1 => ∃ ds, itEs c e = some ds ∧ P ds S1) X := by
  unfold fItrs
  simp only [w_bind, w_of]
@[simp] theorem w_asg {g : D → Env → Option Env} : (sAsg g fa ρ S).w K = (fa ρ S).w (fun e S1 => ∃ d, per e = some d ∧ ∃ ρ', g d ρ = some ρ' ∧ K.nx ρ' S1) (fun C fs S1 => K.ex C fs ρ S1) := by
  unfold sAsg
  rw [w_so]
  congr 1
  funext e S1
  cases per e with
  | none => exact propext ⟨fun h => h.elim, fun ⟨_, h, _⟩ => by cases h⟩
  | some d =>
    show (match g d ρ with | some ρ' => SO.nx ρ' S1 | none => .stk : SO).w K = _
    cases hg : g d ρ with
    | none => exact propext ⟨fun h => h.elim, fun ⟨_, h, _, k, _⟩ => by cases h; rw [hg] at k; cases k⟩
    | some ρ' => exact propext ⟨fun h => ⟨d, rfl, ρ', hg, h⟩, fun ⟨_, h, _, k, q⟩ => by cases h; rw [hg] at k; cases k; exact q⟩
@[simp] theorem w_par {i j : Nat} : (sPar i j fr ρ S).w K = (i < ρ.length ∧ j < ρ.length ∧ (fr ρ S).w (fun os S1 => ∃ d1 d2, os = [.v d1, .v d2] ∧ K.nx ((ρ.set i (some (.v d1))).set j (some (.v d2))) S1) (fun C fs S1 => K.ex C fs ρ S1)) := by
  unfold sPar
  split
  · rename_i h
    refine Eq.trans ?_ (propext ⟨fun k => ⟨h.1, h.2, k⟩, fun k => k.2.2⟩)
    rw [w_so]
    congr 1
    funext os S1
    split
    · rename_i d1 d2
      exact propext ⟨fun h => ⟨d1, d2, rfl, h⟩, fun ⟨_, _, h, k⟩ => by cases h; exact k⟩
    · rename_i hn
      exact propext ⟨fun h => h.elim, fun ⟨_, _, h, k⟩ => (hn _ _ h).elim⟩
  · rename_i h
    exact propext ⟨fun k => k.elim, fun k => h ⟨k.1, k.2.1⟩⟩
@[simp] theorem w_par3 {i j l : Nat} : (sPar3 i j l fr ρ S).w K = (i < ρ.length ∧ j < ρ.length ∧ l < ρ.length ∧ (fr ρ S).w (fun os S1 => ∃ d1 d2 d3, os = [.v d1, .v d2, .v d3] ∧ K.nx (((ρ.set i (some (.v d1))).set j (some (.v d2))).set l (some (.v d3))) S1) (fun C fs S1 => K.ex C fs ρ S1)) := by
  unfold sPar3
  split
  · rename_i h
    refine Eq.trans ?_ (propext ⟨fun k => ⟨h.1, h.2.1, h.2.2, k⟩, fun k => k.2.2.2⟩)
    rw [w_so]
    congr 1
    funext os S1
    split
    · rename_i d1 d2 d3
      exact propext ⟨fun h => ⟨d1, d2, d3, rfl, h⟩, fun ⟨_, _, _, h, k⟩ => by cases h; exact k⟩
    · rename_i hn
      exact propext ⟨fun h => h.elim, fun ⟨_, _, _, h, k⟩ => (hn _ _ _ h).elim⟩
  · rename_i h
    exact propext ⟨fun k => k.elim, fun k => h ⟨k.1, k.2.1, k.2.2.1⟩⟩
theorem w_app {i : Nat} {ds : List D} (h : ρ[i]? = some (some (.l ds))) : (sApp i fa ρ S).w K = (fa ρ S).w (fun e S1 => ∃ d, per e = some d ∧ ds.length < sizeLine ∧ K.nx (ρ.set i (some (.l (ds ++ [d])))) S1) (fun C fs S1 => K.ex C fs ρ S1) := by
  unfold sApp
  rw [h]
  dsimp only
  rw [w_so]
  congr 1
  funext e S1
  cases per e with
  | none => exact propext ⟨fun h => h.elim, fun ⟨_, h, _⟩ => by cases h⟩
  | some d =>
    dsimp only
    split
    · rename_i hl
      exact propext ⟨fun h => ⟨d, rfl, hl, h⟩, fun ⟨_, h, _, k⟩ => by cases h; exact k⟩
    · rename_i hl
      exact propext ⟨fun h => h.elim, fun ⟨_, h, k, _⟩ => (hl k).elim⟩
theorem w_setIx {i : Nat} {ds : List D} (h : ρ[i]? = some (some (.l ds))) : (sSetIx i fa fb ρ S).w K = (fa ρ S).w (fun e S1 => ∃ d, per e = some d ∧ (fb ρ S1).w (fun k S2 => ∃ z, k.int? = some z ∧ ∃ j, ixN ds.length z = some j ∧ K.nx (ρ.set i (some (.l (ds.set j d)))) S2) (fun C fs S1 => K.ex C fs ρ S1)) (fun C fs S1 => K.ex C fs ρ S1) := by
  unfold sSetIx
  rw [w_so]
  congr 1
  funext e S1
  cases per e with
  | none => exact propext ⟨fun h => h.elim, fun ⟨_, h, _⟩ => by cases h⟩
  | some d =>
    rw [h]
    dsimp only
    rw [w_so]
    refine Eq.trans ?_ (propext ⟨fun h => ⟨d, rfl, h⟩, fun ⟨_, h, k⟩ => by cases h; exact k⟩)
    congr 1
    funext k S2
    cases k.int? with
    | none => exact propext ⟨fun h => h.elim, fun ⟨_, h, _⟩ => by cases h⟩
    | some z =>
      dsimp only
      cases hj : ixN ds.length z with
      | none => exact propext ⟨fun h => h.elim, fun ⟨_, h, _, k, _⟩ => by cases h; rw [hj] at k; cases k⟩
      | some j => exact propext ⟨fun h => ⟨z, rfl, j, hj, h⟩, fun ⟨_, h, _, k, q⟩ => by cases h; rw [hj] at k; cases k; exact q⟩
theorem ixN_ok {n : Nat} {z : Int} (h0 : 0 ≤ z) (h1 : z < n) : ixN n z = some z.toNat := by
  unfold ixN
  rw [if_pos h0, if_pos h1]
theorem w_retV {i : Nat} {o : O} (h : ρ[i]? = some (some o)) : (sRetV i ρ S).w K = ∃ e, retO o = some e ∧ K.rt e S := by
  unfold sRetV
  rw [h]
  dsimp only
  cases retO o with
  | none => exact propext ⟨fun h => h.elim, fun ⟨_, h, _⟩ => by cases h⟩
  | some e => exact propext ⟨fun h => ⟨e, rfl, h⟩, fun ⟨_, h, k⟩ => by cases h; exact k⟩
@[simp] theorem retO_v {d : D} : retO (.v d) = some (.v d) := rfl
@[simp] theorem retO_l {d : List D} : retO (.l d) = some (.n d) := rfl
@[simp] theorem retO_d {d : List (Key × D)} : retO (.d d) = some (.nd d) := rfl
theorem w_aug {i : Nat} {d : D} {g : E → E → Option E} (h : ρ[i]? = some (some (.v d))) : (sAug i g fa ρ S).w K = (fa ρ S).w (fun e S1 => ∃ d', g (.v d) e = some (.v d') ∧ K.nx (ρ.set i (some (.v d'))) S1) (fun C fs S1 => K.ex C fs ρ S1) := by
  unfold sAug
  rw [h]
  dsimp only
  rw [w_so]
  congr 1
  funext e S1
  have e2 : ∀ o : Option E, (match o with | some (.v d') => SO.nx (ρ.set i (some (.v d'))) S1 | _ => .stk : SO).w K = ∃ d', o = some (.v d') ∧ K.nx (ρ.set i (some (.v d'))) S1 := fun o => by
    split
    · rename_i d'
      exact propext ⟨fun h => ⟨d', rfl, h⟩, fun ⟨_, h, k⟩ => by cases h; exact k⟩
    · rename_i hn
      exact propext ⟨fun h => h.elim, fun ⟨_, h, k⟩ => (hn _ h).elim⟩
  exact e2 _
end
@[simp] theorem w_itf {α : Type} {c : Prop} [Decidable c] {a b : Out α} {P : α → Dr → Prop} {X : PX} : (if c then a else b).w P X = if c then a.w P X else b.w P X := by split <;> rfl
end Dn
namespace Dn
@[simp] theorem rng_len {lo : Int} {n : Nat} : (rngD lo n).length = n := by unfold rngD; simp
end Dn

set_option Elab.async false
set_option linter.all false
set_option maxRecDepth 100000
set_option maxHeartbeats 4000000
namespace Dn
open PySem PySem.Spec PyProof.Rows L2

/-! ### in: lists, a sign in a text -/
section
variable {X : Cx} {W : WX} {B : Bs}
def gInA (neg : Bool) : E → E → Option E := fun x y => match gInL neg x y with
  | some e => some e
  | none => gInSg neg x y
theorem oj_inA : OpJ B (fun x y H Q => rInD B.K x y H Q ∨ ∃ (c : Nat) (z : Str), x = .str ⟨#[c]⟩ ∧ y = .str z ∧ Q (.bl (decide (c ∈ z.cps.toList))) H) (gInA false) := OpJ.or oj_inL oj_inSg
theorem oj_notInA : OpJ B (fun x y H Q => rNotInD B.K x y H Q ∨ ∃ (c : Nat) (z : Str), x = .str ⟨#[c]⟩ ∧ y = .str z ∧ Q (.bl (!decide (c ∈ z.cps.toList))) H) (gInA true) := OpJ.or oj_notInL oj_notInSg
theorem op_inA (hK : X.K = B.K) (hu : X.A.units + 65 < cLine) : OpR X (compareOp .In) (fun x y H Q => rInD B.K x y H Q ∨ ∃ (c : Nat) (z : Str), x = .str ⟨#[c]⟩ ∧ y = .str z ∧ Q (.bl (decide (c ∈ z.cps.toList))) H) := OpR.or (hK ▸ op_inD hu) op_in_sign
theorem op_notInA (hK : X.K = B.K) (hu : X.A.units + 65 < cLine) : OpR X (compareOp .NotIn) (fun x y H Q => rNotInD B.K x y H Q ∨ ∃ (c : Nat) (z : Str), x = .str ⟨#[c]⟩ ∧ y = .str z ∧ Q (.bl (!decide (c ∈ z.cps.toList))) H) := OpR.or (hK ▸ op_notInD hu) op_notIn_sign
end
@[simp] theorem gLtA_int {a b : Int} : gLtA (.v (.int a)) (.v (.int b)) = some (.v (.bl (decide (a < b)))) := rfl
theorem gLtA_tup {a b : List Int} : gLtA (.v (.tup (a.map D.int))) (.v (.tup (b.map D.int))) = some (.v (.bl (HT.lexLt a b))) := by
  show (match intsD (a.map D.int), intsD (b.map D.int) with | some ns, some ms => some (E.v (.bl (HT.lexLt ns ms))) | _, _ => none) = _
  rw [ints_map, ints_map]
@[simp] theorem itEs_t {c : Bool} {ds : List D} : itEs c (.v (.tup ds)) = some ds := rfl
@[simp] theorem itEs_l {c : Bool} {ds : List D} : itEs c (.v (.lst ds)) = some ds := rfl
@[simp] theorem itEs_n {c : Bool} {ds : List D} : itEs c (.n ds) = some ds := rfl
@[simp] theorem itEs_b {ds : List D} : itEs true (.b ds) = some ds := rfl
theorem itEs_s {c : Bool} {z : Str} : itEs c (.v (.str z)) = some (z.cps.toList.map fun c => D.str ⟨#[c]⟩) := rfl

/-! ### plain data -/
/-- plain data of depth below n -/
def Pl : Nat → D → Prop
  | 0, _ => False
  | _ + 1, .non => True
  | _ + 1, .bl _ => True
  | _ + 1, .int _ => True
  | _ + 1, .str x => SeqAt.shaped (.str x) = true
  | n + 1, .tup ds => (∀ d ∈ ds, Pl n d) ∧ ds.length ≤ sizeLine
  | n + 1, .lst ds => (∀ d ∈ ds, Pl n d) ∧ ds.length ≤ sizeLine
  | _ + 1, _ => False
/-- .. without truth values -/
def Pi : Nat → D → Prop
  | 0, _ => False
  | _ + 1, .non => True
  | _ + 1, .int _ => True
  | _ + 1, .str x => SeqAt.shaped (.str x) = true
  | n + 1, .tup ds => (∀ d ∈ ds, Pi n d) ∧ ds.length ≤ sizeLine
  | n + 1, .lst ds => (∀ d ∈ ds, Pi n d) ∧ ds.length ≤ sizeLine
  | _ + 1, _ => False
theorem pl_mono : ∀ {n m : Nat} {d : D}, Pl n d → n ≤ m → Pl m d
  | 0, _, _, h, _ => h.elim
  | n + 1, 0, _, _, l => by omega
  | n + 1, m + 1, d, h, l => by
    cases d <;> first | exact h.elim | exact trivial | exact h | skip
    · exact ⟨fun x k => pl_mono (h.1 x k) (by omega), h.2⟩
    · exact ⟨fun x k => pl_mono (h.1 x k) (by omega), h.2⟩
theorem pi_mono : ∀ {n m : Nat} {d : D}, Pi n d → n ≤ m → Pi m d
  | 0, _, _, h, _ => h.elim
  | n + 1, 0, _, _, l => by omega
  | n + 1, m + 1, d, h, l => by
    cases d <;> first | exact h.elim | exact trivial | exact h | skip
    · exact ⟨fun x k => pi_mono (h.1 x k) (by omega), h.2⟩
    · exact ⟨fun x k => pi_mono (h.1 x k) (by omega), h.2⟩
theorem Pi.pl : ∀ {n : Nat} {d : D}, Pi n d → Pl n d
  | 0, _, h => h.elim
  | n + 1, d, h => by
    cases d <;> first | exact h.elim | exact trivial | exact h | skip
    · exact ⟨fun x k => (h.1 x k).pl, h.2⟩
    · exact ⟨fun x k => (h.1 x k).pl, h.2⟩
theorem shaped_str {x : Str} (h : SeqAt.shaped (.str x) = true) : (PyData.str x).canLay0 = true := SeqAt.canLay_of_shaped h
theorem pyL_of {n : Nat} (ih : ∀ d : D, Pl n d → ∃ p, toPy d = some p ∧ p.canLay0 = true ∧ p.depth ≤ n) : ∀ ds : List D, (∀ d ∈ ds, Pl n d) → ∃ ps, toPyL ds = some ps ∧ PyData.canLayAll0 ps = true ∧ PyData.depthAll ps ≤ n
  | [], _ => ⟨[], rfl, rfl, Nat.zero_le _⟩
  | d :: ds, h => by
    obtain ⟨p, e, a, b⟩ := ih d (h d (by simp))
    obtain ⟨ps, e2, a2, b2⟩ := pyL_of ih ds fun z m => h z (by simp [m])
    refine ⟨p :: ps, by rw [toPyL, e, e2], by rw [PyData.canLayAll0, a, a2]; rfl, ?_⟩
    rw [PyData.depthAll]
    omega
theorem py_of : ∀ {n : Nat} (d : D), Pl n d → ∃ p, toPy d = some p ∧ p.canLay0 = true ∧ p.depth ≤ n
  | 0, _, h => h.elim
  | n + 1, d, h => by
    cases d with
    | non => exact ⟨.none, rfl, rfl, Nat.zero_le _⟩
    | bl b => exact ⟨.bool b, rfl, rfl, Nat.zero_le _⟩
    | int i => exact ⟨.int i, rfl, rfl, Nat.zero_le _⟩
    | str x => exact ⟨.str x, rfl, shaped_str h, Nat.zero_le _⟩
    | tup ds =>
      obtain ⟨ps, e, a, b⟩ := pyL_of (fun d => py_of d) ds h.1
      exact ⟨.tuple ps, by rw [toPy, e]; rfl, a, Nat.succ_le_succ b⟩
    | lst ds =>
      obtain ⟨ps, e, a, b⟩ := pyL_of (fun d => py_of d) ds h.1
      exact ⟨.list ps, by rw [toPy, e]; rfl, a, Nat.succ_le_succ b⟩
    | _ => exact h.elim
theorem shp_of {n : Nat} {p : PyData} (hn : n ≤ 64) (a : p.canLay0 = true) (b : p.depth ≤ n) : SeqAt.shaped p = true := by
  unfold SeqAt.shaped
  rw [a, Bool.true_and, decide_eq_true_eq]
  omega
/-- Python's == of plain data -/
def eqD (d1 d2 : D) : Bool := match toPy d1, toPy d2 with
  | some p, some q => PyData.eqv p q
  | _, _ => false
theorem E.py_v {d : D} : E.py (.v d) = toPy d := rfl
theorem E.py_l {e : E} {ds : List D} (h : e.ls = some ds) : e.py = toPy (.lst ds) := by
  cases e with
  | v d => cases d <;> simp [E.ls] at h; subst h; rfl
  | b ds => cases h; rfl
  | n ds => cases h; rfl
  | _ => cases h
theorem gCmpD_pl {n : Nat} {x y : E} {d1 d2 : D} {f : PyData → PyData → Bool} (hx : x.py = toPy d1) (hy : y.py = toPy d2) (h1 : Pl n d1) (h2 : Pl n d2) (hn : n ≤ 64) : ∃ p q, toPy d1 = some p ∧ toPy d2 = some q ∧ gCmpD f x y = some (.v (.bl (f p q))) := by
  obtain ⟨p, e1, a1, b1⟩ := py_of d1 h1
  obtain ⟨q, e2, a2, b2⟩ := py_of d2 h2
  refine ⟨p, q, e1, e2, ?_⟩
  unfold gCmpD
  rw [hx, hy, e1, e2]
  exact if_pos ⟨shp_of hn a1 b1, shp_of hn a2 b2⟩
theorem gEq_pl {n : Nat} {x y : E} {d1 d2 : D} (hx : x.py = toPy d1) (hy : y.py = toPy d2) (h1 : Pl n d1) (h2 : Pl n d2) (hn : n ≤ 64) : gEq x y = some (.v (.bl (eqD d1 d2))) := by
  obtain ⟨p, q, e1, e2, e⟩ := gCmpD_pl (f := PyData.eqv) hx hy h1 h2 hn
  unfold gEq eqD
  rw [e, e1, e2]
theorem gNe_pl {n : Nat} {x y : E} {d1 d2 : D} (hx : x.py = toPy d1) (hy : y.py = toPy d2) (h1 : Pl n d1) (h2 : Pl n d2) (hn : n ≤ 64) : gNe x y = some (.v (.bl (!eqD d1 d2))) := by
  obtain ⟨p, q, e1, e2, e⟩ := gCmpD_pl (f := fun p q => !PyData.eqv p q) hx hy h1 h2 hn
  unfold gNe eqD
  rw [e, e1, e2]
theorem gInL_pl {n : Nat} {neg : Bool} {x y : E} {d : D} {ds : List D} (hx : x.py = toPy d) (hy : y.ls = some ds) (h1 : Pl n d) (h2 : ∀ z ∈ ds, Pl n z) (hn : n < 64) : gInL neg x y = some (.v (.bl (if neg then !ds.any (fun z => eqD z d) else ds.any (fun z => eqD z d)))) := by
  obtain ⟨p, e1, a1, b1⟩ := py_of d h1
  obtain ⟨ps, e2, a2, b2⟩ := pyL_of (fun d => py_of d) ds h2
  unfold gInL
  rw [hx, E.py_l hy, e1, toPy, e2]
  dsimp only [Option.map]
  rw [if_pos ⟨shp_of (by omega) a1 b1, shp_of (n := n + 1) (by omega) a2 (Nat.succ_le_succ b2)⟩]
  have e3 : ∀ (ds : List D) ps, toPyL ds = some ps → ps.any (fun z => PyData.eqv z p) = ds.any fun z => eqD z d := fun ds => by
    induction ds with
    | nil => intro ps q; cases q; rfl
    | cons z zs ih =>
      intro ps q
      rw [toPyL] at q
      split at q
      · rename_i pz pzs q1 q2
        cases q
        rw [List.any_cons, List.any_cons, ih _ q2]
        congr 1
        unfold eqD
        rw [q1, e1]
      · cases q
  rw [e3 ds ps e2]
theorem gInA_pl {n : Nat} {neg : Bool} {x y : E} {d : D} {ds : List D} (hx : x.py = toPy d) (hy : y.ls = some ds) (h1 : Pl n d) (h2 : ∀ z ∈ ds, Pl n z) (hn : n < 64) : gInA neg x y = some (.v (.bl (if neg then !ds.any (fun z => eqD z d) else ds.any (fun z => eqD z d)))) := by
  unfold gInA
  rw [gInL_pl hx hy h1 h2 hn]
theorem eqvL_iff {n : Nat} (ih : ∀ {d1 d2 : D} {p q : PyData}, Pi n d1 → Pi n d2 → toPy d1 = some p → toPy d2 = some q → (PyData.eqv p q = true ↔ d1 = d2)) : ∀ {xs ys : List D} {ps qs : List PyData}, (∀ d ∈ xs, Pi n d) → (∀ d ∈ ys, Pi n d) → toPyL xs = some ps → toPyL ys = some qs → (PyData.eqvAll ps qs = true ↔ xs = ys)
  | [], [], ps, qs, _, _, e1, e2 => by cases e1; cases e2; simp [PyData.eqvAll]
  | [], y :: ys, ps, qs, _, _, e1, e2 => by
    cases e1
    simp only [toPyL] at e2
    split at e2
    · cases e2; simp [PyData.eqvAll]
    · cases e2
  | x :: xs, [], ps, qs, _, _, e1, e2 => by
    cases e2
    simp only [toPyL] at e1
    split at e1
    · cases e1; simp [PyData.eqvAll]
    · cases e1
  | x :: xs, y :: ys, ps, qs, h1, h2, e1, e2 => by
    simp only [toPyL] at e1 e2
    split at e1
    · rename_i p ps' p1 p2
      cases e1
      split at e2
      · rename_i q qs' q1 q2
        cases e2
        rw [PyData.eqvAll, Bool.and_eq_true, ih (h1 x (by simp)) (h2 y (by simp)) p1 q1, eqvL_iff ih (fun d m => h1 d (by simp [m])) (fun d m => h2 d (by simp [m])) p2 q2]
        simp
      · cases e2
    · cases e1
theorem py_tup {ds : List D} {p : PyData} (h : toPy (.tup ds) = some p) : ∃ ps, p = .tuple ps ∧ toPyL ds = some ps := by
  simp only [toPy, Option.map_eq_some_iff] at h
  obtain ⟨ps, a, b⟩ := h
  exact ⟨ps, b.symm, a⟩
theorem py_lst {ds : List D} {p : PyData} (h : toPy (.lst ds) = some p) : ∃ ps, p = .list ps ∧ toPyL ds = some ps := by
  simp only [toPy, Option.map_eq_some_iff] at h
  obtain ⟨ps, a, b⟩ := h
  exact ⟨ps, b.symm, a⟩
theorem py_non {p : PyData} (h : toPy .non = some p) : p = .none := by cases h; rfl
theorem py_int {i : Int} {p : PyData} (h : toPy (.int i) = some p) : p = .int i := by cases h; rfl
theorem py_str {i : Str} {p : PyData} (h : toPy (.str i) = some p) : p = .str i := by cases h; rfl
theorem eqv_iff : ∀ {n : Nat} {d1 d2 : D} {p q : PyData}, Pi n d1 → Pi n d2 → toPy d1 = some p → toPy d2 = some q → (PyData.eqv p q = true ↔ d1 = d2)
  | 0, _, _, _, _, h, _, _, _ => h.elim
  | n + 1, d1, d2, p, q, h1, h2, e1, e2 => by
    have ih := fun {d1 d2 : D} {p q : PyData} (a : Pi n d1) (b : Pi n d2) (c : toPy d1 = some p) (d : toPy d2 = some q) => eqv_iff a b c d
    cases d1 <;> first | exact h1.elim | skip
    all_goals cases d2 <;> first | exact h2.elim | skip
    all_goals first
      | obtain ⟨ps, rfl, a1⟩ := py_tup e1
      | obtain ⟨ps, rfl, a1⟩ := py_lst e1
      | obtain rfl := py_non e1
      | obtain rfl := py_int e1
      | obtain rfl := py_str e1
    all_goals first
      | obtain ⟨qs, rfl, a2⟩ := py_tup e2
      | obtain ⟨qs, rfl, a2⟩ := py_lst e2
      | obtain rfl := py_non e2
      | obtain rfl := py_int e2
      | obtain rfl := py_str e2
    all_goals first
      | (rw [PyData.eqv, eqvL_iff ih h1.1 h2.1 a1 a2]; simp; done)
      | simp [PyData.eqv]
theorem eqD_iff {n : Nat} {d1 d2 : D} (h1 : Pi n d1) (h2 : Pi n d2) : eqD d1 d2 = true ↔ d1 = d2 := by
  obtain ⟨p, e1, _⟩ := py_of d1 h1.pl
  obtain ⟨q, e2, _⟩ := py_of d2 h2.pl
  unfold eqD
  rw [e1, e2]
  exact eqv_iff h1 h2 e1 e2
end Dn

set_option Elab.async false
set_option linter.all false
set_option maxRecDepth 100000
set_option maxHeartbeats 4000000
namespace Dn
open PySem PySem.Spec PyProof.Rows L2 TL

/-! ### texts -/
/-- the signs of a text -/
def sg (x : Str) : List Nat := x.cps.toList
@[simp] theorem itEs_sg {c : Bool} {z : Str} : itEs c (.v (.str z)) = some ((sg z).map fun c => D.str ⟨#[c]⟩) := rfl
theorem sg_len (x : Str) : x.length = (sg x).length := len_tl x
theorem sg_app (x y : Str) : sg (x ++ y) = sg x ++ sg y := tl_append x y
@[simp] theorem sg_one {c : Nat} : sg ⟨#[c]⟩ = [c] := rfl
@[simp] theorem ex2 {α β : Type} {a : α} {b : β} {P : α → β → Prop} : (∃ x y, (a = x ∧ b = y) ∧ P x y) = P a b := propext ⟨fun ⟨_, _, ⟨e1, e2⟩, h⟩ => e1 ▸ e2 ▸ h, fun h => ⟨a, b, ⟨rfl, rfl⟩, h⟩⟩
/-- all its signs are signs -/
def Sh (x : Str) : Prop := SeqAt.shaped (.str x) = true
theorem sh_iff {x : Str} : Sh x ↔ ∀ c ∈ sg x, c < 1114112 := by
  unfold Sh SeqAt.shaped
  have e : (PyData.str x).canLay0 = x.cps.all (· < 0x110000) := rfl
  have d : (PyData.str x).depth = 0 := rfl
  rw [e, d, Bool.and_eq_true, ← Array.all_toList, List.all_eq_true]
  show (∀ c ∈ sg x, decide (c < 1114112) = true) ∧ decide (0 ≤ 64) = true ↔ _
  simp
@[simp] theorem gInA_sg {neg : Bool} {c : Nat} {z : Str} : gInA neg (.v (.str ⟨#[c]⟩)) (.v (.str z)) = some (.v (.bl (if neg then !decide (c ∈ sg z) else decide (c ∈ sg z)))) := rfl
theorem dig_mem (c : Nat) : c ∈ sg "0123456789" ↔ 48 ≤ c ∧ c ≤ 57 := by
  have e : sg "0123456789" = [48, 49, 50, 51, 52, 53, 54, 55, 56, 57] := by decide
  rw [e]
  simp
  omega
theorem ne_tup {x : Str} {y : Str} : (x = y) ↔ sg x = sg y := ⟨fun h => by rw [h], fun h => ext_tl h⟩
theorem eqD_str {x y : Str} : eqD (.str x) (.str y) = decide (sg x = sg y) := by
  show PyData.eqv (.str x) (.str y) = _
  rw [show PyData.eqv (.str x) (.str y) = (x == y) from by rw [PyData.eqv]]
  rw [Bool.eq_iff_iff, beq_iff_eq, decide_eq_true_iff]
  exact ne_tup
theorem gEq_str {x y : Str} (hx : Sh x) (hy : Sh y) : gEq (.v (.str x)) (.v (.str y)) = some (.v (.bl (decide (sg x = sg y)))) := by
  rw [gEq_pl (n := 1) (d1 := .str x) (d2 := .str y) rfl rfl hx hy (by omega), eqD_str]
@[simp] theorem gLen_str {x : Str} (h : (sg x).length ≤ 16777216) : gLen [.v (.str x)] = some (.v (.int ((sg x).length : Int))) := by
  have e : x.length = (sg x).length := sg_len x
  show (if x.length ≤ sizeLine then some (E.v (.int (x.length : Int))) else none) = _
  rw [if_pos (by rw [e, szl]; exact h), e]
theorem gIx_s0 {x : Str} {c : Nat} {r : List Nat} (h : sg x = c :: r) (hl : (sg x).length ≤ 16777216) : gIx (.v (.str x)) (.v (.int 0)) = some (.v (.str ⟨#[c]⟩)) := by
  have e : x.length = (sg x).length := sg_len x
  show (if x.length ≤ sizeLine then (atI (sg x) 0).map fun c => E.v (.str ⟨#[c]⟩) else none) = _
  rw [if_pos (by rw [e, szl]; exact hl), h]
  have : atI (c :: r) (((0 : Nat) : Int)) = some c := atI_nat rfl
  rw [show ((0 : Int)) = ((0 : Nat) : Int) from rfl, this]
  rfl
theorem gStrOf_nat {n : Nat} (h : n ≤ 1000000) : gStrOf [.v (.int (n : Int))] = some (.v (.str (Str.ofString (toString (n : Int))))) := by
  show (if ((n : Int)).natAbs.log2 < 1920 then _ else none) = _
  rw [if_pos]
  have : ((n : Int)).natAbs = n := by omega
  rw [this]
  by_cases h0 : n = 0
  · subst h0; decide
  · exact (Nat.log2_lt h0).mpr (Nat.lt_of_le_of_lt h (Nat.lt_of_lt_of_le (by decide : (1000000 : Nat) < 2 ^ 20) (Nat.pow_le_pow_right (by omega) (by omega))))
theorem gIntOf_str {x : Str} {n : Int} (h : PySem.intText? x = some n) (hl : (sg x).length ≤ 640) : gIntOf [.v (.str x)] = some (.v (.int n)) := by
  have e : x.length = (sg x).length := sg_len x
  show (match PySem.intText? x with | some n => if x.length ≤ 640 then some (E.v (.int n)) else none | none => none) = _
  rw [h]
  exact if_pos (by rw [e]; exact hl)
abbrev numS (n : Nat) : Str := Str.ofString (toString (n : Int))
theorem sg_num (n : Nat) : sg (numS n) = numL n := tl_num n
theorem numL_head : ∀ (n : Nat), 1 ≤ n → ∃ c r, numL n = c :: r ∧ c ≠ 48 := fun n => by
  induction n using Nat.strongRecOn with
  | _ n ih =>
    intro h1
    by_cases h : n < 10
    · rw [numL_lt h]
      exact ⟨_, _, rfl, by omega⟩
    · rw [numL_step (by omega)]
      obtain ⟨c, r, e, hc⟩ := ih (n / 10) (by omega) (by omega)
      rw [e]
      exact ⟨c, _, rfl, hc⟩
theorem sh_num (n : Nat) : Sh (numS n) := sh_iff.mpr fun c m => by
  rw [sg_num] at m
  have := numL_digits n c m
  omega
/-- the tag that signs write -/
def tagOf (cs : List Nat) : Option Nat := if cs ≠ [] ∧ cs.length ≤ 4 ∧ (cs.all fun c => decide (48 ≤ c) && decide (c ≤ 57)) = true ∧ cs.head? ≠ some 48 ∧ 1 ≤ NumText.digitsVal cs ∧ NumText.digitsVal cs ≤ 4094 then some (NumText.digitsVal cs) else none
theorem tagOf_some {cs : List Nat} {n : Nat} (h : tagOf cs = some n) : cs ≠ [] ∧ cs.length ≤ 4 ∧ NumText.AllDigits cs ∧ cs.head? ≠ some 48 ∧ 1 ≤ n ∧ n ≤ 4094 ∧ NumText.digitsVal cs = n := by
  unfold tagOf at h
  split at h
  · rename_i k
    cases h
    refine ⟨k.1, k.2.1, fun c m => ?_, k.2.2.2.1, k.2.2.2.2.1, k.2.2.2.2.2, rfl⟩
    have := List.all_eq_true.mp k.2.2.1 c m
    simpa using this
  · cases h
theorem tagOf_num {n : Nat} (h1 : 1 ≤ n) (h2 : n ≤ 4094) : tagOf (numL n) = some n := by
  unfold tagOf
  rw [numL_val, if_pos]
  refine ⟨numL_ne n, numL_len (by omega) (by omega), ?_, ?_, h1, h2⟩
  · rw [List.all_eq_true]
    intro c m
    have := numL_digits n c m
    simp [this.1, this.2]
  · obtain ⟨c, r, e, hc⟩ := numL_head n h1
    rw [e]
    simpa using hc
theorem intText_tag {x : Str} {n : Nat} (h : tagOf (sg x) = some n) : PySem.intText? x = some (n : Int) := by
  obtain ⟨h1, h2, h3, _, _, _, h7⟩ := tagOf_some h
  have e := intText_digits (x := x) h3 h1 (by rw [sg_len]; exact Nat.le_trans h2 (by omega))
  rw [show NumText.digitsVal x.cps.toList = n from h7] at e
  exact e
/-- join and split by one sign -/
theorem gSplit_str {x : Str} {c : Nat} (h : (sg x).length + 2 ≤ 16777216) : gSplit (.v (.str x)) (.v (.str ⟨#[c]⟩)) = some (.n ((Txt.split x ⟨#[c]⟩).map D.str)) := by
  have e : x.length = (sg x).length := sg_len x
  show (if _ then _ else _) = _
  rw [if_pos ⟨rfl, by rw [e, szl]; exact h⟩]
theorem strs_sum {ys : List Str} {k : Nat} (h : ∀ y ∈ ys, (sg y).length ≤ k) : (ys.map Str.length).sum ≤ k * ys.length := by
  induction ys with
  | nil => simp
  | cons y ys ih =>
    have h1 := h y (by simp)
    have h2 := ih fun z m => h z (by simp [m])
    rw [← sg_len] at h1
    simp only [List.map_cons, List.sum_cons, List.length_cons, Nat.mul_add]
    omega
theorem gJoin_strs {x : E} {ys : List Str} {z : Str} {k : Nat} (hx : x.ls = some (ys.map D.str) ∨ x = .v (.tup (ys.map D.str))) (h : ∀ y ∈ ys, (sg y).length ≤ k) (hl : k * ys.length + ys.length * (sg z).length ≤ 16777216) : gJoin (.v (.str z)) x = some (.v (.str (Txt.join z ys))) := by
  have hs := strs_sum h
  have ez : z.length = (sg z).length := sg_len z
  have e1 : (match x.ls with | some ds => some ds | none => x.tu) = some (ys.map D.str) := by
    rcases hx with h | rfl
    · rw [h]
    · rfl
  unfold gJoin
  show (match (match x.ls with | some ds => some ds | none => x.tu) with
    | some ds => match strsD ds with
      | some ys => if (ys.map Str.length).sum + ys.length * z.length ≤ 16777216 then some (E.v (.str (Txt.join z ys))) else none
      | none => none
    | none => none) = _
  rw [e1]
  dsimp only
  rw [strs_map]
  dsimp only
  rw [if_pos (by rw [ez]; omega)]
theorem join_len {z : Str} {ys : List Str} {k : Nat} (h : ∀ y ∈ ys, (sg y).length ≤ k) : (sg (Txt.join z ys)).length ≤ k * ys.length + ys.length * (sg z).length := by
  have := StrLaws.join_length_le z ys
  rw [join_eq, ← sg_len, ← sg_len]
  have h2 : (ys.map fun x => x.length).sum ≤ k * ys.length := strs_sum h
  omega
theorem join_mem {z : Str} : ∀ {ys : List Str} {c : Nat}, c ∈ sg (Txt.join z ys) → c ∈ sg z ∨ ∃ y ∈ ys, c ∈ sg y
  | [], c, h => by rw [join_eq] at h; simp [sg, Str.join, Str.empty] at h
  | [y], c, h => .inr ⟨y, by simp, h⟩
  | y :: w :: r, c, h => by
    rw [join_eq] at h
    have h : c ∈ sg (y ++ z ++ Str.join z (w :: r)) := h
    rw [show sg (y ++ z ++ Str.join z (w :: r)) = sg y ++ sg z ++ sg (Str.join z (w :: r)) by rw [← sg_app, ← sg_app]] at h
    rcases List.mem_append.mp h with h | h
    · rcases List.mem_append.mp h with h | h
      · exact .inr ⟨y, by simp, h⟩
      · exact .inl h
    · rcases join_mem (ys := w :: r) (by rw [join_eq]; exact h) with h | ⟨v, m, h⟩
      · exact .inl h
      · exact .inr ⟨v, by simp [List.mem_cons.mp m], h⟩
theorem split_join1 {c : Nat} (hc : c < 256) {ys : List Str} (hne : ys ≠ []) (hp : ∀ y ∈ ys, c ∉ sg y) : Txt.split (Txt.join ⟨#[c]⟩ ys) ⟨#[c]⟩ = ys :=
  split_join (y := ⟨#[c]⟩) (s := c) (S := []) rfl (by simp [hc]) hne hp
/-- the parts of a text hold no sign of their own -/
theorem split_mem {x : Str} {c : Nat} {p : Str} (h : p ∈ Txt.split x ⟨#[c]⟩) : ∀ a ∈ sg p, a ∈ sg x := by
  have e := StrLaws.join_split x ⟨#[c]⟩
  have aux : ∀ (ys : List Str) (p : Str), p ∈ ys → ∀ a ∈ sg p, a ∈ sg (Str.join ⟨#[c]⟩ ys) := fun ys => by
    induction ys with
    | nil => intro p m; cases m
    | cons y r ih =>
      intro p m a ha
      cases r with
      | nil => rw [List.mem_singleton.mp m] at ha; exact ha
      | cons w r =>
        have e2 : sg (Str.join ⟨#[c]⟩ (y :: w :: r)) = sg y ++ sg (⟨#[c]⟩ : Str) ++ sg (Str.join ⟨#[c]⟩ (w :: r)) := by rw [← sg_app, ← sg_app]; rfl
        rw [e2]
        rcases List.mem_cons.mp m with rfl | m
        · exact List.mem_append_left _ (List.mem_append_left _ ha)
        · exact List.mem_append_right _ (ih p m a ha)
  intro a ha
  have := aux _ p h a ha
  rw [e] at this
  exact this
theorem split_len {x : Str} {c : Nat} {p : Str} (h : p ∈ Txt.split x ⟨#[c]⟩) : (sg p).length ≤ (sg x).length := by
  have := PyProof.Rows.part_short h
  rw [sg_len, sg_len] at this
  exact this
end Dn

set_option Elab.async false
set_option linter.all false
set_option maxRecDepth 100000
set_option maxHeartbeats 4000000
namespace Dn
open PySem PySem.Spec PyProof.Rows L2 TL

section
variable {α : Type} {tgt : D → Env → Option Env} {ft : Env → Dr → Out Bool} {fe : Env → Dr → Out E} {ρ : Env} {S : Dr}
theorem lc_mapL (g h : α → D) : ∀ (l : List α), (∀ a ∈ l, ∃ ρ1, tgt (g a) ρ = some ρ1 ∧ (fe ρ1 S).w (fun e S2 => per e = some (h a) ∧ S2 = S) noX') → lcD tgt fYes fe ρ (l.map g) S = .ok (l.map h) S
  | [], _ => rfl
  | d :: ds, k => by
    obtain ⟨ρ1, e1, w⟩ := k d (by simp)
    have ih := lc_mapL g h ds fun d' m => k d' (by simp [m])
    rw [List.map_cons, lcD, e1]
    show ((fe ρ1 S).bind fun e S2 => match per e with
      | none => Out.stk
      | some x => (lcD tgt fYes fe ρ (ds.map g) S2).bind fun xs S3 => .ok (x :: xs) S3) = _
    cases q2 : fe ρ1 S with
    | stk => rw [q2] at w; exact w.elim
    | exc C fs S1 => rw [q2] at w; exact w.elim
    | ok e S2 =>
      rw [q2] at w
      obtain ⟨p, rfl⟩ := w
      show (match per e with
        | none => Out.stk
        | some x => (lcD tgt fYes fe ρ (ds.map g) S2).bind fun xs S3 => .ok (x :: xs) S3) = _
      rw [p]
      dsimp only
      rw [ih]
      rfl
theorem lc_filterL (p : α → Bool) (g h : α → D) : ∀ (l : List α), (∀ a ∈ l, ∃ ρ1, tgt (g a) ρ = some ρ1 ∧ (ft ρ1 S).w (fun c S1 => c = p a ∧ S1 = S) noX' ∧ (p a = true → (fe ρ1 S).w (fun e S2 => per e = some (h a) ∧ S2 = S) noX')) →
    lcD tgt ft fe ρ (l.map g) S = .ok ((l.filter p).map h) S
  | [], _ => rfl
  | d :: ds, k => by
    obtain ⟨ρ1, e1, w0, w⟩ := k d (by simp)
    have ih := lc_filterL p g h ds fun d' m => k d' (by simp [m])
    rw [List.map_cons, lcD, e1]
    dsimp only
    cases q : ft ρ1 S with
    | stk => rw [q] at w0; exact w0.elim
    | exc C fs S1 => rw [q] at w0; exact w0.elim
    | ok c S1 =>
      rw [q] at w0
      obtain ⟨rfl, rfl⟩ := w0
      cases hp : p d with
      | false =>
        show lcD tgt ft fe ρ (ds.map g) S1 = _
        rw [ih, List.filter_cons_of_neg (by simp [hp])]
      | true =>
        have w := w hp
        show ((fe ρ1 S1).bind fun e S2 => match per e with
          | none => Out.stk
          | some x => (lcD tgt ft fe ρ (ds.map g) S2).bind fun xs S3 => .ok (x :: xs) S3) = _
        cases q2 : fe ρ1 S1 with
        | stk => rw [q2] at w; exact w.elim
        | exc C fs S1 => rw [q2] at w; exact w.elim
        | ok e S2 =>
          rw [q2] at w
          obtain ⟨pe, rfl⟩ := w
          show (match per e with
            | none => Out.stk
            | some x => (lcD tgt ft fe ρ (ds.map g) S2).bind fun xs S3 => .ok (x :: xs) S3) = _
          rw [pe]
          dsimp only
          rw [ih, List.filter_cons_of_pos hp]
          rfl
theorem gAll_map {p : α → Bool} {l : List α} {x : O} (hx : x = .v (.lst (l.map fun a => .bl (p a))) ∨ x = .lt (l.map fun a => .bl (p a))) : gAll [x] = some (.v (.bl (l.all p))) := by
  have e : (l.map fun a => D.bl (p a)) = (l.map p).map D.bl := by rw [List.map_map]; rfl
  have e2 : (l.map p).all id = l.all p := by rw [List.all_map]; rfl
  rw [e] at hx
  rw [← e2]
  rcases hx with rfl | rfl
  · exact gAll_lst
  · show (match blsD ((l.map p).map D.bl) with | some cs => some (E.v (.bl (cs.all id))) | none => none) = _
    rw [bls_map]
theorem gAny_map {p : α → Bool} {l : List α} {x : O} (hx : x = .v (.lst (l.map fun a => .bl (p a))) ∨ x = .lt (l.map fun a => .bl (p a))) : gAny [x] = some (.v (.bl (l.any p))) := by
  have e : (l.map fun a => D.bl (p a)) = (l.map p).map D.bl := by rw [List.map_map]; rfl
  have e2 : (l.map p).any id = l.any p := by rw [List.any_map]; rfl
  rw [e] at hx
  rw [← e2]
  rcases hx with rfl | rfl
  · exact gAny_lst
  · show (match blsD ((l.map p).map D.bl) with | some cs => some (E.v (.bl (cs.any id))) | none => none) = _
    rw [bls_map]
end
theorem so_true {o : SO} (w : o.w ⟨fun _ _ => False, fun e S => e = .v (.bl true), fun _ _ => False, fun _ _ => False, fun _ _ _ _ => False⟩) : ∃ S', o = .rt (.v (.bl true)) S' := by
  cases o with
  | rt e S => cases w; exact ⟨S, rfl⟩
  | nx ρ S => exact w.elim
  | bk ρ S => exact w.elim
  | ct ρ S => exact w.elim
  | exc C fs ρ S => exact w.elim
  | stk => exact w.elim
end Dn

set_option Elab.async false
set_option linter.all false
set_option maxRecDepth 100000
set_option maxHeartbeats 4000000
namespace Dn
open PySem PySem.Spec PyProof.Rows L2 TL

/-! ### text * int -/
def repS (x : Str) (k : Nat) : Str := ⟨(List.replicate k x.cps).foldl (· ++ ·) #[]⟩
def rMulS : R2 := fun x y H Q => ∃ a k, x = .str a ∧ y = .int k ∧ 2 ≤ k ∧ k ≤ 1000 ∧ a.length ≤ 1000 ∧ (a.length == 0) = false ∧ Q (.str (repS a k.toNat)) H
theorem rep_len (x : Str) (k : Nat) : (repS x k).length = k * x.length := by
  have aux : ∀ (k : Nat) (acc : Array Nat), ((List.replicate k x.cps).foldl (· ++ ·) acc).size = acc.size + k * x.cps.size := fun k => by
    induction k with
    | zero => intro acc; simp
    | succ k ih =>
      intro acc
      rw [List.replicate_succ, List.foldl_cons, ih, Array.size_append, Nat.add_mul]
      omega
  have := aux k #[]
  simp at this
  exact this
theorem not_tooLong {n : Nat} (h : n ≤ 16777216) : PySem.Builtin.Str.tooLong n = false := by
  unfold PySem.Builtin.Str.tooLong
  rw [decide_eq_false_iff_not, sizeLine_eq]
  omega
theorem op_mulS {X : Cx} : OpR X (binaryOp .Mult) rMulS := by
  intro pins s σ H x y v u Q I rx ry h
  obtain ⟨a, k, rfl, rfl, h1, h2, h3, h4, q⟩ := h
  obtain ⟨t, rfl⟩ := rx
  obtain ⟨t', rfl⟩ := ry
  have hb : (a.length : Int) * k ≤ 1000000 := by
    have : (a.length : Int) * k ≤ 1000 * 1000 := Int.mul_le_mul (by omega) h2 (by omega) (by omega)
    omega
  refine PySem.P.mul_str (by simp; omega) (fun _ _ => ?_) (fun _ _ => ?_) ?_
  · have h5 : (1000 : Int) ≤ (2 ^ 63 - 1) / k := Int.le_ediv_of_mul_le (by omega) (by omega)
    exact Int.not_lt.mpr (Int.le_trans (by omega : (a.length : Int) ≤ 1000) h5)
  · have e : ((a.length * k.toNat : Nat) : Int) = (a.length : Int) * k := by
      rw [Int.natCast_mul, Int.toNat_of_nonneg (by omega)]
    exact not_tooLong (by omega)
  · rw [if_neg (by omega), if_neg (by rw [h4]; simp; omega)]
    refine ⟨?_, .str (repS a k.toNat), H, I.tok _, ⟨_, rfl⟩, q⟩
    show (repS a k.toNat).length ≤ sizeLine
    rw [rep_len, sizeLine_eq]
    have e : ((k.toNat * a.length : Nat) : Int) = (a.length : Int) * k := by
      rw [Int.natCast_mul, Int.toNat_of_nonneg (by omega), Int.mul_comm]
    omega
def gMulS : E → E → Option E
  | .v (.str x), .v (.int k) => if 2 ≤ k ∧ k ≤ 1000 ∧ x.length ≤ 1000 ∧ (x.length == 0) = false then some (.v (.str (repS x k.toNat))) else none
  | _, _ => none
section
variable {X : Cx} {W : WX} {B : Bs} {bs : Hp × Hp} {Hs Hf H : Hp} {ρ : Env} {S : Dr} {σ : L2.St} {a b e : Expr} {fa fb : Env → Dr → Out E} {pos p2 : Pos}
theorem oj_mulS : OpJ B rMulS gMulS := fun bs σ H ρ S Hf Hs1 Hs2 x y e1 e2 e Q r h1 h2 q k => by
  unfold gMulS at q
  split at q
  · split at q
    · rename_i hc
      cases q
      cases h1.v_ok
      cases h2.v_ok
      exact ⟨_, _, rfl, rfl, hc.1, hc.2.1, hc.2.2.1, hc.2.2.2, VP.now r k (Rep.str _)⟩
    · cases q
  · cases q
/-- * of ints, lists, texts -/
def gMulA : E → E → Option E := fun x y => match gMul x y with
  | some e => some e
  | none => gMulS x y
theorem je_mulA (ha : JE X W B a fa) (hb : JE X W B b fb) : JE X W B (.BinOp a .Mult b pos) (fOp gMulA fa fb) :=
  je_op (OpR.or (OpR.or op_mul op_rep) op_mulS) (OpJ.or (OpJ.or oj_mulI oj_mulL) oj_mulS) ha hb
end
theorem sg_rep (x : Str) (k : Nat) : sg (repS x k) = (List.replicate k (sg x)).flatten := by
  have aux : ∀ (k : Nat) (acc : Array Nat), ((List.replicate k x.cps).foldl (· ++ ·) acc).toList = acc.toList ++ (List.replicate k x.cps.toList).flatten := fun k => by
    induction k with
    | zero => intro acc; simp
    | succ k ih =>
      intro acc
      rw [List.replicate_succ, List.foldl_cons, ih, List.replicate_succ, List.flatten_cons, Array.toList_append, List.append_assoc]
  show ((List.replicate k x.cps).foldl (· ++ ·) #[]).toList = _
  rw [aux]
  rfl
theorem gMulA_int {i j : Int} (h : CMul i j) : gMulA (.v (.int i)) (.v (.int j)) = some (.v (.int (i * j))) := by
  unfold gMulA
  rw [gMul_int h]
theorem gMulA_l {x : E} {ds : List D} {k : Int} (hx : x.ls = some ds) (hn : x.int? = none) (h : -(2 ^ 63) ≤ k ∧ k < 2 ^ 63 ∧ ds.length * k.toNat ≤ sizeLine) : gMulA x (.v (.int k)) = some (.n (List.replicate k.toNat ds).flatten) := by
  unfold gMulA
  rw [gMul_l hx hn h]
end Dn

set_option Elab.async false
set_option linter.all false
set_option maxRecDepth 100000
set_option maxHeartbeats 4000000
namespace Dn
open PySem PySem.Spec PyProof.Rows L2

/-! ### objects: __init__ -/
abbrev Bs.at (B : Bs) (a : Addr) : Bs := { B with me := a }
section
variable {B : Bs} {bs : Hp × Hp} {Hs Hf Hf' H H' : Hp} {ρ : Env} {S S' : Dr} {σ : L2.St} {a : Addr} {W : WX}
theorem DrR.at (d : DrR B Hf S H) : DrR (B.at a) Hf S H := ⟨d.dr, d.cl, d.rs, d.ne⟩
theorem DrR.un (d : DrR (B.at a) Hf S H) : DrR B Hf S H := ⟨d.dr, d.cl, d.rs, d.ne⟩
theorem Nx.at (n : Nx B Hf H Hf' H') : Nx (B.at a) Hf H Hf' H' := ⟨n.ex, n.exf, n.fr, n.go, n.nd⟩
theorem Nx.un (n : Nx (B.at a) Hf H Hf' H') : Nx B Hf H Hf' H' := ⟨n.ex, n.exf, n.fr, n.go, n.nd⟩
theorem er_at {v : V} {e : E} (h : ER B Hs Hf H v e) : ER (B.at a) Hs Hf H v e := by cases e <;> exact h
theorem er_un {v : V} {e : E} (h : ER (B.at a) Hs Hf H v e) : ER B Hs Hf H v e := by cases e <;> exact h
theorem as_at {vs : List V} {os : List O} (h : AsR B Hf H vs os) : AsR (B.at a) Hf H vs os := by
  induction h with
  | nil => exact .nil
  | cons h _ ih => exact .cons (by rename_i o _ _; cases o <;> exact h) ih
theorem as_un {vs : List V} {os : List O} (h : AsR (B.at a) Hf H vs os) : AsR B Hf H vs os := by
  induction h with
  | nil => exact .nil
  | cons h _ ih => exact .cons (by rename_i o _ _; cases o <;> exact h) ih
theorem ep_un {o : Out E} {Q : VK} (h : EPost (B.at a) W Hf σ H (erel (B.at a)) o Q) : EPost B W Hf σ H (erel B) o Q := by
  cases o with
  | ok e S => exact fun v Hf' H' n d z => h v Hf' H' n.at d.at (er_at z)
  | exc C fs S => exact fun dd Hf' H' n d x => h dd Hf' H' n.at d.at x
  | stk => exact h
end
/-- a def's promise within an __init__ -/
theorem fn_at {P : Program} {w : World} {K : PySem.W.Frag} {mg : Str → Option Value} {base : Heap} {k : Nat} {f : Addr} {fd : FuncData} {ps : List Str} {B : Bs} {n : Nat} {F : List O → Dr → Out E} (a : Addr) (G : FnOk P w K mg base (L2.CX P w) k f fd ps (spF B n F)) :
    FnOk P w K mg base (L2.CX P w) k f fd ps (spF (B.at a) n F) :=
  G.imp fun vs H Q E ⟨hl, os, S, Hf, hx, hn, d, z, q⟩ => ⟨hl, os, S, Hf, hx, hn, d.un, as_un z, ep_un q⟩

def putG (f : Str) (v : D) : List (Str × D) → List (Str × D)
  | [] => [(f, v)]
  | (g, x) :: r => if g = f then (g, v) :: r else (g, x) :: putG f v r
theorem RepF.put {K : PySem.W.Frag} {dr : Addr} {H : Hp} {f : Str} {v : V} {d : D} (h : Rep K dr H v d) : ∀ {vs : List (Str × V)} {ds : List (Str × D)}, RepF K dr H vs ds → RepF K dr H (putF f v vs) (putG f d ds)
  | _, _, .nil => .cons h .nil
  | _, _, .cons (k := k) h1 l => by
    unfold putF putG
    by_cases e : k = f
    · rw [if_pos e, if_pos e]; exact .cons h l
    · rw [if_neg e, if_neg e]; exact .cons h1 (RepF.put h l)
theorem RepF.length {K : PySem.W.Frag} {dr : Addr} {H : Hp} : ∀ {vs : List (Str × V)} {ds : List (Str × D)}, RepF K dr H vs ds → vs.length = ds.length
  | _, _, .nil => rfl
  | _, _, .cons _ l => by simp only [List.length_cons]; rw [RepF.length l]
/-- the wanted end of an __init__ of the object at a -/
def IEnd (B : Bs) (C a : Addr) (Hf H : Hp) (o : Out (List (Str × D))) (Q : VK) (E : XK) : Prop := match o with
  | .ok fs S' => ∀ Hf' H' dx fv, Nx B Hf (del H a) Hf' H' → DrR B Hf' S' H' → H' a = some (.ins C dx fv) → RepF B.K B.dr Hf' fv fs → Hf' a = none → Q .non H'
  | .exc C' fs S' => ∀ d Hf' H', Nx B Hf (del H a) Hf' H' → DrR B Hf' S' H' → ExR B Hf' H' C' fs d → E (.ref C') d H'
  | .stk => False
/-- the promise of an __init__: n arguments, self among them -/
def spI (B : Bs) (n : Nat) (F : Addr → List (Str × D) → List O → Dr → Out (List (Str × D))) : Sp := fun vs H Q E => vs.length = n ∧ ∃ a C dx fv fs vr os S Hf, vs = .ref a :: vr ∧ H a = some (.ins C dx fv) ∧ RepF B.K B.dr Hf fv fs ∧ Hf a = none ∧ a ≠ B.dr ∧ a ≠ B.rs ∧ Ex Hf H ∧
  (Hf B.dr = none ∧ Hf B.rs = none) ∧ DrR B Hf S H ∧ AsR B Hf (del H a) vr os ∧ IEnd B C a Hf H (F C fs os S) Q E
def startI (N : Nat) (C : Addr) (fs : List (Str × D)) (os : List O) : Env := some (.ob C fs) :: (os.map some ++ List.replicate (N - (os.length + 1)) none)
def runI (N : Nat) (g : Env → Dr → SO) : Addr → List (Str × D) → List O → Dr → Out (List (Str × D)) := fun C fs os S => match g (startI N C fs os) S with
  | .nx ρ S' => match ρ with
    | some (.ob C' fs') :: _ => if C' = C then .ok fs' S' else .stk
    | _ => .stk
  | .exc C' fs' _ S' => .exc C' fs' S'
  | _ => .stk
section
variable {B : Bs} {bs : Hp × Hp} {Hs Hf Hf' H H' : Hp} {ρ : Env} {S S' : Dr} {σ : L2.St} {a : Addr} {W : WX}
theorem start_ri {N : List Str} {vr : List V} {os : List O} {C dx : Addr} {fv : List (Str × V)} {fs : List (Str × D)} (ha : H a = some (.ins C dx fv)) (l : RepF B.K B.dr Hf fv fs) (fa : Hf a = none) (n1 : a ≠ B.dr) (n2 : a ≠ B.rs) (hx : Ex Hf H) (hn : Hf B.dr = none ∧ Hf B.rs = none)
    (d : DrR B Hf S H) (z : AsR B Hf (del H a) vr os) : R (B.at a) (Hf, del H a) Hf (startI N.length C fs os) S (L2.start N (.ref a :: vr)) H := by
  have at_ : ∀ {i : Nat} {o : O}, (startI N.length C fs os)[i]? = some (some o) → (i = 0 ∧ o = .ob C fs) ∨ ∃ j, i = j + 1 ∧ os[j]? = some o := fun {i o} h => by
    cases i with
    | zero => cases h; exact .inl ⟨rfl, rfl⟩
    | succ j =>
      refine .inr ⟨j, rfl, ?_⟩
      have h : (os.map some ++ List.replicate (N.length - (os.length + 1)) none)[j]? = some (some o) := h
      rw [List.getElem?_append] at h
      split at h
      · rw [List.getElem?_map] at h
        cases e : os[j]? with
        | none => rw [e] at h; cases h
        | some o' => rw [e] at h; cases h; rfl
      · rw [List.getElem?_replicate] at h
        split at h <;> cases h
  have hl := as_len z
  refine ⟨hx, Ex.refl _, fun b o h => .inl h, hn, fun b o h m1 m2 => ?_, ⟨?_, ?_⟩, d.at, ?_, fun i o h => ?_, fun i j oi oj b hi hj wi wj _ _ => ?_⟩
  · by_cases e : b = a
    · have h : del H a b = some o := h
      rw [e, del_same] at h; cases h
    · have h : del H a b = some o := h
      rw [del_ne e] at h; exact h
  · exact ⟨_, by show del H a B.dr = _; rw [del_ne (Ne.symm n1)]; exact d.dr⟩
  · exact ⟨_, by show del H a B.rs = _; rw [del_ne (Ne.symm n2)]; exact d.rs⟩
  · unfold startI L2.start
    simp [hl]
  · rcases at_ h with ⟨rfl, rfl⟩ | ⟨j, rfl, h'⟩
    · exact ⟨.ref a, rfl, rfl, dx, fv, ha, l, fa, del_same⟩
    · obtain ⟨v, e, s⟩ := as_get z h'
      refine ⟨v, ?_, ?_⟩
      · unfold L2.start
        have hl := (List.getElem?_eq_some_iff.mp e).1
        show ((vr.map some) ++ _)[j]? = _
        rw [List.getElem?_append_left (by rw [List.length_map]; exact hl), List.getElem?_map, e]
        rfl
      · cases o with
        | v d => exact s
        | lt ds => exact s
        | ld ds => exact s
        | l ds => exact s.elim
        | d ds => exact s.elim
        | x C fs => exact s.elim
        | ob C fs => exact s.elim
  · have no : ∀ {j : Nat} {o : O}, os[j]? = some o → o.own = true → False := fun {j o} e w => by
      obtain ⟨v, _, s⟩ := as_get z e
      cases o with
      | v d => cases w
      | lt d => cases w
      | ld d => cases w
      | x C fs => cases w
      | l d => exact s
      | d d => exact s
      | ob C fs => exact s
    rcases at_ hi with ⟨rfl, _⟩ | ⟨k, rfl, h⟩
    · rcases at_ hj with ⟨rfl, _⟩ | ⟨k, rfl, h⟩
      · rfl
      · exact (no h wj).elim
    · exact (no h wi).elim
theorem init_end {W : WX} {C : Addr} {g : Env → Dr → SO} {N : Nat} {fs : List (Str × D)} {os : List O} {D : Ends} {Q : VK} {E : XK} (q : IEnd B C a Hf H (runI N g C fs os S) Q E) (hnx : ∀ σ H, Q .non H → D.nx σ H) (hW : ∀ c d σ H, E c d H → W c d σ H) :
    SPost (B.at a) W (Hf, del H a) D (g (startI N C fs os) S) := by
  unfold runI at q
  cases qg : g (startI N C fs os) S with
  | nx ρ' S' =>
    rw [qg] at q
    dsimp only at q
    split at q
    · rename_i C' fs' tl
      split at q
      · rename_i e
        subst e
        intro σ' Hf' H' r'
        obtain ⟨v, e2, rfl, dx, fv, h1, h2, h3, h4⟩ := r'.sl 0 (.ob C' fs') rfl
        exact hnx _ _ (q Hf' H' dx fv r'.whole.un r'.drw.un h1 h2 h3)
      · exact q.elim
    · exact q.elim
  | rt e S' => rw [qg] at q; exact q.elim
  | exc C' fs' ρ' S' => rw [qg] at q; exact fun σ' dd Hf' H' r' x => hW _ _ _ _ (q dd Hf' H' r'.whole.un r'.drw.un x)
  | bk ρ' S' => rw [qg] at q; exact q.elim
  | ct ρ' S' => rw [qg] at q; exact q.elim
  | stk => rw [qg] at q; exact q.elim
/-- an __init__ keeps its promise -/
theorem ji_mk {P : Program} {w : World} {K : PySem.W.Frag} {mg : Str → Option Value} {base : Heap} {x qual : Str} {st : Stmt} {f : Addr} {fd : FuncData} {N ps : List Str} {k : Nat} {g : Env → Dr → SO} (F : Fun K x qual st f fd) (Sc : FnScope N ps (defScope st))
    (hbody : ∀ (a : Addr) (cdv : Value) (A : Around) (outer : List PySem.Env) (s : Shared) (H : Hp) (E : XK), Room k (A.deeper (envOfC qual (defScope st) s.heap.objs.size f cdv)) →
      JB (cxOf (L2.CX P w) P w K mg base N qual (defScope st) f cdv A outer s H E) (fun cls d _ H => E cls d H) (B.at a) (defBody st) g) : FnOk P w K mg base (L2.CX P w) (k + 1) f fd ps (spI B ps.length (runI N.length g)) := by
  refine F.okX Sc (fun vs H Q E h => h.1) fun cdv A outer s H vs Q E hr h => ?_
  obtain ⟨_, a, C, dx, fv, fs, vr, os, S, Hf, rfl, ha, l, fa, n1, n2, hx, hn, d, z, q⟩ := h
  refine ⟨tWSs _ (defBody st), pss_W, ?_⟩
  refine (hbody a cdv A outer s H E hr).go (Hf, del H a) (L2.start N (.ref a :: vr)) H (startI N.length C fs os) S Hf _ (start_ri ha l fa n1 n2 hx hn d z) ?_
  exact init_end q (fun _ _ h => h) fun _ _ _ _ h => h
/-- .. with keyword-only parameters -/
theorem ji_mkD {P : Program} {w : World} {K : PySem.W.Frag} {mg : Str → Option Value} {base : Heap} {x qual : Str} {params : Arguments} {body : List Stmt} {scope : Scope} {dvs : List V} {kws : List (Str × V)} {f : Addr} {fd : FuncData} {N ps : List Str} {k : Nat} {g : Env → Dr → SO}
    (F : FunD K x qual params body scope dvs kws f fd) (Sc : FnScope N ps scope)
    (hbody : ∀ (a : Addr) (cdv : Value) (A : Around) (outer : List PySem.Env) (s : Shared) (H : Hp) (E : XK), Room k (A.deeper (envOfC qual scope s.heap.objs.size f cdv)) →
      JB (cxOf (L2.CX P w) P w K mg base N qual scope f cdv A outer s H E) (fun cls d _ H => E cls d H) (B.at a) body g) : FnOk P w K mg base (L2.CX P w) (k + 1) f fd ps (spI B ps.length (runI N.length g)) := by
  refine F.ok Sc (fun vs H Q E h => h.1) fun cdv A outer s H vs Q E hr h => ?_
  obtain ⟨_, a, C, dx, fv, fs, vr, os, S, Hf, rfl, ha, l, fa, n1, n2, hx, hn, d, z, q⟩ := h
  refine ⟨tWSs _ body, pss_W, ?_⟩
  refine (hbody a cdv A outer s H E hr).go (Hf, del H a) (L2.start N (.ref a :: vr)) H (startI N.length C fs os) S Hf _ (start_ri ha l fa n1 n2 hx hn d z) ?_
  exact init_end q (fun _ _ h => h) fun _ _ _ _ h => h
end

/-! self.f = e -/
def sFldI (ok : Addr → Bool) (f : Str) (fa : Env → Dr → Out E) : Env → Dr → SO := fun ρ S => (fa ρ S).so ρ fun e S1 => match per e with
  | none => .stk
  | some d => match ρ[(0 : Nat)]? with
    | some (some (.ob C fs)) => if ok C = true ∧ fs.length < 1000 then .nx (ρ.set 0 (some (.ob C (putG f d fs)))) S1 else .stk
    | _ => .stk
section
variable {X : Cx} {W : WX} {B : Bs} {bs : Hp × Hp} {Hs Hf H : Hp} {ρ : Env} {S : Dr} {σ : L2.St} {a b e o : Expr} {es : List Expr} {fa fb fo : Env → Dr → Out E} {fr : Env → Dr → Out (List O)} {pos p2 : Pos} {D : Ends}
theorem js_fldI {ok : Addr → Bool} {x f : Str} {p pos' : Pos} (T : ∀ C, ok C = true → Cls X.K C ∧ NoAttr X.K C f) (ha : JE X W B a fa) (hN : X.N[0]? = some x := by rfl) (hv : Vis X.env.scope x := by first | exact Or.inl rfl | exact Or.inr (Or.inl rfl) | exact Or.inr (Or.inr rfl))
    (hd : (x == ("__debug__" : Str)) = false := by decide) (hcd : (x == ("__classdict__" : Str)) = false := by decide) (hs : swapsWith a (some (.Attribute (.Name x p) f pos')) pos.line X.env = pure false := by rfl) :
    JS X W B (.Assign [.Attribute (.Name x p) f pos'] a pos) (sFldI ok f fa) := JS.mk (ps_fld (pe_var hN hv hd hcd) pe_W hs) fun bs σ H ρ S Hf D r h => by
  show tW X a σ H fun y H1 => tVar 0 σ H1 fun x H2 => ∃ a C dx fs, x = .ref a ∧ H2 a = some (.ins C dx fs) ∧ Cls X.K C ∧ NoAttr X.K C f ∧ fs.length < 1000 ∧ D.nx σ (upd H2 a (.ins C dx (putF f y fs)))
  refine ha.so r h fun e1 S1 v H1 Hf1 r1 n1 z1 h1 => ?_
  cases q : per e1 with
  | none => rw [q] at h1; exact h1.elim
  | some d =>
    rw [q] at h1
    obtain ⟨Hf2, n2, x2, d2, z2⟩ := per_ok r1 n1 z1 q
    have r2 := r.next n2 d2
    dsimp only at h1
    split at h1
    · rename_i C fs e
      split at h1
      · rename_i hc
        obtain ⟨w, e2, rfl, dx, fv, k1, k2, k3, k4⟩ := r2.sl 0 _ e
        obtain ⟨c1, c2⟩ := T C hc.1
        refine ⟨_, e2, B.me, C, dx, fv, rfl, k1, c1, c2, by rw [RepF.length k2]; exact hc.2, ?_⟩
        exact h1 _ Hf2 _ (r2.mut e rfl e2 ⟨rfl, dx, _, upd_same, RepF.put z2 k2, k3, k4⟩ rfl)
      · exact h1.elim
    · exact h1.elim

theorem JA.bind0 {α β : Type} {rel : Hp → α → β → Hp → Hp → Prop} {Q : β → Hp → Prop} {k : List O → Dr → Out α} {P : List V → Hp → Prop} (ha : JA X W B es fr) (r : R B bs Hf ρ S σ H) (h : EPost B W Hf σ H rel ((fr ρ S).bind k) Q)
    (hk : ∀ os S1 vs H1 Hf1, R B bs Hf1 ρ S1 σ H1 → Nx B Hf H Hf1 H1 → AsR B Hf1 H1 vs os → EPost B W Hf σ H rel (k os S1) Q → P vs H1) : tWA X es σ H P := by
  refine ha.go bs σ H ρ S Hf P r ?_
  cases q : fr ρ S with
  | ok e1 S1 =>
    rw [q] at h
    exact fun v Hf1 H1 n d z => hk e1 S1 v H1 Hf1 (r.next n d) n z h
  | exc C fs S1 => rw [q] at h; exact h
  | stk => rw [q] at h; exact h
/-! ### C(..) -/
theorem run_makeS {CX : CXT} {k : Nat} {f C : Addr} {fd : FuncData} {ps : List Str} {sp : Sp} {E : XK} {pins : List (Addr × Obj)} {s : Shared} {Q : VK} {us : List Value} {vs : List V} (M : Mk X.K C f) (F : FnOk X.prog X.w X.K X.mg X.base CX k f fd ps sp) (hr : Room (k + 1) X.A) (hb : Binds X.K fd ps [])
    (hx : PassesAt CX X σ E) (I : Inv X pins σ H s) (r : Vals vs us)
    (h : ∀ x dx, H x = none → H dx = none → dx ≠ x → sp (.ref x :: vs) (upd (upd H dx (.own x)) x (.ins C dx [])) (fun v H2 => v = .non ∧ Q (.ref x) H2) E) :
    wpAny (model X.prog X.w) X.A (call (.ref C) us) (EP X pins σ Q) X.xe s := by
  have hq := h (s.heap.objs.size + 1) s.heap.objs.size (I.hok.fresh (Nat.le_succ _)) (I.hok.fresh (Nat.le_refl _)) (Nat.ne_of_lt (Nat.lt_succ_self _))
  have I2 := Inv.made (C := C) I
  have r2 : Vals (V.ref (s.heap.objs.size + 1) :: vs) (Value.ref (s.heap.objs.size + 1) :: us) := .cons rfl r
  have hl : (Value.ref (s.heap.objs.size + 1) :: us ++ []).length = ps.length := by
    have e := r2.length
    rw [F.len _ _ _ _ hq] at e
    rw [List.append_nil]
    exact e.symm
  have hb2 := hb { s with heap := (s.heap.push PySem.W.emptyDict).push (PySem.W.instObj C s.heap.objs.size) } (Value.ref (s.heap.objs.size + 1) :: us) I2.kIn hl
  rw [List.append_nil] at hb2
  refine wpAny_call (make_map (f := f) I.kIn M.makes M.init (beq_iff_eq.mp M.fn) (codeAny_mono (F.run _ X.stack _ _ ⟨Value.ref (s.heap.objs.size + 1) :: us, []⟩ (Value.ref (s.heap.objs.size + 1) :: us) _ _ E (hr.make C us [])
    (I2.env0.make C us []) hb2 r2 hq) fun r s' hq' => ?_))
  cases r with
  | error e => exact hx pins _ _ e s' I2 hq'
  | ok fl =>
    cases fl with
    | ret u =>
      obtain ⟨v, H', I3, rv, ev, q3⟩ := I2.after hq'
      subst ev
      exact ⟨rv, ⟨V.ref (s.heap.objs.size + 1), H', I3, rfl, q3⟩⟩
    | next => exact False.elim hq'
    | brk => exact False.elim hq'
    | cont => exact False.elim hq'
def tMakeS (C : Addr) (sp : Sp) (E : L2.St → XK) (t : TA) : TE := fun σ H Q => t σ H fun vs H1 => ∀ x dx, H1 x = none → H1 dx = none → dx ≠ x → sp (.ref x :: vs) (upd (upd H1 dx (.own x)) x (.ins C dx [])) (fun v H2 => v = .non ∧ Q (.ref x) H2) (E σ)
theorem pe_makeS {CX : CXT} {k : Nat} {f C : Addr} {fd : FuncData} {ps : List Str} {sp : Sp} {E : L2.St → XK} {x : Str} {p : Pos} {t : TA} (M : Mk X.K C f) (F : FnOk X.prog X.w X.K X.mg X.base CX k f fd ps sp) (hr : Room (k + 1) X.A) (hg : Gl X x) (hm : X.mg x = some (.ref C)) (hb : Binds X.K fd ps []) (hx : ∀ σ, PassesAt CX X σ (E σ))
    (ha : PA X (e :: es) t) (hdb : (x == ("__debug__" : Str)) = false := by decide) (he : starEach (e :: es) X.env = (false, eval e X.env) :: starEach es X.env := by rfl) (hpl : (backTo pos (starEach es X.env)).any (·.1) = false := by rfl) :
    PE X (.Call (.Name x p) (e :: es) [] pos) (tMakeS C sp E t) := by
  refine ⟨fun pins s σ H Q I h => ?_⟩
  refine wpAny_Call_Name_kw (ld_glob I hg hm ?_ hdb)
  refine PySem.W.callWith_K (h₀ := X.base) I.ok.mod.kin M.kp (thn (ha.run pos pins s σ H _ I h) fun us s1 ⟨vs, H1, I1, r, q⟩ => ⟨I1.kIn, ?_⟩) he hpl
  exact run_makeS M F hr hb (hx σ) I1 r q
/-- a new object's place -/
theorem make_ok {n : Nat} {F : Addr → List (Str × Dn.D) → List O → Dr → Out (List (Str × Dn.D))} {C x dx : Addr} {vs : List V} {os : List O} {Hf1 H1 : Hp} {S1 : Dr} {Q : VK} (r : R B bs Hf ρ S σ H) (n1 : Nx B Hf H Hf1 H1) (r1 : R B bs Hf1 ρ S1 σ H1) (z1 : AsR B Hf1 H1 vs os) (hl : os.length + 1 = n)
    (hx : H1 x = none) (hdx : H1 dx = none) (ne : dx ≠ x) (h : EPost B W Hf σ H (erel B) ((F C [] os S1).bind fun fs S2 => .ok (.v (.obj C fs)) S2) Q) :
    spI B n F (.ref x :: vs) (upd (upd H1 dx (.own x)) x (.ins C dx [])) (fun v H2 => v = .non ∧ Q (.ref x) H2) (WE W σ) := by
  obtain ⟨m1, m2⟩ := r1.dr_ne hx
  obtain ⟨l1, l2⟩ := r1.dr_ne hdx
  have fx := r1.freeH hx
  have fdx := r1.freeH hdx
  have keep : ∀ b o, H1 b = some o → b ≠ x ∧ b ≠ dx := fun b o e => ⟨ne_of_none e hx, ne_of_none e hdx⟩
  have e1 : ∀ b o, H1 b = some o → upd (upd H1 dx (.own x)) x (.ins C dx []) b = some o := fun b o e => by
    obtain ⟨a1, a2⟩ := keep b o e
    rw [upd_ne a1, upd_ne a2]; exact e
  have e2 : ∀ b o, H1 b = some o → del (upd (upd H1 dx (.own x)) x (.ins C dx [])) x b = some o := fun b o e => by
    rw [del_ne (keep b o e).1]; exact e1 b o e
  have n2 : Nx B Hf1 H1 Hf1 (del (upd (upd H1 dx (.own x)) x (.ins C dx [])) x) := ⟨Ex.refl _, fun b o e => e2 b o (r1.ex b o e), fun _ _ q => .inl q, fun b o e _ _ => e2 b o e, r1.nd⟩
  have d2 : DrR B Hf1 S1 (upd (upd H1 dx (.own x)) x (.ins C dx [])) := ⟨e1 _ _ r1.drw.dr, r1.drw.cl, e1 _ _ r1.drw.rs, r1.drw.ne⟩
  have z2 : AsR B Hf1 (del (upd (upd H1 dx (.own x)) x (.ins C dx [])) x) vs os := by
    have aux : ∀ {vs : List V} {os : List O}, AsR B Hf1 H1 vs os → AsR B Hf1 (del (upd (upd H1 dx (.own x)) x (.ins C dx [])) x) vs os := fun z => by
      induction z with
      | nil => exact .nil
      | cons h _ ih => exact .cons (h.next n2) ih
    exact aux z1
  refine ⟨by rw [List.length_cons, as_len z1]; exact hl, x, C, dx, [], [], vs, os, S1, Hf1, rfl, upd_same, .nil, fx, m1, m2, fun b o e => e1 b o (r1.ex b o e), r1.nd, d2, z2, ?_⟩
  cases q : F C [] os S1 with
  | stk => rw [q] at h; exact h.elim
  | exc C' fs' S2 =>
    rw [q] at h
    exact fun d Hf' H' n3 d3 x3 => h d Hf' H' (n1.trans (n2.trans n3)) d3 x3
  | ok fs S2 =>
    rw [q] at h
    intro Hf' H' dx' fv n3 d3 k1 k2 k3
    refine ⟨rfl, ?_⟩
    have n4 := n1.trans (n2.trans n3)
    have hx0 : H x = none := by
      cases e : H x with
      | none => rfl
      | some u =>
        obtain ⟨a1, a2⟩ : x ≠ B.dr ∧ x ≠ B.rs := ⟨m1, m2⟩
        rw [n1.go x u e a1 a2] at hx; cases hx
    obtain ⟨y1, y2, y3⟩ := froz (r.next n4 d3) n4 k1 m1 m2 k3 hx0
    exact h _ _ _ y1 y3 (.obj upd_same (k2.mono y2))
def fMake (C : Addr) (n : Nat) (F : Addr → List (Str × Dn.D) → List O → Dr → Out (List (Str × Dn.D))) (fr : Env → Dr → Out (List O)) : Env → Dr → Out E := fun ρ S => (fr ρ S).bind fun os S1 => if os.length + 1 = n then (F C [] os S1).bind fun fs S2 => .ok (.v (.obj C fs)) S2 else .stk
/-- C(e, ..) -/
theorem je_make {n : Nat} {F : Addr → List (Str × Dn.D) → List O → Dr → Out (List (Str × Dn.D))} {k : Nat} {f C : Addr} {fd : FuncData} {ps : List Str} {x : Str} {p : Pos} (M : Mk X.K C f) (G : FnOk X.prog X.w X.K X.mg X.base (L2.CX X.prog X.w) k f fd ps (spI B n F)) (hr : Room (k + 1) X.A) (hm : X.mg x = some (.ref C))
    (hb : Binds X.K fd ps []) (tk : Takes X W) (ha : JA X W B (e :: es) fr) (hg : Gl X x := by rfl) (hdb : (x == ("__debug__" : Str)) = false := by decide) (he : starEach (e :: es) X.env = (false, eval e X.env) :: starEach es X.env := by exact star_c rfl) (hpl : (backTo pos (starEach es X.env)).any (·.1) = false := by exact star_any rfl) :
    JE X W B (.Call (.Name x p) (e :: es) [] pos) (fMake C n F fr) := JE.mk (pe_makeS (E := WE W) M G hr hg hm hb (fun σ => passAt tk σ) pa_W hdb he hpl) fun bs σ H ρ S Hf Q r h => by
  show tWA X (e :: es) σ H fun vs H1 => _
  refine ha.bind0 r h fun os S1 vs H1 Hf1 r1 n1 z1 h1 => ?_
  split at h1
  · rename_i hl
    intro x dx hx hdx ne
    exact make_ok r n1 r1 z1 hl hx hdx ne h1
  · exact h1.elim
end
end Dn

set_option Elab.async false
set_option linter.all false
set_option maxRecDepth 100000
set_option maxHeartbeats 4000000
namespace Dn
open PySem PySem.Spec PyProof.Rows L2

/-! ### a frozen object's fields, methods, properties -/
section
variable {X : Cx} {W : WX} {B : Bs} {bs : Hp × Hp} {Hs Hf H : Hp} {ρ : Env} {S : Dr} {σ : L2.St} {a b e o : Expr} {es : List Expr} {fa fb fo : Env → Dr → Out E} {fr : Env → Dr → Out (List O)} {pos p2 : Pos} {D : Ends}
theorem rep_obj (hx : Ex Hf H) {v : V} {C : Addr} {fs : List (Str × Dn.D)} (h : Rep B.K B.dr Hf v (.obj C fs)) : ∃ a dx fv, v = .ref a ∧ H a = some (.ins C dx fv) ∧ RepF B.K B.dr Hf fv fs := by
  cases h with
  | obj h1 l => exact ⟨_, _, _, rfl, hx _ _ h1, l⟩
theorem lk_none {K : PySem.W.Frag} {dr : Addr} {f : Str} : ∀ {vs : List (Str × V)} {ds : List (Str × Dn.D)}, RepF K dr Hf vs ds → ds.lookup f = none → vs.lookup f = none
  | _, _, .nil, _ => rfl
  | _, _, .cons (k := k) h l, q => by
    rw [List.lookup_cons] at q ⊢
    cases e : f == k with
    | true => rw [e] at q; cases q
    | false => rw [e] at q; exact lk_none l q
def fFld (ok : Addr → Bool) (f : Str) (fo : Env → Dr → Out E) : Env → Dr → Out E := fun ρ S => (fo ρ S).bind fun x S1 => match x with
  | .v (.obj C fs) => if ok C = true then match fs.lookup f with
    | some d => .ok (.v d) S1
    | none => .stk else .stk
  | _ => .stk
theorem je_fld {ok : Addr → Bool} {f : Str} (T : ∀ C, ok C = true → Cls X.K C ∧ NoAttr X.K C f) (ho : JE X W B o fo) (hb : attributeBase o f X.env (eval o X.env) = eval o X.env := by rfl) : JE X W B (.Attribute o f pos) (fFld ok f fo) :=
  JE.mk (pe_fld pe_W hb) fun bs σ H ρ S Hf Q r h => by
    show tW X o σ H fun x H1 => ∃ a C dx fs v, x = .ref a ∧ H1 a = some (.ins C dx fs) ∧ Cls X.K C ∧ NoAttr X.K C f ∧ fs.lookup f = some v ∧ Q v H1
    refine ho.bind r h back_e fun e1 S1 v H1 Hf1 r1 n1 z1 h1 => ?_
    split at h1
    · rename_i C fs
      split at h1
      · rename_i hok
        split at h1
        · rename_i d ql
          obtain ⟨a, dx, fv, rfl, ha, l⟩ := rep_obj r1.ex z1.v_ok
          obtain ⟨u, lu, z⟩ := RepF.lookup f l ql
          obtain ⟨c1, c2⟩ := T C hok
          exact ⟨a, C, dx, fv, u, rfl, ha, c1, c2, lu, EPost.now r1 h1 z⟩
        · exact h1.elim
      · exact h1.elim
    · exact h1.elim

/-! methods -/
theorem pe_methS {CX : CXT} {k : Nat} {f C : Addr} {m : Str} {fd : FuncData} {ps : List Str} {sp : Sp} {E : L2.St → XK} {apos : Pos} {t : TA} {ta : TE} {pl : Sem Bool} (he : PE X o ta) (c : Cls X.K C) (hm : Meth X.K C m f) (F : FnOk X.prog X.w X.K X.mg X.base CX k f fd ps sp) (hr : Room k X.A) (hb : Binds X.K fd ps []) (hx : ∀ σ, PassesAt CX X σ (E σ)) (ha : PA X (e :: es) t)
    (hst : starEach (e :: es) X.env = (false, eval e X.env) :: starEach es X.env := by rfl) (hpl : (backTo pos (starEach es X.env)).any (·.1) = false := by rfl)
    (ht : eval (.Call (.Attribute o m apos) (e :: es) [] pos) X.env = (do
      let ov ← eval o X.env
      standAt apos.atName
      let (f, first) ← holding [ov] (getMethod ov m pl)
      callWith pos f first (backTo pos (starEach (e :: es) X.env)) (backToKw pos (keywordEach [] X.env))) := by rfl) :
    PE X (.Call (.Attribute o m apos) (e :: es) [] pos) (fun σ H Q => ta σ H fun x H1 => ∃ a dx fs, x = .ref a ∧ H1 a = some (.ins C dx fs) ∧ fs.lookup m = none ∧ t σ H1 fun vs H2 => sp (.ref a :: vs) H2 Q (E σ)) := by
  refine ⟨fun pins s σ H Q I h => ?_⟩
  refine PySem.W.methodCall_KW (pl := pl) (thn (he.run pins s σ H _ I h) fun u s1 ⟨x, H1, I1, rx, a, dx, fs, ex, ea, l, q⟩ => ?_) ht
  subst ex
  obtain rfl : u = Value.ref a := rx
  refine getmeth_ok I1 ea c hm l ?_
  refine PySem.W.callWith_K (first := [.ref a]) (h₀ := X.base) I.ok.mod.kin hm.kp (thn (ha.run pos pins s1 σ H1 _ I1 q) fun us s2 ⟨vs, H2, I2, r, q2⟩ => ⟨I2.kIn, ?_⟩) hst hpl
  exact run_fnSD (us := .ref a :: us) (vs := .ref a :: vs) (dvs := []) (ds := []) F hr hb .nil (hx σ) I2 (.cons rfl r) (by rw [List.append_nil]; exact q2)
theorem pe_methS0 {CX : CXT} {k : Nat} {f C : Addr} {m : Str} {fd : FuncData} {ps : List Str} {sp : Sp} {E : L2.St → XK} {apos : Pos} {ta : TE} {pl : Sem Bool} (he : PE X o ta) (c : Cls X.K C) (hm : Meth X.K C m f) (F : FnOk X.prog X.w X.K X.mg X.base CX k f fd ps sp) (hr : Room k X.A) (hb : Binds X.K fd ps []) (hx : ∀ σ, PassesAt CX X σ (E σ))
    (ht : eval (.Call (.Attribute o m apos) [] [] pos) X.env = (do
      let ov ← eval o X.env
      standAt apos.atName
      let (f, first) ← holding [ov] (getMethod ov m pl)
      callWith pos f first (backTo pos (starEach [] X.env)) (backToKw pos (keywordEach [] X.env))) := by rfl) :
    PE X (.Call (.Attribute o m apos) [] [] pos) (fun σ H Q => ta σ H fun x H1 => ∃ a dx fs, x = .ref a ∧ H1 a = some (.ins C dx fs) ∧ fs.lookup m = none ∧ sp [.ref a] H1 Q (E σ)) := by
  refine ⟨fun pins s σ H Q I h => ?_⟩
  refine PySem.W.methodCall_KW (pl := pl) (thn (he.run pins s σ H _ I h) fun u s1 ⟨x, H1, I1, rx, a, dx, fs, ex, ea, l, q⟩ => ?_) ht
  subst ex
  obtain rfl : u = Value.ref a := rx
  refine getmeth_ok I1 ea c hm l ?_
  exact PySem.W.callWith_K0 (first := [.ref a]) I1.kIn hm.kp (run_fnSD (us := [.ref a]) (vs := [.ref a]) (dvs := []) (ds := []) F hr hb .nil (hx σ) I1 (.cons rfl .nil) (by rw [List.append_nil]; exact q))
/-- the methods of the name m: by the class -/
abbrev MTab := Addr → Option (List O → Dr → Out E)
def fMeth (tab : MTab) (m : Str) (n : Nat) (fo : Env → Dr → Out E) (fr : Env → Dr → Out (List O)) : Env → Dr → Out E := fun ρ S => (fo ρ S).bind fun x S1 => match x with
  | .v (.obj C fs) => match tab C with
    | some F => if fs.lookup m = none then (fr ρ S1).bind fun os S2 => if os.length + 1 = n then F (.v (.obj C fs) :: os) S2 else .stk else .stk
    | none => .stk
  | _ => .stk
/-- a method of the class C, ready to be called from X -/
structure MOk (X : Cx) (B : Bs) (m : Str) (n : Nat) (C : Addr) (F : List O → Dr → Out E) : Prop where
  c : Cls X.K C
  ex : ∃ (k : Nat) (f : Addr) (fd : FuncData) (ps : List Str), Meth X.K C m f ∧ FnOk X.prog X.w X.K X.mg X.base (L2.CX X.prog X.w) k f fd ps (spF B n F) ∧ Room k X.A ∧ Binds X.K fd ps []
theorem je_meth {tab : MTab} {m : Str} {n : Nat} {apos : Pos} {pl : Sem Bool} (ho : JE X W B o fo) (T : ∀ C F, tab C = some F → MOk X B m n C F) (tk : Takes X W) (ha : JA X W B (e :: es) fr) {C0 : Addr} {F0 : List O → Dr → Out E} (h0 : tab C0 = some F0)
    (hst : starEach (e :: es) X.env = (false, eval e X.env) :: starEach es X.env := by exact star_c rfl) (hpl : (backTo pos (starEach es X.env)).any (·.1) = false := by exact star_any rfl)
    (ht : eval (.Call (.Attribute o m apos) (e :: es) [] pos) X.env = (do
      let ov ← eval o X.env
      standAt apos.atName
      let (f, first) ← holding [ov] (getMethod ov m pl)
      callWith pos f first (backTo pos (starEach (e :: es) X.env)) (backToKw pos (keywordEach [] X.env))) := by rfl) : JE X W B (.Call (.Attribute o m apos) (e :: es) [] pos) (fMeth tab m n fo fr) := by
  refine .of fun bs σ H ρ S Hf Q r h => ?_
  have one : ∀ C F, MOk X B m n C F → (∀ x S1, fo ρ S = .ok x S1 → (∃ fs, x = .v (.obj C fs) ∧ tab C = some F) ∨ fMeth tab m n fo fr ρ S = .stk) → tW X (.Call (.Attribute o m apos) (e :: es) [] pos) σ H Q := fun C F ⟨c, k, f, fd, ps, hm, G, hr, hb⟩ hC => by
    refine tW_of (pe_methS (E := WE W) pe_W c hm G hr hb (fun σ => passAt tk σ) pa_W hst hpl ht) ?_
    refine ho.go bs σ H ρ S Hf _ r ?_
    unfold fMeth at h hC
    cases q : fo ρ S with
    | stk => rw [q] at h; exact h.elim
    | exc C fs S1 => rw [q] at h; exact h
    | ok x S1 =>
      rcases hC x S1 q with ⟨fs, rfl, hF⟩ | hs
      · rw [q] at h
        have h : EPost B W Hf σ H (erel B) (match tab C with
          | some F => if fs.lookup m = none then (fr ρ S1).bind fun os S2 => if os.length + 1 = n then F (.v (.obj C fs) :: os) S2 else .stk else .stk
          | none => .stk) Q := h
        rw [hF] at h
        dsimp only at h
        split at h
        · rename_i hl
          intro v Hf1 H1 n1 d1 z1
          have r1 := r.next n1 d1
          have z1 : ER B H Hf1 H1 v (.v (.obj C fs)) := z1
          obtain ⟨a, dx, fv, rfl, ea, l⟩ := rep_obj r1.ex z1.v_ok
          refine ⟨a, dx, fv, rfl, ea, lk_none l hl, ?_⟩
          refine ha.bind r1 (EPost.step back_e n1 d1 h) back_e fun os S2 vs H2 Hf2 r2 n2 z2 h2 => ?_
          split at h2
          · rename_i hn
            exact useF r2 (.cons (show ArR B Hf2 H2 (.ref a) (.v (.obj C fs)) from z1.v_ok.mono n2.ex) z2) (by simpa using hn) h2
          · exact h2.elim
        · exact h.elim
      · rw [hs] at h; exact h.elim
  by_cases ht : ∃ C fs S1 F, fo ρ S = .ok (.v (.obj C fs)) S1 ∧ tab C = some F
  · obtain ⟨C, fs, S1, F, q, hF⟩ := ht
    exact one C F (T C F hF) fun x S1' q' => .inl ⟨fs, by rw [q] at q'; cases q'; rfl, hF⟩
  · refine one C0 F0 (T C0 F0 h0) fun x S1 q => .inr ?_
    unfold fMeth
    rw [q]
    cases x with
    | v d =>
      cases d with
      | obj C fs =>
        cases hF : tab C with
        | none =>
          show (match tab C with
            | some F => _
            | none => Out.stk : Out E) = .stk
          rw [hF]
        | some F => exact (ht ⟨C, fs, S1, F, q, hF⟩).elim
      | _ => rfl
    | _ => rfl
theorem je_meth0 {tab : MTab} {m : Str} {apos : Pos} {pl : Sem Bool} (ho : JE X W B o fo) (T : ∀ C F, tab C = some F → MOk X B m 1 C F) (tk : Takes X W) {C0 : Addr} {F0 : List O → Dr → Out E} (h0 : tab C0 = some F0)
    (ht : eval (.Call (.Attribute o m apos) [] [] pos) X.env = (do
      let ov ← eval o X.env
      standAt apos.atName
      let (f, first) ← holding [ov] (getMethod ov m pl)
      callWith pos f first (backTo pos (starEach [] X.env)) (backToKw pos (keywordEach [] X.env))) := by rfl) : JE X W B (.Call (.Attribute o m apos) [] [] pos) (fMeth tab m 1 fo aNil) := by
  refine .of fun bs σ H ρ S Hf Q r h => ?_
  have one : ∀ C F, MOk X B m 1 C F → (∀ x S1, fo ρ S = .ok x S1 → (∃ fs, x = .v (.obj C fs) ∧ tab C = some F) ∨ fMeth tab m 1 fo aNil ρ S = .stk) → tW X (.Call (.Attribute o m apos) [] [] pos) σ H Q := fun C F ⟨c, k, f, fd, ps, hm, G, hr, hb⟩ hC => by
    refine tW_of (pe_methS0 (E := WE W) pe_W c hm G hr hb (fun σ => passAt tk σ) ht) ?_
    refine ho.go bs σ H ρ S Hf _ r ?_
    unfold fMeth at h hC
    cases q : fo ρ S with
    | stk => rw [q] at h; exact h.elim
    | exc C fs S1 => rw [q] at h; exact h
    | ok x S1 =>
      rcases hC x S1 q with ⟨fs, rfl, hF⟩ | hs
      · rw [q] at h
        have h : EPost B W Hf σ H (erel B) (match tab C with
          | some F => if fs.lookup m = none then F [.v (.obj C fs)] S1 else .stk
          | none => .stk) Q := h
        rw [hF] at h
        dsimp only at h
        split at h
        · rename_i hl
          intro v Hf1 H1 n1 d1 z1
          have r1 := r.next n1 d1
          have z1 : ER B H Hf1 H1 v (.v (.obj C fs)) := z1
          obtain ⟨a, dx, fv, rfl, ea, l⟩ := rep_obj r1.ex z1.v_ok
          refine ⟨a, dx, fv, rfl, ea, lk_none l hl, ?_⟩
          exact useF r1 (.cons (show ArR B Hf1 H1 (.ref a) (.v (.obj C fs)) from z1.v_ok) .nil) rfl (EPost.step back_e n1 d1 h)
        · exact h.elim
      · rw [hs] at h; exact h.elim
  by_cases ht : ∃ C fs S1 F, fo ρ S = .ok (.v (.obj C fs)) S1 ∧ tab C = some F
  · obtain ⟨C, fs, S1, F, q, hF⟩ := ht
    exact one C F (T C F hF) fun x S1' q' => .inl ⟨fs, by rw [q] at q'; cases q'; rfl, hF⟩
  · refine one C0 F0 (T C0 F0 h0) fun x S1 q => .inr ?_
    unfold fMeth
    rw [q]
    cases x with
    | v d =>
      cases d with
      | obj C fs =>
        cases hF : tab C with
        | none =>
          show (match tab C with
            | some F => _
            | none => Out.stk : Out E) = .stk
          rw [hF]
        | some F => exact (ht ⟨C, fs, S1, F, q, hF⟩).elim
      | _ => rfl
    | _ => rfl
/-! properties: nothing is raised -/
structure POk (X : Cx) (B : Bs) (f : Str) (C : Addr) (F : List O → Dr → Out E) : Prop where
  c : Cls X.K C
  ex : ∃ (k : Nat) (p g : Addr) (fd : FuncData) (ps : List Str), PropOf X.K C f p g ∧ FnOk X.prog X.w X.K X.mg X.base (L2.CX X.prog X.w) k g fd ps (spF B 1 F) ∧ Room (k + 1) X.A ∧ Binds X.K fd ps []
def fProp (tab : MTab) (fo : Env → Dr → Out E) : Env → Dr → Out E := fun ρ S => (fo ρ S).bind fun x S1 => match x with
  | .v (.obj C fs) => match tab C with
    | some F => noExc (F [.v (.obj C fs)] S1)
    | none => .stk
  | _ => .stk
theorem je_prop {tab : MTab} {f : Str} (ho : JE X W B o fo) (T : ∀ C F, tab C = some F → POk X B f C F) {C0 : Addr} {F0 : List O → Dr → Out E} (h0 : tab C0 = some F0) (hab : attributeBase o f X.env (eval o X.env) = eval o X.env := by rfl) :
    JE X W B (.Attribute o f pos) (fProp tab fo) := by
  refine .of fun bs σ H ρ S Hf Q r h => ?_
  have one : ∀ C F, POk X B f C F → (∀ x S1, fo ρ S = .ok x S1 → (∃ fs, x = .v (.obj C fs) ∧ tab C = some F) ∨ fProp tab fo ρ S = .stk) → tW X (.Attribute o f pos) σ H Q := fun C F ⟨c, k, p, g, fd, ps, hp, G, hr, hb⟩ hC => by
    refine tW_of (pe_prop (E := fun _ _ _ => False) (dvs := []) pe_W c hp G hr hb .nil (passes_call (W := fun _ _ _ _ => False) (takes0 (X := X.nox)) fun _ _ _ _ z => z) hab) ?_
    refine ho.go bs σ H ρ S Hf _ r ?_
    unfold fProp at h hC
    cases q : fo ρ S with
    | stk => rw [q] at h; exact h.elim
    | exc C fs S1 => rw [q] at h; exact h
    | ok x S1 =>
      rcases hC x S1 q with ⟨fs, rfl, hF⟩ | hs
      · rw [q] at h
        have h : EPost B W Hf σ H (erel B) (match tab C with
          | some F => noExc (F [.v (.obj C fs)] S1)
          | none => .stk) Q := h
        rw [hF] at h
        dsimp only at h
        intro v Hf1 H1 n1 d1 z1
        have r1 := r.next n1 d1
        have z1 : ER B H Hf1 H1 v (.v (.obj C fs)) := z1
        obtain ⟨a, dx, fv, rfl, ea, l⟩ := rep_obj r1.ex z1.v_ok
        refine ⟨a, dx, fv, rfl, ea, ?_⟩
        have h2 := EPost.step back_e n1 d1 h
        cases qF : F [.v (.obj C fs)] S1 with
        | stk => rw [qF] at h2; exact h2.elim
        | exc C' fs' S2 => rw [qF] at h2; exact h2.elim
        | ok e2 S2 =>
          rw [qF] at h2
          refine ⟨rfl, [.v (.obj C fs)], S1, Hf1, r1.ex, r1.nd, r1.drw, .cons (show ArR B Hf1 H1 (.ref a) (.v (.obj C fs)) from z1.v_ok) .nil, ?_⟩
          rw [qF]
          exact fun v Hf' H' n d z => h2 v Hf' H' n d z
      · rw [hs] at h; exact h.elim
  by_cases ht : ∃ C fs S1 F, fo ρ S = .ok (.v (.obj C fs)) S1 ∧ tab C = some F
  · obtain ⟨C, fs, S1, F, q, hF⟩ := ht
    exact one C F (T C F hF) fun x S1' q' => .inl ⟨fs, by rw [q] at q'; cases q'; rfl, hF⟩
  · refine one C0 F0 (T C0 F0 h0) fun x S1 q => .inr ?_
    unfold fProp
    rw [q]
    cases x with
    | v d =>
      cases d with
      | obj C fs =>
        cases hF : tab C with
        | none =>
          show (match tab C with
            | some F => _
            | none => Out.stk : Out E) = .stk
          rw [hF]
        | some F => exact (ht ⟨C, fs, S1, F, q, hF⟩).elim
      | _ => rfl
    | _ => rfl

/-! ### keywords -/
def tWK (X : Cx) (kws : List Keyword) : TA := fun σ H Q => ∀ (pos : Pos) (pins : List (Addr × Obj)) (s : Shared), Inv X pins σ H s → wpAny (model X.prog X.w) X.A (evalAll ((backToKw pos (keywordEach kws X.env)).map (·.2))) (AP X pins σ Q) X.xe s
theorem pk_W {kws : List Keyword} : PK X kws (tWK X kws) := ⟨fun pos pins s _ _ _ I h => h pos pins s I⟩
structure JK (X : Cx) (W : WX) (B : Bs) (kws : List Keyword) (f : Env → Dr → Out (List O)) : Prop where
  of ::
  go : ∀ (bs : Hp × Hp) (σ : L2.St) (H : Hp) (ρ : Env) (S : Dr) (Hf : Hp) (Q : List V → Hp → Prop), R B bs Hf ρ S σ H → EPost B W Hf σ H (arel B) (f ρ S) Q → tWK X kws σ H Q
theorem jk_nil : JK X W B [] aNil := .of fun bs σ H ρ S Hf Q r h pos pins s I => (pk_nil (X := X)).run pos pins s σ H Q I (h [] Hf H r.nx0 r.drw .nil)
theorem JK.bind {kws : List Keyword} {α β : Type} {rel : Hp → α → β → Hp → Hp → Prop} {Q : β → Hp → Prop} {k : List O → Dr → Out α} {P : List V → Hp → Prop} (ha : JK X W B kws fr) (r : R B bs Hf ρ S σ H) (h : EPost B W Hf σ H rel ((fr ρ S).bind k) Q) (hb : Back B rel)
    (hk : ∀ os S1 vs H1 Hf1, R B bs Hf1 ρ S1 σ H1 → Nx B Hf H Hf1 H1 → AsR B Hf1 H1 vs os → EPost B W Hf1 σ H1 rel (k os S1) Q → P vs H1) : tWK X kws σ H P := by
  refine ha.go bs σ H ρ S Hf P r ?_
  cases q : fr ρ S with
  | ok e1 S1 =>
    rw [q] at h
    exact fun v Hf1 H1 n d z => hk e1 S1 v H1 Hf1 (r.next n d) n z (EPost.step hb n d h)
  | exc C fs S1 => rw [q] at h; exact h
  | stk => rw [q] at h; exact h
theorem jk_cons {kws : List Keyword} {nm : Option Str} {kpos : Pos} (ha : JE X W B e fa) (hr : JK X W B kws fr) : JK X W B (⟨nm, e, kpos⟩ :: kws) (aCons fa fr) := .of fun bs σ H ρ S Hf Q r h pos pins s I => by
  refine (pk_cons (X := X) pe_W pk_W).run pos pins s σ H Q I ?_
  show tW X e σ H fun x H1 => tWK X kws σ H1 fun xs H2 => Q (x :: xs) H2
  refine ha.bind0 r h fun e1 S1 v H1 Hf1 r1 n1 z1 h1 => ?_
  obtain ⟨Hf2, n2, x2, d2, z2⟩ := toO_ok r1 n1 z1
  have r2 : R B bs Hf2 ρ S1 σ H1 := r.next n2 d2
  refine hr.bind r2 (EPost.step back_a n2 d2 h1) back_a fun os S2 vs H2 Hf3 r3 n3 z3 h3 => ?_
  exact h3 _ Hf3 H2 r3.nx0 r3.drw (.cons (z2.next n3) z3)
end
end Dn

set_option Elab.async false
set_option linter.all false
set_option maxRecDepth 100000
set_option maxHeartbeats 4000000
namespace Dn
open PySem PySem.Spec PyProof.Rows L2

section
variable {X : Cx} {W : WX} {B : Bs} {bs : Hp × Hp} {Hs Hf Hf' H H' : Hp} {ρ : Env} {S : Dr} {σ : L2.St} {a b e o : Expr} {es : List Expr} {fa fb fo : Env → Dr → Out E} {fr fk : Env → Dr → Out (List O)} {pos p2 : Pos} {D : Ends}
theorem as_next (n : Nx B Hf H Hf' H') : ∀ {vs : List V} {os : List O}, AsR B Hf H vs os → AsR B Hf' H' vs os
  | _, _, .nil => .nil
  | _, _, .cons h l => .cons (h.next n) (as_next n l)
theorem as_append : ∀ {vs ws : List V} {os us : List O}, AsR B Hf H vs os → AsR B Hf H ws us → AsR B Hf H (vs ++ ws) (os ++ us)
  | _, _, _, _, .nil, m => m
  | _, _, _, _, .cons h l, m => .cons h (as_append l m)

/-! ### C(e, .., k = v, ..) -/
theorem run_makeKS {CX : CXT} {k n : Nat} {f C : Addr} {fd : FuncData} {ps ks : List Str} {sp : Sp} {E : XK} {g : List Value → List Value → List Value} {gV : List V → List V → List V} {pins : List (Addr × Obj)} {s : Shared} {Q : VK} {us ws : List Value} {vs zs : List V}
    (M : Mk X.K C f) (F : FnOk X.prog X.w X.K X.mg X.base CX k f fd ps sp) (hr : Room (k + 1) X.A) (hb : KBn X.K fd ps (n + 1) ks g gV) (hx : PassesAt CX X σ E)
    (I : Inv X pins σ H s) (r : Vals vs us) (rz : Vals zs ws) (l1 : vs.length = n) (l2 : zs.length = ks.length)
    (h : ∀ x dx, H x = none → H dx = none → dx ≠ x → sp (gV (.ref x :: vs) zs) (upd (upd H dx (.own x)) x (.ins C dx [])) (fun v H2 => v = .non ∧ Q (.ref x) H2) E) :
    wpAny (model X.prog X.w) X.A (call (.ref C) us (ks.zip ws)) (EP X pins σ Q) X.xe s := by
  have hq := h (s.heap.objs.size + 1) s.heap.objs.size (I.hok.fresh (Nat.le_succ _)) (I.hok.fresh (Nat.le_refl _)) (Nat.ne_of_lt (Nat.lt_succ_self _))
  have I2 := Inv.made (C := C) I
  have r1 : Vals (V.ref (s.heap.objs.size + 1) :: vs) (Value.ref (s.heap.objs.size + 1) :: us) := .cons rfl r
  have r2 := hb.rel r1 rz
  have n1 : (Value.ref (s.heap.objs.size + 1) :: us).length = n + 1 := by
    rw [List.length_cons, ← r.length, l1]
  refine wpAny_call (make_map (f := f) I.kIn M.makes M.init (beq_iff_eq.mp M.fn) (codeAny_mono (F.run _ X.stack _ _ ⟨Value.ref (s.heap.objs.size + 1) :: us, ks.zip ws⟩ (g (Value.ref (s.heap.objs.size + 1) :: us) ws) _ _ E (hr.make C us (ks.zip ws))
    (I2.env0.make C us (ks.zip ws)) (hb.to _ (Value.ref (s.heap.objs.size + 1) :: us) ws I2.kIn n1 (rz.length.symm.trans l2)) r2 hq) fun r s' hq' => ?_))
  cases r with
  | error e => exact hx pins _ _ e s' I2 hq'
  | ok fl =>
    cases fl with
    | ret u =>
      obtain ⟨v, H', I3, rv, ev, q3⟩ := I2.after hq'
      subst ev
      exact ⟨rv, ⟨V.ref (s.heap.objs.size + 1), H', I3, rfl, q3⟩⟩
    | next => exact False.elim hq'
    | brk => exact False.elim hq'
    | cont => exact False.elim hq'
theorem pe_makeKS {CX : CXT} {k n : Nat} {f C : Addr} {fd : FuncData} {ps ks : List Str} {sp : Sp} {E : L2.St → XK} {x : Str} {p : Pos} {kws : List Keyword} {t tk : TA} {g : List Value → List Value → List Value} {gV : List V → List V → List V}
    (M : Mk X.K C f) (F : FnOk X.prog X.w X.K X.mg X.base CX k f fd ps sp) (hr : Room (k + 1) X.A) (hg : Gl X x) (hm : X.mg x = some (.ref C)) (hb : KBn X.K fd ps (n + 1) ks g gV) (hx : ∀ σ, PassesAt CX X σ (E σ)) (ha : PA X (e :: es) t) (hkw : PK X kws tk)
    (hall : (backToKw pos (keywordEach kws X.env)).all (·.1.isSome) = true := by rfl) (hks : (backToKw pos (keywordEach kws X.env)).filterMap (·.1) = ks := by rfl) (hdb : (x == ("__debug__" : Str)) = false := by decide)
    (he : starEach (e :: es) X.env = (false, eval e X.env) :: starEach es X.env := by rfl) (hpl : ((backTo pos (starEach (e :: es) X.env)).any (·.1) || (backToKw pos (keywordEach kws X.env)).any (·.1.isNone)) = false := by rfl) :
    PE X (.Call (.Name x p) (e :: es) kws pos) (fun σ H Q => t σ H fun vs H1 => tk σ H1 fun zs H2 => vs.length = n ∧ zs.length = ks.length ∧ ∀ x dx, H2 x = none → H2 dx = none → dx ≠ x →
      sp (gV (.ref x :: vs) zs) (upd (upd H2 dx (.own x)) x (.ins C dx [])) (fun v H3 => v = .non ∧ Q (.ref x) H3) (E σ)) := by
  refine ⟨fun pins s σ H Q I h => ?_⟩
  refine wpAny_Call_Name_kw (ld_glob I hg hm ?_ hdb)
  refine PySem.W.callWith_KW (h₀ := X.base) I.ok.mod.kin M.kp hall (thn (ha.run pos pins s σ H _ I h) fun us s1 ⟨vs, H1, I1, r, q⟩ => ?_) hpl he
  refine thn (hkw.run pos pins s1 σ H1 _ I1 q) fun ws s2 ⟨zs, H2, I2, rz, l1, l2, q2⟩ => ⟨I2.kIn, ?_⟩
  rw [hks]
  exact run_makeKS M F hr hb (hx σ) I2 r rz l1 l2 q2
def fMakeK (C : Addr) (n m : Nat) (F : Addr → List (Str × Dn.D) → List O → Dr → Out (List (Str × Dn.D))) (gO : List O → List O → List O) (fr fk : Env → Dr → Out (List O)) : Env → Dr → Out E := fun ρ S => (fr ρ S).bind fun os S1 => (fk ρ S1).bind fun ks S2 =>
  if os.length = n ∧ ks.length = m then (F C [] (gO os ks) S2).bind fun fs S3 => .ok (.v (.obj C fs)) S3 else .stk
/-- where the arguments come, values and data -/
def GvO (n m l : Nat) (gV : List V → List V → List V) (gO : List O → List O → List O) : Prop :=
  ∀ (B : Bs) (Hf H : Hp) (v : V) (vs zs : List V) (os ks : List O), AsR B Hf H vs os → AsR B Hf H zs ks → os.length = n → ks.length = m → ∃ vr, gV (v :: vs) zs = v :: vr ∧ AsR B Hf H vr (gO os ks) ∧ (gO os ks).length + 1 = l
theorem je_makeK {n m l : Nat} {F : Addr → List (Str × Dn.D) → List O → Dr → Out (List (Str × Dn.D))} {gO : List O → List O → List O} {k : Nat} {f C : Addr} {fd : FuncData} {ps ks : List Str} {x : Str} {p : Pos} {kws : List Keyword} {g : List Value → List Value → List Value} {gV : List V → List V → List V}
    (M : Mk X.K C f) (G : FnOk X.prog X.w X.K X.mg X.base (L2.CX X.prog X.w) k f fd ps (spI B l F)) (hr : Room (k + 1) X.A) (hm : X.mg x = some (.ref C)) (hb : KBn X.K fd ps (n + 1) ks g gV) (hgo : GvO n m l gV gO) (hkl : ks.length = m) (tk : Takes X W) (ha : JA X W B (e :: es) fr) (hkw : JK X W B kws fk)
    (hg : Gl X x := by rfl) (hall : (backToKw pos (keywordEach kws X.env)).all (·.1.isSome) = true := by rfl) (hks : (backToKw pos (keywordEach kws X.env)).filterMap (·.1) = ks := by rfl) (hdb : (x == ("__debug__" : Str)) = false := by decide)
    (he : starEach (e :: es) X.env = (false, eval e X.env) :: starEach es X.env := by exact star_c rfl) (hpl : ((backTo pos (starEach (e :: es) X.env)).any (·.1) || (backToKw pos (keywordEach kws X.env)).any (·.1.isNone)) = false := by rfl) :
    JE X W B (.Call (.Name x p) (e :: es) kws pos) (fMakeK C n m F gO fr fk) := JE.mk (pe_makeKS (E := WE W) M G hr hg hm hb (fun σ => passAt tk σ) pa_W pk_W hall hks hdb he hpl) fun bs σ H ρ S Hf Q r h => by
  show tWA X (e :: es) σ H fun vs H1 => tWK X kws σ H1 fun zs H2 => _
  refine ha.bind0 r h fun os S1 vs H1 Hf1 r1 n1 z1 h1 => ?_
  refine hkw.go bs σ H1 ρ S1 Hf1 _ r1 ?_
  cases q : fk ρ S1 with
  | stk => rw [q] at h1; exact h1.elim
  | exc C' fs' S2 => rw [q] at h1; exact fun d Hf2 H2 n2 d2 x2 => h1 d Hf2 H2 (n1.trans n2) d2 x2
  | ok us S2 =>
    rw [q] at h1
    intro zs Hf2 H2 n2 d2 z2
    have h1 : EPost B W Hf σ H (erel B) (if os.length = n ∧ us.length = m then (F C [] (gO os us) S2).bind fun fs S3 => .ok (.v (.obj C fs)) S3 else .stk) Q := h1
    split at h1
    · rename_i hl
      have r2 := r1.next n2 d2
      have z1' := as_next n2 z1
      refine ⟨by rw [as_len z1]; exact hl.1, by rw [as_len z2, hl.2, hkl], fun y dx hy hdx ne => ?_⟩
      obtain ⟨vr, e1, zr, ll⟩ := hgo B Hf2 H2 (.ref y) vs zs os us z1' z2 hl.1 hl.2
      rw [e1]
      exact make_ok r (n1.trans n2) r2 zr ll hy hdx ne h1
    · exact h1.elim
/-- all parameters in order -/
theorem gvo_app {n m : Nat} : GvO n m (n + m + 1) (fun vs zs => vs ++ zs) (fun os ks => os ++ ks) := fun B Hf H v vs zs os ks h1 h2 l1 l2 => ⟨vs ++ zs, rfl, as_append h1 h2, by rw [List.length_append, l1, l2]⟩
/-- .. one None ahead of the keywords' -/
theorem gvo_non {n m : Nat} : GvO n m (n + m + 2) (fun vs zs => vs ++ (.non :: zs)) (fun os ks => os ++ (.v .non :: ks)) := fun B Hf H v vs zs os ks h1 h2 l1 l2 => ⟨vs ++ (.non :: zs), rfl, as_append h1 (.cons (show ArR B Hf H .non (.v .non) from Rep.non) h2), by simp; omega⟩

/-! ### a call of a local that holds a def -/
theorem pe_callLS {CX : CXT} {k i : Nat} {f : Addr} {fd : FuncData} {ps : List Str} {sp : Sp} {E : L2.St → XK} {x : Str} {p : Pos} {t : TA} (F : FnOk X.prog X.w X.K X.mg X.base CX k f fd ps sp) (hr : Room k X.A) (hN : X.N[i]? = some x) (hv : Vis X.env.scope x) (hk : PySem.W.keepIn X.K (.ref f) = true) (hb : Binds X.K fd ps []) (hx : ∀ σ, PassesAt CX X σ (E σ)) (ha : PA X (e :: es) t)
    (hdb : (x == ("__debug__" : Str)) = false := by decide) (hcd : (x == ("__classdict__" : Str)) = false := by decide)
    (he : starEach (e :: es) X.env = (false, eval e X.env) :: starEach es X.env := by rfl) (hpl : (backTo pos (starEach es X.env)).any (·.1) = false := by rfl) : PE X (.Call (.Name x p) (e :: es) [] pos) (fun σ H Q => σ[i]? = some (some (.ref f)) ∧ t σ H fun vs H1 => sp vs H1 Q (E σ)) := by
  refine ⟨fun pins s σ H Q I h => ?_⟩
  obtain ⟨hs, ht⟩ := h
  refine wpAny_Call_Name_kw (thn ((pe_var (pos := p) hN hv hdb hcd).run pins s σ H (fun v H1 => v = .ref f ∧ H1 = H) I ⟨.ref f, hs, rfl, rfl⟩) fun u s1 ⟨v, H1, I1, r1, q1⟩ => ?_)
  obtain ⟨rfl, rfl⟩ := q1
  cases r1
  refine PySem.W.callWith_K (h₀ := X.base) I.ok.mod.kin hk (thn (ha.run pos pins s1 σ _ _ I1 ht) fun us s2 ⟨vs, H2, I2, r, q⟩ => ⟨I2.kIn, ?_⟩) he hpl
  exact run_fnSD (dvs := []) (ds := []) F hr hb .nil (hx σ) I2 r (by rw [List.append_nil]; exact q)
structure LOk (X : Cx) (B : Bs) (n : Nat) (f : Addr) (F : List O → Dr → Out E) : Prop where
  ex : ∃ (k : Nat) (fd : FuncData) (ps : List Str), FnOk X.prog X.w X.K X.mg X.base (L2.CX X.prog X.w) k f fd ps (spF B n F) ∧ Room k X.A ∧ PySem.W.keepIn X.K (.ref f) = true ∧ Binds X.K fd ps []
def fCallL (i : Nat) (tab : MTab) (n : Nat) (fr : Env → Dr → Out (List O)) : Env → Dr → Out E := fun ρ S => match ρ[i]? with
  | some (some (.v (.ref a))) => match tab a with
    | some F => (fr ρ S).bind fun os S1 => if os.length = n then F os S1 else .stk
    | none => .stk
  | _ => .stk
theorem je_callL {i n : Nat} {tab : MTab} {x : Str} {p : Pos} (T : ∀ f F, tab f = some F → LOk X B n f F) (tk : Takes X W) (ha : JA X W B (e :: es) fr) (hN : X.N[i]? = some x := by rfl) (hv : Vis X.env.scope x := by first | exact Or.inl rfl | exact Or.inr (Or.inl rfl) | exact Or.inr (Or.inr rfl))
    (hdb : (x == ("__debug__" : Str)) = false := by decide) (hcd : (x == ("__classdict__" : Str)) = false := by decide)
    (he : starEach (e :: es) X.env = (false, eval e X.env) :: starEach es X.env := by exact star_c rfl) (hpl : (backTo pos (starEach es X.env)).any (·.1) = false := by exact star_any rfl) : JE X W B (.Call (.Name x p) (e :: es) [] pos) (fCallL i tab n fr) := by
  refine .of fun bs σ H ρ S Hf Q r h => ?_
  unfold fCallL at h
  split at h
  · rename_i a ea
    split at h
    · rename_i F hF
      obtain ⟨k, fd, ps, G, hr, hk, hb⟩ := (T a F hF).ex
      obtain ⟨v, e2, z⟩ := r.sl i _ ea
      have z : Rep B.K B.dr Hf v (.ref a) := z
      cases z
      refine tW_of (pe_callLS (E := WE W) G hr hN hv hk hb (fun σ => passAt tk σ) pa_W hdb hcd he hpl) ?_
      refine ⟨e2, ?_⟩
      refine ha.bind r h back_e fun os S1 vs H1 Hf1 r1 n1 z1 h1 => ?_
      split at h1
      · rename_i hl
        exact useF r1 z1 hl h1
      · exact h1.elim
    · exact h.elim
  · exact h.elim

/-! ### f() -/
theorem pe_callS0 {CX : CXT} {k : Nat} {f : Addr} {fd : FuncData} {ps : List Str} {sp : Sp} {E : L2.St → XK} {x : Str} {p : Pos} (F : FnOk X.prog X.w X.K X.mg X.base CX k f fd ps sp) (hr : Room k X.A) (hg : Gl X x) (hm : X.mg x = some (.ref f)) (hk : PySem.W.keepIn X.K (.ref f) = true) (hb : Binds X.K fd ps []) (hx : ∀ σ, PassesAt CX X σ (E σ))
    (hdb : (x == ("__debug__" : Str)) = false := by decide) : PE X (.Call (.Name x p) [] [] pos) (fun σ H Q => sp [] H Q (E σ)) := by
  refine ⟨fun pins s σ H Q I h => ?_⟩
  refine wpAny_Call_Name_kw (ld_glob I hg hm ?_ hdb)
  exact PySem.W.callWith_K0 I.kIn hk (run_fnSD (us := []) (vs := []) (dvs := []) (ds := []) F hr hb .nil (hx σ) I .nil h)
theorem je_call0 {F : List O → Dr → Out E} {k : Nat} {f : Addr} {fd : FuncData} {ps : List Str} {x : Str} {p : Pos} (G : FnOk X.prog X.w X.K X.mg X.base (L2.CX X.prog X.w) k f fd ps (spF B 0 F)) (hr : Room k X.A) (hm : X.mg x = some (.ref f)) (hk : PySem.W.keepIn X.K (.ref f) = true) (hb : Binds X.K fd ps [])
    (tk : Takes X W) (hg : Gl X x := by rfl) (hdb : (x == ("__debug__" : Str)) = false := by decide) : JE X W B (.Call (.Name x p) [] [] pos) (fUse 0 F aNil) :=
  JE.mk (pe_callS0 (E := WE W) G hr hg hm hk hb (fun σ => passAt tk σ) hdb) fun bs σ H ρ S Hf Q r h => useF r .nil rfl h
end
end Dn

set_option Elab.async false
set_option linter.all false
set_option maxRecDepth 100000
set_option maxHeartbeats 4000000
namespace Dn
open PySem PySem.Spec PyProof.Rows L2

/-! ### dicts -/
def dV (kvs : List (Key × Dn.D)) (k : Key) : Option Dn.D := (kvs.find? fun kv => decide (kv.1 = k)).map (·.2)
def dP (kvs : List (Key × Dn.D)) (k : Key) (d : Dn.D) : List (Key × Dn.D) :=
  if (kvs.any fun kv => decide (kv.1 = k)) = true then kvs.map (fun kv => if kv.1 = k then (kv.1, d) else kv) else kvs ++ [(k, d)]
section
variable {K : PySem.W.Frag} {dr : Addr} {H : Hp}
theorem RepK.length : ∀ {vs : List (Key × V)} {ds : List (Key × Dn.D)}, RepK K dr H vs ds → vs.length = ds.length
  | _, _, .nil => rfl
  | _, _, .cons _ l => by simp only [List.length_cons]; rw [l.length]
theorem RepK.val {k : Key} : ∀ {vs : List (Key × V)} {ds : List (Key × Dn.D)}, RepK K dr H vs ds → (dV ds k = none ∧ valV vs k = none) ∨ ∃ v d, dV ds k = some d ∧ valV vs k = some v ∧ Rep K dr H v d
  | _, _, .nil => .inl ⟨rfl, rfl⟩
  | _, _, .cons (k := j) (v := v) (d := d) h l => by
    by_cases e : j = k
    · exact .inr ⟨v, d, by simp [dV, e], by simp [valV, e], h⟩
    · rcases l.val (k := k) with ⟨h1, h2⟩ | ⟨v, d, h1, h2, h3⟩
      · refine .inl ⟨?_, ?_⟩
        · unfold dV at h1 ⊢; rw [List.find?_cons]; simp only [e, decide_false]; exact h1
        · rw [valV_neg e]; exact h2
      · refine .inr ⟨v, d, ?_, ?_, h3⟩
        · unfold dV at h1 ⊢; rw [List.find?_cons]; simp only [e, decide_false]; exact h1
        · rw [valV_neg e]; exact h2
theorem RepK.any {k : Key} : ∀ {vs : List (Key × V)} {ds : List (Key × Dn.D)}, RepK K dr H vs ds → (vs.any fun kv => decide (kv.1 = k)) = ds.any fun kv => decide (kv.1 = k)
  | _, _, .nil => rfl
  | _, _, .cons _ l => by simp only [List.any_cons]; rw [l.any]
theorem RepK.snoc {k : Key} {v : V} {d : Dn.D} (h : Rep K dr H v d) : ∀ {vs : List (Key × V)} {ds : List (Key × Dn.D)}, RepK K dr H vs ds → RepK K dr H (vs ++ [(k, v)]) (ds ++ [(k, d)])
  | _, _, .nil => .cons h .nil
  | _, _, .cons h1 l => .cons h1 (l.snoc h)
theorem RepK.mapP {k : Key} {v : V} {d : Dn.D} (h : Rep K dr H v d) : ∀ {vs : List (Key × V)} {ds : List (Key × Dn.D)}, RepK K dr H vs ds → RepK K dr H (vs.map fun kv => if kv.1 = k then (kv.1, v) else kv) (ds.map fun kv => if kv.1 = k then (kv.1, d) else kv)
  | _, _, .nil => .nil
  | _, _, .cons (k := j) h1 l => by
    rw [List.map_cons, List.map_cons]
    by_cases e : j = k
    · rw [if_pos e, if_pos e]; exact .cons h (l.mapP h)
    · rw [if_neg e, if_neg e]; exact .cons h1 (l.mapP h)
theorem RepK.put {k : Key} {v : V} {d : Dn.D} {vs : List (Key × V)} {ds : List (Key × Dn.D)} (l : RepK K dr H vs ds) (h : Rep K dr H v d) : RepK K dr H (putK vs k v) (dP ds k d) := by
  unfold putK dP
  rw [l.any]
  split
  · exact l.mapP h
  · exact l.snoc h
theorem RepK.keys : ∀ {vs : List (Key × V)} {ds : List (Key × Dn.D)}, RepK K dr H vs ds → vs.map (·.1) = ds.map (·.1)
  | _, _, .nil => rfl
  | _, _, .cons _ l => by simp only [List.map_cons]; rw [l.keys]
end
def E.key : E → Option Key
  | .v (.int i) => some (.inl i)
  | .v (.str x) => some (.inr x)
  | _ => none
def keyD : Key → Dn.D
  | .inl i => .int i
  | .inr x => .str x
theorem rep_key {K : PySem.W.Frag} {dr : Addr} {H : Hp} (k : Key) : Rep K dr H (kV k) (keyD k) := by
  cases k with
  | inl i => exact Rep.int i
  | inr x => exact Rep.str x
theorem ER.key {B : Bs} {Hs Hf H : Hp} {v : V} {e : E} {k : Key} (h : ER B Hs Hf H v e) (q : e.key = some k) : v = kV k := by
  cases e with
  | v d =>
    cases d <;> simp [E.key] at q
    · subst q; cases h; rfl
    · subst q; cases h; rfl
  | _ => cases q
section
variable {X : Cx} {W : WX} {B : Bs} {bs : Hp × Hp} {Hs Hf H : Hp} {ρ : Env} {S : Dr} {σ : L2.St} {a b c e : Expr} {fa fb fc : Env → Dr → Out E} {pos p2 : Pos}
/-- two rules for one operation -/
theorem JE.orOp {g g' : E → E → Option E} (h : JE X W B e (fOp g fa fb)) (h' : JE X W B e (fOp g' fa fb)) : JE X W B e (fOp (fun x y => match g x y with
    | some z => some z
    | none => g' x y) fa fb) := .of fun bs σ H ρ S Hf Q r q => by
  unfold fOp at q
  cases q1 : fa ρ S with
  | stk => rw [q1] at q; exact q.elim
  | exc C fs S1 => rw [q1] at q; exact h.go bs σ H ρ S Hf Q r (by unfold fOp; rw [q1]; exact q)
  | ok x S1 =>
    rw [q1] at q
    cases q2 : fb ρ S1 with
    | stk => simp only [Out.bind, q2] at q; exact q.elim
    | exc C fs S2 => simp only [Out.bind, q2] at q; exact h.go bs σ H ρ S Hf Q r (by unfold fOp; simp only [Out.bind, q1, q2]; exact q)
    | ok y S2 =>
      simp only [Out.bind, q2] at q
      cases q3 : g x y with
      | some z => rw [q3] at q; exact h.go bs σ H ρ S Hf Q r (by unfold fOp; simp only [Out.bind, q1, q2, q3]; exact q)
      | none => rw [q3] at q; exact h'.go bs σ H ρ S Hf Q r (by unfold fOp; simp only [Out.bind, q1, q2]; exact q)
def gIxK : E → E → Option E := fun x y => match x.kd, y.key with
  | some kvs, some k => (dV kvs k).map .v
  | _, _ => none
theorem je_ixK (hu : X.A.units + 1 < cLine) (ha : JE X W B a fa) (hb : JE X W B b fb) (hs : NoSl b := by exact fun _ _ => rfl) : JE X W B (.Subscript a b pos) (fOp gIxK fa fb) :=
  JE.mk (pe_dget hu pe_W pe_W hs) fun bs σ H ρ S Hf Q R0 h => by
    show tW X a σ H fun x H1 => tW X b σ H1 fun y H2 => ∃ a v, x = .ref a ∧ DGet H2 a y (some v) ∧ Q v H2
    refine ha.bind R0 h back_e fun e1 S1 v H1 Hf1 r1 n1 z1 h1 => ?_
    refine hb.bind r1 h1 back_e fun e2 S2 v2 H2 Hf2 r2 n2 z2 h2 => ?_
    cases q : gIxK e1 e2 with
    | none => rw [q] at h2; exact h2.elim
    | some e =>
      rw [q] at h2
      unfold gIxK at q
      split at q
      · rename_i kvs k q1 q2
        simp only [Option.map_eq_some_iff] at q
        obtain ⟨d, q, rfl⟩ := q
        obtain ⟨p, vs, rfl, hp, l⟩ := (z1.next r1 n2).kd r2 q1
        cases z2.key q2
        rcases l.val (k := k) with ⟨k1, _⟩ | ⟨u, d', k1, k2, k3⟩
        · rw [q] at k1; cases k1
        · rw [q] at k1
          cases k1
          exact ⟨p, u, rfl, k2 ▸ DGet.k hp, h2 _ Hf2 H2 r2.nx0 r2.drw k3⟩
      · cases q
def gIxA (x y : E) : Option E := match gIx x y with
  | some z => some z
  | none => gIxK x y
theorem je_ixA (hu : X.A.units + 1 < cLine) (hK : X.K = B.K) (ha : JE X W B a fa) (hb : JE X W B b fb) (hs : PlainIx b := by exact fun _ _ => rfl) (hs2 : NoSl b := by exact fun _ _ => rfl) : JE X W B (.Subscript a b pos) (fOp gIxA fa fb) :=
  JE.orOp (je_ix hK ha hb hs) (je_ixK hu ha hb hs2)
/-- k in d -/
def gInK (neg : Bool) : E → E → Option E := fun x y => match y.kd, x.key with
  | some kvs, some k => some (.v (.bl (if neg then !(dV kvs k).isSome else (dV kvs k).isSome)))
  | _, _ => none
theorem dget_k {e1 e2 : E} {H2 Hs1 Hs2 Hf2 : Hp} {S2 : Dr} {v v2 : V} {kvs : List (Key × Dn.D)} {k : Key} (r2 : R B bs Hf2 ρ S2 σ H2) (z1 : ER B Hs1 Hf2 H2 v e1) (z2 : ER B Hs2 Hf2 H2 v2 e2) (q1 : e2.kd = some kvs) (q2 : e1.key = some k) :
    ∃ p o, v2 = .ref p ∧ DGet H2 p v o ∧ o.isSome = (dV kvs k).isSome := by
  obtain ⟨p, vs, rfl, hp, l⟩ := z2.kd r2 q1
  cases z1.key q2
  refine ⟨p, valV vs k, rfl, DGet.k hp, ?_⟩
  rcases l.val (k := k) with ⟨k1, k2⟩ | ⟨u, d', k1, k2, _⟩
  · rw [k1, k2]; rfl
  · rw [k1, k2]; rfl
theorem je_inK (hu : X.A.units + 1 < cLine) (ha : JE X W B a fa) (hb : JE X W B b fb) (h1 : behindInMarks .In b = false := by first | exact nobehind _ (by decide) (by decide) | exact nomark _ | rfl | (with_unfolding_all rfl)) : JE X W B (.Compare a [.In] [b] pos) (fOp (gInK false) fa fb) :=
  JE.mk (pe_cmp (pc_din hu pe_W pe_W) h1) fun bs σ H ρ S Hf Q R0 h => by
    show tW X a σ H fun y H1 => tW X b σ H1 fun x H2 => ∃ a o, x = .ref a ∧ DGet H2 a y o ∧ Q (.bl o.isSome) H2
    refine ha.bind R0 h back_e fun e1 S1 v H1 Hf1 r1 n1 z1 h1 => ?_
    refine hb.bind r1 h1 back_e fun e2 S2 v2 H2 Hf2 r2 n2 z2 h2 => ?_
    cases q : gInK false e1 e2 with
    | none => rw [q] at h2; exact h2.elim
    | some e =>
      rw [q] at h2
      unfold gInK at q
      split at q
      · rename_i kvs k q1 q2
        cases q
        obtain ⟨p, o, rfl, k1, k2⟩ := dget_k r2 (z1.next r1 n2) z2 q1 q2
        exact ⟨p, o, rfl, k1, by rw [k2]; exact h2 _ Hf2 H2 r2.nx0 r2.drw (Rep.bl _)⟩
      · cases q
theorem je_notInK (hu : X.A.units + 1 < cLine) (ha : JE X W B a fa) (hb : JE X W B b fb) (h1 : behindInMarks .NotIn b = false := by first | exact nobehind _ (by decide) (by decide) | exact nomark _ | rfl | (with_unfolding_all rfl)) : JE X W B (.Compare a [.NotIn] [b] pos) (fOp (gInK true) fa fb) :=
  JE.mk (pe_cmp (pc_dnotin hu pe_W pe_W) h1) fun bs σ H ρ S Hf Q R0 h => by
    show tW X a σ H fun y H1 => tW X b σ H1 fun x H2 => ∃ a o, x = .ref a ∧ DGet H2 a y o ∧ Q (.bl (!o.isSome)) H2
    refine ha.bind R0 h back_e fun e1 S1 v H1 Hf1 r1 n1 z1 h1 => ?_
    refine hb.bind r1 h1 back_e fun e2 S2 v2 H2 Hf2 r2 n2 z2 h2 => ?_
    cases q : gInK true e1 e2 with
    | none => rw [q] at h2; exact h2.elim
    | some e =>
      rw [q] at h2
      unfold gInK at q
      split at q
      · rename_i kvs k q1 q2
        cases q
        obtain ⟨p, o, rfl, k1, k2⟩ := dget_k r2 (z1.next r1 n2) z2 q1 q2
        exact ⟨p, o, rfl, k1, by rw [k2]; exact h2 _ Hf2 H2 r2.nx0 r2.drw (Rep.bl _)⟩
      · cases q
def gInD (neg : Bool) (x y : E) : Option E := match gInA neg x y with
  | some z => some z
  | none => gInK neg x y
theorem je_inD (hK : X.K = B.K) (hu : X.A.units + 65 < cLine) (ha : JE X W B a fa) (hb : JE X W B b fb) (hm : behindInMarks .In b = false := by first | exact nomark _ | rfl | (with_unfolding_all rfl)) : JE X W B (.Compare a [.In] [b] pos) (fOp (gInD false) fa fb) :=
  JE.orOp (je_cmp (op_inA hK hu) oj_inA ha hb hm) (je_inK (by omega) ha hb hm)
theorem je_notInD (hK : X.K = B.K) (hu : X.A.units + 65 < cLine) (ha : JE X W B a fa) (hb : JE X W B b fb) (hm : behindInMarks .NotIn b = false := by first | exact nomark _ | rfl | (with_unfolding_all rfl)) : JE X W B (.Compare a [.NotIn] [b] pos) (fOp (gInD true) fa fb) :=
  JE.orOp (je_cmp (op_notInA hK hu) oj_notInA ha hb hm) (je_notInK (by omega) ha hb hm)
theorem JT.orOp {g g' : E → E → Option E} (h : JT X W B e (fTst (fOp g fa fb))) (h' : JT X W B e (fTst (fOp g' fa fb))) : JT X W B e (fTst (fOp (fun x y => match g x y with
    | some z => some z
    | none => g' x y) fa fb)) := .of fun bs σ H ρ S Hf Q r q => by
  unfold fTst fOp at q
  cases q1 : fa ρ S with
  | stk => rw [q1] at q; exact q.elim
  | exc C fs S1 => rw [q1] at q; exact h.go bs σ H ρ S Hf Q r (by unfold fTst fOp; rw [q1]; exact q)
  | ok x S1 =>
    rw [q1] at q
    cases q2 : fb ρ S1 with
    | stk => simp only [Out.bind, q2] at q; exact q.elim
    | exc C fs S2 => simp only [Out.bind, q2] at q; exact h.go bs σ H ρ S Hf Q r (by unfold fTst fOp; simp only [Out.bind, q1, q2]; exact q)
    | ok y S2 =>
      simp only [Out.bind, q2] at q
      cases q3 : g x y with
      | some z => rw [q3] at q; exact h.go bs σ H ρ S Hf Q r (by unfold fTst fOp; simp only [Out.bind, q1, q2, q3]; exact q)
      | none => rw [q3] at q; exact h'.go bs σ H ρ S Hf Q r (by unfold fTst fOp; simp only [Out.bind, q1, q2]; exact q)
theorem jt_inK (hu : X.A.units + 1 < cLine) (ha : JE X W B a fa) (hb : JE X W B b fb) (h1 : behindInMarks .In b = false := by first | exact nobehind _ (by decide) (by decide) | exact nomark _ | rfl | (with_unfolding_all rfl)) : JT X W B (.Compare a [.In] [b] pos) (fTst (fOp (gInK false) fa fb)) :=
  JT.mk (pt_cmp (pc_din hu pe_W pe_W) h1) fun bs σ H ρ S Hf Q R0 h => by
    show tW X a σ H fun y H1 => tW X b σ H1 fun x H2 => ∃ a o, x = .ref a ∧ DGet H2 a y o ∧ ∃ c, V.bl o.isSome = .bl c ∧ Q c H2
    refine ha.bind (k := fun x S1 => ((fb ρ S1).bind fun y S2 => Out.of (gInK false x y) S2).bind fun e S1 => Out.of e.bl? S1) (Q := Q) R0 (by
      unfold fTst fOp at h
      cases q : fa ρ S with
      | ok e1 S1 => rw [q] at h; exact h
      | exc C fs S1 => rw [q] at h; exact h
      | stk => rw [q] at h; exact h) back_t fun e1 S1 v H1 Hf1 r1 n1 z1 h1 => ?_
    refine hb.bind (k := fun y S2 => (Out.of (gInK false e1 y) S2).bind fun e S1 => Out.of e.bl? S1) (Q := Q) r1 (by
      cases q : fb ρ S1 with
      | ok e2 S2 => rw [q] at h1; exact h1
      | exc C fs S2 => rw [q] at h1; exact h1
      | stk => rw [q] at h1; exact h1) back_t fun e2 S2 v2 H2 Hf2 r2 n2 z2 h2 => ?_
    cases q : gInK false e1 e2 with
    | none => rw [q] at h2; exact h2.elim
    | some e =>
      rw [q] at h2
      unfold gInK at q
      split at q
      · rename_i kvs k q1 q2
        cases q
        obtain ⟨p, o, rfl, k1, k2⟩ := dget_k r2 (z1.next r1 n2) z2 q1 q2
        exact ⟨p, o, rfl, k1, _, rfl, by rw [k2]; exact EPost.nowT r2 h2⟩
      · cases q
theorem jt_notInK (hu : X.A.units + 1 < cLine) (ha : JE X W B a fa) (hb : JE X W B b fb) (h1 : behindInMarks .NotIn b = false := by first | exact nobehind _ (by decide) (by decide) | exact nomark _ | rfl | (with_unfolding_all rfl)) : JT X W B (.Compare a [.NotIn] [b] pos) (fTst (fOp (gInK true) fa fb)) :=
  JT.mk (pt_cmp (pc_dnotin hu pe_W pe_W) h1) fun bs σ H ρ S Hf Q R0 h => by
    show tW X a σ H fun y H1 => tW X b σ H1 fun x H2 => ∃ a o, x = .ref a ∧ DGet H2 a y o ∧ ∃ c, V.bl (!o.isSome) = .bl c ∧ Q c H2
    refine ha.bind (k := fun x S1 => ((fb ρ S1).bind fun y S2 => Out.of (gInK true x y) S2).bind fun e S1 => Out.of e.bl? S1) (Q := Q) R0 (by
      unfold fTst fOp at h
      cases q : fa ρ S with
      | ok e1 S1 => rw [q] at h; exact h
      | exc C fs S1 => rw [q] at h; exact h
      | stk => rw [q] at h; exact h) back_t fun e1 S1 v H1 Hf1 r1 n1 z1 h1 => ?_
    refine hb.bind (k := fun y S2 => (Out.of (gInK true e1 y) S2).bind fun e S1 => Out.of e.bl? S1) (Q := Q) r1 (by
      cases q : fb ρ S1 with
      | ok e2 S2 => rw [q] at h1; exact h1
      | exc C fs S2 => rw [q] at h1; exact h1
      | stk => rw [q] at h1; exact h1) back_t fun e2 S2 v2 H2 Hf2 r2 n2 z2 h2 => ?_
    cases q : gInK true e1 e2 with
    | none => rw [q] at h2; exact h2.elim
    | some e =>
      rw [q] at h2
      unfold gInK at q
      split at q
      · rename_i kvs k q1 q2
        cases q
        obtain ⟨p, o, rfl, k1, k2⟩ := dget_k r2 (z1.next r1 n2) z2 q1 q2
        exact ⟨p, o, rfl, k1, _, rfl, by rw [k2]; exact EPost.nowT r2 h2⟩
      · cases q
theorem jt_inD (hK : X.K = B.K) (hu : X.A.units + 65 < cLine) (ha : JE X W B a fa) (hb : JE X W B b fb) (hm : behindInMarks .In b = false := by first | exact nomark _ | rfl | (with_unfolding_all rfl)) : JT X W B (.Compare a [.In] [b] pos) (fTst (fOp (gInD false) fa fb)) :=
  JT.orOp (jt_cmp (op_inA hK hu) oj_inA ha hb hm) (jt_inK (by omega) ha hb hm)
theorem jt_notInD (hK : X.K = B.K) (hu : X.A.units + 65 < cLine) (ha : JE X W B a fa) (hb : JE X W B b fb) (hm : behindInMarks .NotIn b = false := by first | exact nomark _ | rfl | (with_unfolding_all rfl)) : JT X W B (.Compare a [.NotIn] [b] pos) (fTst (fOp (gInD true) fa fb)) :=
  JT.orOp (jt_cmp (op_notInA hK hu) oj_notInA ha hb hm) (jt_notInK (by omega) ha hb hm)
end
end Dn

set_option Elab.async false
set_option linter.all false
set_option maxRecDepth 100000
set_option maxHeartbeats 4000000
namespace Dn
open PySem PySem.Spec PyProof.Rows L2

section
variable {X : Cx} {W : WX} {B : Bs} {bs : Hp × Hp} {Hs Hf H : Hp} {ρ : Env} {S : Dr} {σ : L2.St} {a b c e o : Expr} {es : List Expr} {fa fb fc fo : Env → Dr → Out E} {fr : Env → Dr → Out (List O)} {pos p2 : Pos} {st : Stmt} {g : Env → Dr → SO}

/-! ### {k: v}, d.get(k, x) -/
theorem JE.bindX {α β : Type} {rel : Hp → α → β → Hp → Hp → Prop} {Q : β → Hp → Prop} {k : E → Dr → Out α} {P : VK} {H0 Hf0 : Hp} (ha : JE X W B e fa) (m0 : Nx B Hf H Hf0 H0) (r : R B bs Hf0 ρ S σ H0) (h : EPost B W Hf σ H rel ((fa ρ S).bind k) Q)
    (hk : ∀ e1 S1 v H1 Hf1, R B bs Hf1 ρ S1 σ H1 → Nx B Hf0 H0 Hf1 H1 → ER B H0 Hf1 H1 v e1 → EPost B W Hf σ H rel (k e1 S1) Q → P v H1) : tW X e σ H0 P := by
  refine ha.go bs σ H0 ρ S Hf0 P r ?_
  cases q : fa ρ S with
  | ok e1 S1 =>
    rw [q] at h
    exact fun v Hf1 H1 n d z => hk e1 S1 v H1 Hf1 (r.next n d) n z h
  | exc C fs S1 => rw [q] at h; exact fun d Hf' H' n => h d Hf' H' (m0.trans n)
  | stk => rw [q] at h; exact h
def fDict1 (fk fv : Env → Dr → Out E) : Env → Dr → Out E := fun ρ S => (fk ρ S).bind fun y S1 => (fv ρ S1).bind fun e S2 => match y.key with
  | some k => match per e with
    | some d => .ok (.nd [(k, d)]) S2
    | none => .stk
  | none => .stk
theorem je_dict1 (ha : JE X W B a fa) (hb : JE X W B b fb) : JE X W B (.Dict [some a] [b] pos) (fDict1 fa fb) :=
  JE.mk (pe_disp (pps_cons pe_W pe_W pps_nil) rfl rfl (by simp) (by simp)) fun bs σ H ρ S Hf Q r h => fun p hp => by
    show tW X a σ (upd H p (.dK [])) fun x H1 => tW X b σ H1 fun y H2 => H2 p = some (.dK []) ∧ ∃ kvs : List (Key × V), [(x, y)] = kvs.map (fun kv => (kV kv.1, kv.2)) ∧ kvs.length ≤ 15 ∧ Q (.ref p) (upd H2 p (.dK (mergeK [] kvs)))
    obtain ⟨n1, n2⟩ := r.dr_ne hp
    have m0 : Nx B Hf H Hf (upd H p (.dK [])) := r.new hp
    have r0 := r.next m0 (r.drw.new hp (Ex.refl _))
    refine ha.bindX m0 r0 h fun e1 S1 v1 H1 Hf1 r1 m1 z1 h1 => ?_
    refine hb.bindX (m0.trans m1) r1 h1 fun e2 S2 v2 H2 Hf2 r2 m2 z2 h2 => ?_
    split at h2
    · rename_i k qk
      cases qp : per e2 with
      | none => rw [qp] at h2; exact h2.elim
      | some d =>
        rw [qp] at h2
        obtain ⟨Hf3, m3, x3, d3, z3⟩ := per_ok r2 m2 z2 qp
        have m := m1.trans m3
        have hp2 : H2 p = some (.dK []) := m.go _ _ upd_same n1 n2
        have hf3 : Hf3 p = none := by
          cases q : Hf3 p with
          | none => rfl
          | some u =>
            rcases m.fr _ _ q with w | w
            · rw [r.freeH hp] at w; cases w
            · rw [upd_same] at w; cases w
        have hk := z1.key qk
        refine ⟨hp2, [(k, v2)], by rw [hk]; rfl, by simp, ?_⟩
        exact h2 _ Hf3 _ ((m0.trans m).updX hf3 hp) ⟨by rw [upd_ne (Ne.symm n1)]; exact d3.dr, d3.cl, by rw [upd_ne (Ne.symm n2)]; exact d3.rs, d3.ne⟩ ⟨p, _, rfl, upd_same, n1, n2, .cons z3 .nil, hf3, hp⟩
    · exact h2.elim
def fGet2 (fo fa fb : Env → Dr → Out E) : Env → Dr → Out E := fun ρ S => (fo ρ S).bind fun x S1 => match x.kd with
  | some kvs => (fa ρ S1).bind fun y S2 => (fb ρ S2).bind fun z S3 => match y.key with
    | some k => match z with
      | .v d => .ok (.v ((dV kvs k).getD d)) S3
      | _ => .stk
    | none => .stk
  | none => .stk
theorem je_get2 {apos cpos : Pos} (hu : X.A.units + 1 < cLine) (ho : JE X W B o fo) (ha : JE X W B a fa) (hb : JE X W B b fb)
    (hbase : attributeBase o "get" X.env (eval o X.env) = eval o X.env := by rfl)
    (hfew : ((backTo cpos (starEach [a, b] X.env)).all (fun x => !x.1) && (backToKw cpos (keywordEach [] X.env)).all (fun x => x.1.isSome) && decide (([a, b] : List Expr).length + ([] : List Keyword).length + (if ([] : List Keyword).isEmpty then 0 else 1) < 30)) = true := by rfl)
    (hline : (apos.endLine == cpos.line) = true := by rfl) (htr : backTo cpos (starEach [a, b] X.env) = [(false, eval a X.env), (false, eval b X.env)] := by (rw [star_2 rfl rfl]; rfl)) :
    JE X W B (.Call (.Attribute o "get" apos) [a, b] [] cpos) (fGet2 fo fa fb) :=
  JE.mk (pe_dget2 hu pe_W pe_W pe_W ⟨hbase, hfew, hline, htr⟩) fun bs σ H ρ S Hf Q r h => by
    show tW X o σ H fun x H1 => ∃ a', x = .ref a' ∧ IsD H1 a' ∧ tW X a σ H1 fun y H2 => tW X b σ H2 fun z H3 => ∃ o, DGet H3 a' y o ∧ Q (o.getD z) H3
    refine ho.bind r h back_e fun e1 S1 v H1 Hf1 r1 n1 z1 h1 => ?_
    cases q1 : e1.kd with
    | none => rw [q1] at h1; exact h1.elim
    | some kvs =>
      rw [q1] at h1
      obtain ⟨p, vs, rfl, hp, l⟩ := z1.kd r1 q1
      refine ⟨p, rfl, .inl ⟨vs, .inl hp⟩, ?_⟩
      refine ha.bind r1 h1 back_e fun e2 S2 v2 H2 Hf2 r2 n2 z2 h2 => ?_
      refine hb.bind r2 h2 back_e fun e3 S3 v3 H3 Hf3 r3 n3 z3 h3 => ?_
      split at h3
      · rename_i k qk
        split at h3
        · rename_i d
          obtain ⟨p', vs', ep, hp3, l3⟩ := ((z1.next r1 n2).next r2 n3).kd r3 q1
          cases ep
          cases (z2.next r2 n3).key qk
          refine ⟨_, DGet.k hp3, ?_⟩
          rcases l3.val (k := k) with ⟨k1, k2⟩ | ⟨u, d', k1, k2, k3⟩
          · rw [k2]; rw [k1] at h3; exact h3 _ Hf3 H3 r3.nx0 r3.drw z3
          · rw [k2]; rw [k1] at h3; exact h3 _ Hf3 H3 r3.nx0 r3.drw k3
        · exact h3.elim
      · exact h3.elim

/-! ### d[k] = v -/
def sPutK (i : Nat) (fb fa : Env → Dr → Out E) : Env → Dr → SO := fun ρ S => match ρ[i]? with
  | some (some (.d kvs)) => (fa ρ S).so ρ fun e S1 => match per e with
    | some d => (fb ρ S1).so ρ fun y S2 => match y.key with
      | some k => if kvs.length < sizeLine then .nx (ρ.set i (some (.d (dP kvs k d)))) S2 else .stk
      | none => .stk
    | none => .stk
  | _ => .stk
theorem js_putK (i : Nat) {x : Str} {p pos' : Pos} (hu : X.A.units + 1 < cLine) (hb : JE X W B b fb) (ha : JE X W B a fa) (hN : X.N[i]? = some x := by rfl) (hv : Vis X.env.scope x := by first | exact Or.inl rfl | exact Or.inr (Or.inl rfl) | exact Or.inr (Or.inr rfl)) (hd : (x == ("__debug__" : Str)) = false := by decide)
    (hcd : (x == ("__classdict__" : Str)) = false := by decide) (hs : swapsWith a (some (.Subscript (.Name x p) b pos')) pos.line X.env = pure false := by rfl) :
    JS X W B (.Assign [.Subscript (.Name x p) b pos'] a pos) (sPutK i fb fa) := JS.mk (ps_dput hu (pe_var hN hv hd hcd) pe_W pe_W hs) fun bs σ H ρ S Hf D r h => by
  show tW X a σ H fun v H1 => ∃ x, σ[i]? = some (some x) ∧ (tW X b σ H1 fun y H3 => ∃ p H4, x = .ref p ∧ DPut H3 p y v H4 ∧ D.nx σ H4)
  unfold sPutK at h
  split at h
  · rename_i kvs e
    refine ha.so r h fun e1 S1 v H1 Hf1 r1 m1 z1 q => ?_
    cases qp : per e1 with
    | none => rw [qp] at q; exact q.elim
    | some d =>
      rw [qp] at q
      dsimp only at q
      obtain ⟨Hf2, m2, x2, d2, z2⟩ := per_ok r1 m1 z1 qp
      have r2 := r.next m2 d2
      obtain ⟨v', e3, s'⟩ := r2.sl i _ e
      obtain ⟨l', vs', rfl, k1, k2, k3, k4⟩ := s'
      refine ⟨_, e3, ?_⟩
      refine hb.so r2 q fun e2 S2 y H3 Hf3 r3 m3 z3 q2 => ?_
      split at q2
      · rename_i k qk
        split at q2
        · rename_i hl
          obtain ⟨v4, e4, s4⟩ := r3.sl i _ e
          rw [e3] at e4
          cases e4
          obtain ⟨l5, vs5, el, k5, k6, k7, k8⟩ := s4
          cases el
          cases z3.key qk
          refine ⟨l', _, rfl, DPut.k k5 (by rw [k6.length]; exact hl), ?_⟩
          exact q2 _ Hf3 _ (r3.mut e rfl e3 ⟨l', _, rfl, upd_same, k6.put (z2.mono m3.ex), k7, k8⟩ rfl)
        · exact q2.elim
      · exact q2.elim
  · exact h.elim

/-! ### x.clear() -/
def sClr (i : Nat) : Env → Dr → SO := fun ρ S => match ρ[i]? with
  | some (some (.l _)) => .nx (ρ.set i (some (.l []))) S
  | _ => .stk
theorem js_clr (i : Nat) {x : Str} {p pp cpos : Pos} (hK : X.K = B.K) (hN : X.N[i]? = some x := by rfl) (hv : Vis X.env.scope x := by first | exact Or.inl rfl | exact Or.inr (Or.inl rfl) | exact Or.inr (Or.inr rfl)) (hd : (x == ("__debug__" : Str)) = false := by decide)
    (hcd : (x == ("__classdict__" : Str)) = false := by decide)
    (hbase : attributeBase (.Name x p) "clear" X.env (eval (.Name x p) X.env) = eval (.Name x p) X.env := by rfl) (hline : (pp.endLine == cpos.line) = true := by rfl)
    (hsw : swapsWith (.Call (.Attribute (.Name x p) "clear" pp) [] [] cpos) none pos.line X.env = pure false := by rfl) :
    JS X W B (.Expr (.Call (.Attribute (.Name x p) "clear" pp) [] [] cpos) pos) (sClr i) :=
  JS.mk (ps_expr (pe_bm0 PySem.F.plainAttrs_list PySem.F.slot_list_clear PySem.F.type_list_clear mt_clear (pe_var hN hv hd hcd) hbase hline) hsw) fun bs σ H ρ S Hf D r h => by
    unfold sClr at h
    split at h
    · rename_i ds e
      obtain ⟨v, e2, s⟩ := r.sl i _ e
      obtain ⟨l, vs, rfl, h1, h2, h3, h4⟩ := s
      refine ⟨_, e2, .inl ⟨rfl, _, .inl (.inl h1)⟩, ?_⟩
      refine ⟨l, vs, rfl, rfl, h1, ?_⟩
      exact h _ Hf _ (r.mut e rfl e2 ⟨l, _, rfl, upd_same, .nil, h3, h4⟩ rfl)
    · exact h.elim

/-! ### a, b = x, y with new lists, new dicts -/
def sParO (i j : Nat) (fa fb : Env → Dr → Out E) : Env → Dr → SO := fun ρ S => if i < ρ.length ∧ j < ρ.length then (fa ρ S).so ρ fun x S1 => (fb ρ S1).so ρ fun y S2 => match stO x with
  | some o => match stO y with
    | some u => .nx ((ρ.set i (some o)).set j (some u)) S2
    | none => .stk
  | none => .stk else .stk
theorem js_parO (i j : Nat) {x y : Str} {px py pt : Pos} {kt k2 pt2} (hc : X.calm = true) (hN : X.N.Nodup) (ha : JE X W B a fa) (hb : JE X W B b fb) (hij : i ≠ j := by decide) (hi : X.N[i]? = some x := by rfl) (hj : X.N[j]? = some y := by rfl)
    (hx : X.env.scope.names.lookup x = some .local := by rfl) (hy : X.env.scope.names.lookup y = some .local := by rfl)
    (hw : swappedStores [.Tuple [.Name x px, .Name y py] kt pt] (.Tuple [a, b] k2 pt2) X.env = pure (some [x, y]) := by rfl)
    (hs : swapsWithSole [.Tuple [.Name x px, .Name y py] kt pt] (.Tuple [a, b] k2 pt2) pos.line X.env = pure false := by rfl)
    (s1 : starEach [a, b] X.env = (false, eval a X.env) :: starEach [b] X.env := by exact star_c rfl) (s2 : starEach [b] X.env = (false, eval b X.env) :: starEach [] X.env := by exact star_c rfl) :
    JS X W B (.Assign [.Tuple [.Name x px, .Name y py] kt pt] (.Tuple [a, b] k2 pt2) pos) (sParO i j fa fb) :=
  JS.mk (ps_par hc hN hi hj hij hx hy (pa_cons pe_W (pa_cons pe_W pa_nil s2) s1) hw hs) fun bs σ H ρ S Hf D r h => by
    show tW X a σ H fun x H1 => tW X b σ H1 fun y H2 => ∃ v w, [x, y] = [v, w] ∧ D.nx ((σ.set i (some v)).set j (some w)) H2
    unfold sParO at h
    split at h
    · rename_i hl
      refine ha.so r h fun e1 S1 v H1 Hf1 r1 m1 z1 q => ?_
      refine hb.so r1 q fun e2 S2 w H2 Hf2 r2 m2 z2 q2 => ?_
      cases q3 : stO e1 with
      | none => rw [q3] at q2; exact q2.elim
      | some oa =>
        rw [q3] at q2
        cases q4 : stO e2 with
        | none => rw [q4] at q2; exact q2.elim
        | some ob =>
          rw [q4] at q2
          refine ⟨v, w, rfl, q2 _ Hf2 H2 ?_⟩
          have z1' : ER B H Hf2 H2 v e1 := z1.next r1 m2
          have ra : R B bs Hf2 (ρ.set i (some oa)) S2 (σ.set i (some v)) H2 := stO_ok r r2 hl.1 z1' q3
          have z2' : ER B H Hf2 H2 w e2 := back_e Hf H Hf1 H1 S1 m1 r1.drw e2 w Hf2 H2 z2
          have fresh : ∀ p, H1 p = none → ∀ (m : Nat) oj, (ρ.set i (some oa))[m]? = some (some oj) → oj.own = true → (σ.set i (some v))[m]? = some (some (V.ref p)) → m = j := fun p hp m oj hm wj em => by
            exfalso
            rcases set_some hm with ⟨rfl, eo, _⟩ | ⟨ne, hm⟩
            · cases eo
              rw [List.getElem?_set_self (by rw [← r.len]; exact hl.1)] at em
              cases em
              cases e1 with
              | v d => cases q3; cases wj
              | b d => cases q3
              | bd d => cases q3
              | n d => obtain ⟨p', vs, ep, hp', _⟩ := z1; cases ep; rw [hp] at hp'; cases hp'
              | nd d => obtain ⟨p', vs, ep, hp', _⟩ := z1; cases ep; rw [hp] at hp'; cases hp'
            · rw [List.getElem?_set_ne (Ne.symm ne)] at em
              obtain ⟨b', u, e2', h2', _⟩ := r1.own_at hm wj
              rw [em] at e2'
              cases e2'
              rw [hp] at h2'
              cases h2'
          have hlj : j < (ρ.set i (some oa)).length := by rw [List.length_set]; exact hl.2
          cases e2 with
          | v d => cases q4; exact ra.store hlj z2' fun w => by cases w
          | b d => cases q4
          | bd d => cases q4
          | n d =>
            cases q4
            obtain ⟨p, vs, rfl, g1, g2, g3, g4, g5, g6⟩ := z2
            refine ra.store hlj ⟨p, vs, rfl, g1, g4, g5, r1.free0 g6⟩ fun _ b' hb' => ?_
            cases hb'
            exact fresh p g6
          | nd d =>
            cases q4
            obtain ⟨p, vs, rfl, g1, g2, g3, g4, g5, g6⟩ := z2
            refine ra.store hlj ⟨p, vs, rfl, g1, g4, g5, r1.free0 g6⟩ fun _ b' hb' => ?_
            cases hb'
            exact fresh p g6
    · exact h.elim

/-! ### a list, a dict of the def's own is given away: it stays as it is -/
def frzO : O → Option Dn.D
  | .l ds => some (.lst ds)
  | .d kvs => some (.dct kvs)
  | .v d => some d
  | _ => none
def sFrz (i : Nat) (g : Env → Dr → SO) : Env → Dr → SO := fun ρ S => match ρ[i]? with
  | some (some o) => match frzO o with
    | some d => g (ρ.set i (some (.v d))) S
    | none => .stk
  | _ => .stk
theorem R.frz (r : R B bs Hf ρ S σ H) {i : Nat} {o : O} {d : Dn.D} (h : ρ[i]? = some (some o)) (q : frzO o = some d) : ∃ Hf', R B bs Hf' (ρ.set i (some (.v d))) S σ H := by
  have hi : i < ρ.length := (List.getElem?_eq_some_iff.mp h).1
  have key : ∀ (p : Addr) (u : HO), σ[i]? = some (some (V.ref p)) → H p = some u → Hf p = none → bs.2 p = none → o.own = true → Rep B.K B.dr (upd Hf p u) (.ref p) d → ∃ Hf', R B bs Hf' (ρ.set i (some (.v d))) S σ H := fun p u es hp hf hb wo rp => by
    have xx : Ex Hf (upd Hf p u) := Ex.new hf
    obtain ⟨n1, n2⟩ := r.ne0 p hb
    refine ⟨upd Hf p u, ⟨fun q v hq => ?_, r.exb.trans xx, fun q v hq => ?_, ⟨?_, ?_⟩, r.go, r.h0, ⟨r.drw.dr, xx _ _ r.drw.cl, r.drw.rs, r.drw.ne⟩, by rw [List.length_set]; exact r.len, fun j oj hj => ?_, fun j k oj ok c hj hk wj wk ej ek => ?_⟩⟩
    · by_cases e : q = p
      · subst e; rw [upd_same] at hq; rw [← hq]; exact hp
      · rw [upd_ne e] at hq; exact r.ex q v hq
    · by_cases e : q = p
      · subst e; exact .inr hb
      · rw [upd_ne e] at hq; exact r.fr q v hq
    · rw [upd_ne (Ne.symm n1)]; exact r.nd.1
    · rw [upd_ne (Ne.symm n2)]; exact r.nd.2
    · rcases set_some hj with ⟨rfl, e2, _⟩ | ⟨ne, hj⟩
      · cases e2
        exact ⟨_, es, rp⟩
      · obtain ⟨v, e2, z⟩ := r.sl j oj hj
        refine ⟨v, e2, ?_⟩
        have oth : ∀ c, oj.own = true → v = .ref c → c ≠ p := fun c wj hv qq => by
          subst hv
          subst qq
          exact ne (r.inj j i oj o c hj h wj wo e2 es)
        have nf : ∀ c, c ≠ p → Hf c = none → upd Hf p u c = none := fun c hc h0 => by rw [upd_ne hc]; exact h0
        cases oj with
        | v d => exact Rep.mono xx z
        | l ds => obtain ⟨c, vs, rfl, k1, k2, k3, k4⟩ := z; exact ⟨c, vs, rfl, k1, k2.mono xx, nf c (oth c rfl rfl) k3, k4⟩
        | d ds => obtain ⟨c, vs, rfl, k1, k2, k3, k4⟩ := z; exact ⟨c, vs, rfl, k1, k2.mono xx, nf c (oth c rfl rfl) k3, k4⟩
        | lt ds => obtain ⟨c, vs, rfl, k1, k2, k3, k4⟩ := z; exact ⟨c, vs, rfl, k1, k2, k3, k4.mono xx⟩
        | ld ds => obtain ⟨c, vs, rfl, k1, k2, k3, k4⟩ := z; exact ⟨c, vs, rfl, k1, k2, k3, k4.mono xx⟩
        | x C fs => obtain ⟨k1, k2, k3, k4, fv, k5, k6⟩ := z; exact ⟨k1, k2, k3, k4, fv, k5, k6.mono xx⟩
        | ob C fs => obtain ⟨rfl, dx, vs, k1, k2, k3, k4⟩ := z; exact ⟨rfl, dx, vs, k1, k2.mono xx, nf _ (oth _ rfl rfl) k3, k4⟩
    · rcases set_some hj with ⟨rfl, e1, _⟩ | ⟨nj, hj⟩
      · cases e1; cases wj
      · rcases set_some hk with ⟨rfl, e1, _⟩ | ⟨nk, hk⟩
        · cases e1; cases wk
        · exact r.inj j k oj ok c hj hk wj wk ej ek
  obtain ⟨v, es, s⟩ := r.sl i o h
  cases o with
  | l ds =>
    cases q
    obtain ⟨p, vs, rfl, h1, h2, h3, h4⟩ := s
    exact key p _ es h1 h3 h4 rfl (.lst upd_same (h2.mono (Ex.new h3)))
  | d ds =>
    cases q
    obtain ⟨p, vs, rfl, h1, h2, h3, h4⟩ := s
    exact key p _ es h1 h3 h4 rfl (.dct upd_same (h2.mono (Ex.new h3)))
  | v d =>
    cases q
    refine ⟨Hf, ?_⟩
    have e : ρ.set i (some (.v d)) = ρ := by
      apply List.ext_getElem?
      intro j
      rw [List.getElem?_set]
      split
      · rename_i e; subst e; first | exact h.symm | (rw [if_pos hi]; exact h.symm)
      · rfl
    rw [e]; exact r
  | _ => cases q
theorem js_frz (i : Nat) (h : JS X W B st g) : JS X W B st (sFrz i g) := .of fun bs σ H ρ S Hf D r q => by
  unfold sFrz at q
  split at q
  · rename_i o e
    cases q1 : frzO o with
    | none => rw [q1] at q; exact q.elim
    | some d =>
      rw [q1] at q
      obtain ⟨Hf', r'⟩ := r.frz e q1
      exact h.go bs σ H _ S Hf' D r' q
  · exact q.elim

/-! ### list(d), sorted(d), sorted(xs) -/
def O.kd : O → Option (List (Key × Dn.D))
  | .v (.dct k) => some k
  | .ld k => some k
  | _ => none
theorem ArR.kd (r : R B bs Hf ρ S σ H) {v : V} {o : O} {ds : List (Key × Dn.D)} (h : ArR B Hf H v o) (q : o.kd = some ds) : ∃ a vs, v = .ref a ∧ H a = some (.dK vs) ∧ RepK B.K B.dr Hf vs ds := by
  cases o with
  | v d =>
    cases d <;> simp [O.kd] at q
    subst q
    cases h with
    | dct h1 h2 => exact ⟨_, _, rfl, r.ex _ _ h1, h2⟩
  | ld ds => simp [O.kd] at q; subst q; obtain ⟨a, vs, h1, h2, _, _, h3⟩ := h; exact ⟨a, vs, h1, h2, h3⟩
  | _ => cases q
theorem repl_keys {K : PySem.W.Frag} {dr : Addr} {H : Hp} : ∀ ks : List Key, RepL K dr H (ks.map kV) (ks.map keyD)
  | [] => .nil
  | k :: r => .cons (rep_key k) (repl_keys r)
def gListK : List O → Option E
  | [o] => match o.kd with
    | some kvs => some (.n ((kvs.map (·.1)).map keyD))
    | none => none
  | _ => none
theorem cj_listK : CallJ B (fun xs H Q => ∃ (a : Addr) (kvs : List (Key × V)), xs = [.ref a] ∧ Rd H a (.dK kvs) ∧ ∀ p, H p = none → Q (.ref p) (upd H p (.lst (kvs.map fun kv => kV kv.1)))) gListK := fun bs σ H ρ S Hf vs os e Q r z q k => by
  unfold gListK at q
  split at q
  · obtain ⟨v, rfl, h⟩ := as1 z
    split at q
    · rename_i ds q1
      cases q
      obtain ⟨a, vs, rfl, h1, l⟩ := h.kd r q1
      refine ⟨a, vs, rfl, .inl h1, fun p hp => ?_⟩
      have e : (vs.map fun kv => kV kv.1) = (ds.map (·.1)).map kV := by rw [← l.keys, List.map_map]; rfl
      rw [e]
      exact VP.newL r k (repl_keys _) hp
    · cases q
  · cases q
def gListA (os : List O) : Option E := match gListOf os with
  | some e => some e
  | none => gListK os
def intsK : List Key → Option (List Int)
  | [] => some []
  | .inl i :: r => (intsK r).map (i :: ·)
  | _ :: _ => none
def srtI (l : List Int) : List Int := l.mergeSort fun a b => decide (a ≤ b)
theorem srtI_perm (l : List Int) : (srtI l).Perm l := List.mergeSort_perm l _
theorem srtI_sorted (l : List Int) : (srtI l).Pairwise (· ≤ ·) := (List.pairwise_mergeSort (le := fun a b : Int => decide (a ≤ b)) (fun a b c h1 h2 => by simp at *; omega) (fun a b => by simp; omega) l).imp fun h => by simpa using h
theorem srtI_eq {l ys : List Int} (h : ys.Perm l) (s : ys.Pairwise (· ≤ ·)) : ys = srtI l := List.Perm.eq_of_pairwise (fun a b _ _ h1 h2 => by omega) s (srtI_sorted l) (h.trans (srtI_perm l).symm)
theorem ints_vs {K : PySem.W.Frag} {dr : Addr} {H : Hp} : ∀ {ds : List Dn.D} {ns : List Int} {vs : List V}, intsD ds = some ns → RepL K dr H vs ds → vs = ns.map V.int
  | [], _, _, q, .nil => by simp [intsD] at q; subst q; rfl
  | .int i :: r, _, _, q, .cons h l => by
    simp [intsD] at q
    obtain ⟨ns, q, rfl⟩ := q
    cases h
    rw [ints_vs q l]; rfl
  | .non :: _, _, _, q, _ => by cases q
  | .bl _ :: _, _, _, q, _ => by cases q
  | .str _ :: _, _, _, q, _ => by cases q
  | .tup _ :: _, _, _, q, _ => by cases q
  | .lst _ :: _, _, _, q, _ => by cases q
  | .dct _ :: _, _, _, q, _ => by cases q
  | .obj _ _ :: _, _, _, q, _ => by cases q
  | .ref _ :: _, _, _, q, _ => by cases q
  | .ty _ :: _, _, _, q, _ => by cases q
  | .drw :: _, _, _, q, _ => by cases q
  | .scr _ :: _, _, _, q, _ => by cases q
theorem intsK_map : ∀ {ks : List Key} {ns : List Int}, intsK ks = some ns → ks = ns.map Sum.inl
  | [], _, q => by simp [intsK] at q; subst q; rfl
  | .inl i :: r, _, q => by
    simp [intsK] at q
    obtain ⟨ns, q, rfl⟩ := q
    rw [intsK_map q]; rfl
  | .inr _ :: _, _, q => by cases q
def gSortI : List O → Option E
  | [o] => match o.ls with
    | some ds => match intsD ds with
      | some ns => some (.n ((srtI ns).map D.int))
      | none => none
    | none => none
  | _ => none
theorem cj_sortI : CallJ B (rSortedI B.K) gSortI := fun bs σ H ρ S Hf vs os e Q r z q k => by
  unfold gSortI at q
  split at q
  · obtain ⟨v, rfl, h⟩ := as1 z
    split at q
    · rename_i ds q1
      split at q
      · rename_i ns q2
        cases q
        obtain ⟨a, vs, rfl, h1, l⟩ := h.ls r q1
        refine ⟨a, ns, rfl, SqL.of (by rw [← ints_vs q2 l]; exact h1), fun ns' p hp hs hn => ?_⟩
        rw [srtI_eq hp hs]
        exact VP.newL r k (RepL.ints _) hn
      · cases q
    · cases q
  · cases q
def gSortK : List O → Option E
  | [o] => match o.kd with
    | some kvs => match intsK (kvs.map (·.1)) with
      | some ns => if ns.length < 64 then some (.n ((srtI ns).map D.int)) else none
      | none => none
    | none => none
  | _ => none
theorem cj_sortK : CallJ B (fun xs H Q => ∃ (a : Addr) (kvs : List (Key × V)) (ks : List Int), xs = [.ref a] ∧ Rd H a (.dK kvs) ∧ kvs.map (·.1) = ks.map Sum.inl ∧ ks.length < 64 ∧
    ∀ (ys : List Int) (p : Addr), ys.Perm ks → ys.Pairwise (· ≤ ·) → H p = none → Q (.ref p) (upd H p (.lst (ys.map V.int)))) gSortK := fun bs σ H ρ S Hf vs os e Q r z q k => by
  unfold gSortK at q
  split at q
  · obtain ⟨v, rfl, h⟩ := as1 z
    split at q
    · rename_i ds q1
      split at q
      · rename_i ns q2
        split at q
        · rename_i hl
          cases q
          obtain ⟨a, vs, rfl, h1, l⟩ := h.kd r q1
          refine ⟨a, vs, ns, rfl, .inl h1, by rw [l.keys]; exact intsK_map q2, hl, fun ns' p hp hs hn => ?_⟩
          rw [srtI_eq hp hs]
          exact VP.newL r k (RepL.ints _) hn
        · cases q
      · cases q
    · cases q
  · cases q
def gSort (os : List O) : Option E := match gSortI os with
  | some e => some e
  | none => gSortK os
theorem je_sorted {p pos : Pos} (hK : X.K = B.K) (hc : X.calm = true) (hm : X.mg "sorted" = none) (ha : JA X W B (e :: es) fr) (hg : Gl X "sorted" := by rfl) (he : starEach (e :: es) X.env = (false, eval e X.env) :: starEach es X.env := by exact star_c rfl) (hpl : (backTo pos (starEach es X.env)).any (·.1) = false := by exact star_any rfl) :
    JE X W B (.Call (.Name "sorted" p) (e :: es) [] pos) (fCall gSort fr) := je_callB (CallR.or cr_sortedI (call_sortedDI hc)) (CallJ.or (hK ▸ cj_sortI) cj_sortK) hm ha hg (by decide +kernel) (by decide) (by decide) he hpl
end
end Dn

set_option Elab.async false
set_option linter.all false
set_option maxRecDepth 100000
set_option maxHeartbeats 4000000
namespace Dn
open PySem PySem.Spec PyProof.Rows L2

/-! ### dict comprehensions -/
/-- a comprehension's pairs, one by one -/
def dcD (tgt : Dn.D → Env → Option Env) (ft : Env → Dr → Out Bool) (fk fv : Env → Dr → Out E) (ρ : Env) : List Dn.D → List (Key × Dn.D) → Dr → Out (List (Key × Dn.D))
  | [], acc, S => .ok acc S
  | d :: ds, acc, S => match tgt d ρ with
    | none => .stk
    | some ρ1 => (ft ρ1 S).bind fun c S1 => if c = true then (fk ρ1 S1).bind fun y S2 => (fv ρ1 S2).bind fun e S3 => match y.key with
      | some k => match per e with
        | some x => if acc.length < sizeLine then dcD tgt ft fk fv ρ ds (dP acc k x) S3 else .stk
        | none => .stk
      | none => .stk
      else dcD tgt ft fk fv ρ ds acc S1
def fDc (fi : Env → Dr → Out (List Dn.D)) (tgt : Dn.D → Env → Option Env) (ft : Env → Dr → Out Bool) (fk fv : Env → Dr → Out E) (vs : List Nat) : Env → Dr → Out E := fun ρ S => (fi ρ S).bind fun ds S1 => (noExc (dcD tgt ft fk fv (wipeE ρ vs) ds [] S1)).bind fun xs S2 => .ok (.nd xs) S2

section
variable {X : Cx} {W : WX} {B : Bs} {bs : Hp × Hp} {Hs Hf H : Hp} {ρ : Env} {S : Dr} {σ : L2.St} {scope : Scope} {e c : Expr} {fk fv : Env → Dr → Out E} {fc : Env → Dr → Out Bool}
theorem dc_it {J : It} {n : Nat} {G : Hp → Prop} {Y : Nat → Hp → V → Hp → Prop} (w : Walk J n G Y) {g : TG} {tt : TT} {tk tv : TE} {vs : List Nat} {σ : L2.St} {H1 : Hp} {D : Addr} {Qd : Hp → Prop} (Pv : Nat → Hp → Prop) (h0 : Pv 0 (upd H1 D (.dK []))) (hG : ∀ i H, i ≤ n → Pv i H → G H)
    (hs : ∀ i x H H', i < n → Pv i H → Y i H x H' → g x (L2.wipe σ vs) H' fun σ2 H2 => L2.wipe σ2 vs = L2.wipe σ vs ∧ tt σ2 H2 fun b H3 =>
      if b = true then tk σ2 H3 fun y H4 => tv σ2 H4 fun z H5 => ∃ kvs k, y = kV k ∧ H5 D = some (.dK kvs) ∧ kvs.length < sizeLine ∧ Pv (i + 1) (upd H5 D (.dK (putK kvs k z))) else Pv (i + 1) H3) (hd : ∀ H, Pv n H → Qd H) :
    ∃ W : Nat → Nat → Hp → Prop, (∃ m, W 0 m (upd H1 D (.dK []))) ∧ ∀ i m H, W i m H →
      (J.stop i H ∧ Qd H) ∨ (J.go i H ∧ ∃ Nx : Hp → Prop, (∀ H', Nx H' → ∃ m', m' < m ∧ W (i + 1) m' H') ∧ ∀ x H', J.yld i H x H' → g x (L2.wipe σ vs) H' fun σ2 H2 => L2.wipe σ2 vs = L2.wipe σ vs ∧ tt σ2 H2 fun b H3 =>
        if b = true then tk σ2 H3 fun y H4 => tv σ2 H4 fun z H5 => ∃ kvs k, y = kV k ∧ H5 D = some (.dK kvs) ∧ kvs.length < sizeLine ∧ Nx (upd H5 D (.dK (putK kvs k z))) else Nx H3) := by
  refine ⟨fun i m H => m = n - i ∧ i ≤ n ∧ Pv i H, ⟨n, by simp, Nat.zero_le _, h0⟩, ?_⟩
  rintro i m H ⟨rfl, hi, p⟩
  have q := hG i H hi p
  by_cases hlt : i < n
  · refine .inr ⟨w.goes i H hlt q, Pv (i + 1), fun H' p' => ⟨n - (i + 1), by omega, rfl, hlt, p'⟩, fun x H' y => hs i x H H' hlt p (w.yields i H x H' hlt q y)⟩
  · have e : i = n := by omega
    subst e
    exact .inl ⟨w.stops H q, hd H p⟩
theorem dc_read {tg kx vx : Expr} {own : List (Str × Nat)} {fi : Env → Dr → Out (List Dn.D)} {tgt : Dn.D → Env → Option Env} {t : TG} {ix : List Nat} {wi : TI} {tt : TT}
    (qw : ∀ (bs : Hp × Hp) (σ : L2.St) (H : Hp) (ρ : Env) (S : Dr) (Hf : Hp) (P : It → Hp → Prop), R B bs Hf ρ S σ H → IPost B W bs true ρ σ Hf H (fi ρ S) P → wi σ H P)
    (qt : ∀ (bs : Hp × Hp) (σ : L2.St) (H : Hp) (ρ : Env) (S : Dr) (Hf : Hp) (Q : Bool → Hp → Prop), R B bs Hf ρ S σ H → EPost B W0 Hf σ H trel (fc ρ S) Q → tt σ H Q)
    (hg : ∀ (s : Shared) (H : Hp) (C : Addr) (cl : List (Str × Addr)) (fp : List Addr), JG (X.blk s H scope (compEnvC scope cl C X.env) fp) B tg t ix tgt) (hk : JEB X scope B kx fk) (he : JEB X scope B vx fv) (hix : ∀ i ∈ ix, i ∈ own.map (·.2))
    {Q : VK} (r : R B bs Hf ρ S σ H) (h : EPost B W Hf σ H (erel B) (fDc fi tgt fc fk fv (own.map (·.2)) ρ S) Q) : tDc wi t tt (tWB X scope kx) (tWB X scope vx) (own.map (·.2)) σ H Q := by
  refine qw bs σ H ρ S Hf _ r ?_
  unfold fDc at h
  cases q : fi ρ S with
  | stk => rw [q] at h; exact h
  | exc C fs S1 => rw [q] at h; exact h
  | ok ds S1 =>
    rw [q] at h
    intro J H1 Hf1 r1 n1 ⟨G, Y, w, hG, hY⟩ D hD
    have h : EPost B W Hf σ H (erel B) ((noExc (dcD tgt fc fk fv (wipeE ρ (own.map (·.2))) ds [] S1)).bind fun xs S2 => .ok (.nd xs) S2) Q := h
    cases ql : dcD tgt fc fk fv (wipeE ρ (own.map (·.2))) ds [] S1 with
    | stk => rw [ql] at h; exact h.elim
    | exc C fs S2 => rw [ql] at h; exact h.elim
    | ok all Sz =>
      rw [ql] at h
      have h : EPost B W Hf σ H (erel B) (.ok (.nd all) Sz) Q := h
      have D0 : bs.2 D = none := r1.free0 hD
      have Df1 : Hf1 D = none := r1.freeH hD
      obtain ⟨nd1, nd2⟩ := r1.dr_ne hD
      have nDo : ∀ (i : Nat) oi, (wipeE ρ (own.map (·.2)))[i]? = some (some oi) → oi.own = true → (L2.wipe σ (own.map (·.2)))[i]? ≠ some (some (V.ref D)) := fun i oi hi w e => by
        obtain ⟨a, u, e1, e2, _⟩ := (r1.wipe (own.map (·.2))).own_at hi w
        rw [e] at e1
        cases e1
        rw [hD] at e2
        cases e2
      generalize hρw : wipeE ρ (own.map (·.2)) = ρw at ql nDo
      have rw1 : R B bs Hf1 ρw S1 (L2.wipe σ (own.map (·.2))) H1 := hρw ▸ r1.wipe _
      refine dc_it w (fun i H => ∃ S Hf vs acc, R B bs Hf ρw S (L2.wipe σ (own.map (·.2))) H ∧ Nx B Hf1 H1 Hf H ∧ H D = some (.dK vs) ∧ RepK B.K B.dr Hf vs acc ∧ Hf D = none ∧ dcD tgt fc fk fv ρw (ds.drop i) acc S = .ok all Sz)
        ⟨S1, Hf1, [], [], rw1.updX Df1 D0 nDo, rw1.nx0.updX Df1 hD, upd_same, .nil, Df1, ql⟩ (fun i H _ ⟨S, Hf, vs, acc, r, n, _⟩ => hG Hf H ρw S _ r n.ex fun _ => n.go) (fun i x H H' hi ⟨S, Hf, vs, acc, r, n, eD, l, fD, el⟩ y => ?_) fun H ⟨S, Hf, vs, acc, r, n, eD, l, fD, el⟩ => ?_
      · obtain ⟨d, Hf', hd, n', dr', z⟩ := hY i Hf H ρw S _ x H' hi r n.ex (fun _ => n.go) y
        have e : ds.drop i = d :: ds.drop (i + 1) := by
          obtain ⟨hl, e⟩ := List.getElem?_eq_some_iff.mp hd
          rw [← e]; exact (List.getElem_cons_drop hl).symm
        rw [e] at el
        unfold dcD at el
        cases qg : tgt d ρw with
        | none => rw [qg] at el; cases el
        | some ρ1 =>
          rw [qg] at el
          dsimp only at el
          have keepD : ∀ {Ha Hb Hfa Hfb : Hp} {u}, Nx B Hfa Ha Hfb Hb → Ha D = some u → Hfa D = none → Hb D = some u ∧ Hfb D = none := fun {Ha Hb Hfa Hfb u} m e1 e2 => by
            refine ⟨m.go _ _ e1 nd1 nd2, ?_⟩
            cases q : Hfb D with
            | none => rfl
            | some v =>
              rcases m.fr _ _ q with z | z
              · rw [e2] at z; cases z
              · rw [e1] at z; cases z
          obtain ⟨eD', fD'⟩ := keepD n' eD fD
          refine (hg X.s_0 (fun _ => none) 0 [] []).2 bs (L2.wipe σ (own.map (·.2))) H' ρw S Hf' x d ρ1 _ (r.next n' dr') z qg ?_
          intro σ2 r2 l2 u2
          refine ⟨(wipe_eq l2 u2 hix).trans wipe_idem, ?_⟩
          refine qt bs σ2 H' ρ1 S Hf' _ r2 ?_
          cases qc : fc ρ1 S with
          | stk => rw [qc] at el; cases el
          | exc C fs S2 => rw [qc] at el; cases el
          | ok c S2 =>
            rw [qc] at el
            intro v2 Hf2 H2 n2 d2 z2
            have z2 : c = v2 := z2
            subst z2
            have r3 := r2.next n2 d2
            obtain ⟨eD2, fD2⟩ := keepD n2 eD' fD'
            cases c with
            | false =>
              have el : dcD tgt fc fk fv ρw (ds.drop (i + 1)) acc S2 = .ok all Sz := el
              have m := n'.trans n2
              exact ⟨S2, Hf2, vs, acc, r.next m d2, n.trans m, eD2, l.mono m.ex, fD2, el⟩
            | true =>
              have el : ((fk ρ1 S2).bind fun y S2 => (fv ρ1 S2).bind fun e S3 => match y.key with
                | some k => match per e with
                  | some x => if acc.length < sizeLine then dcD tgt fc fk fv ρw (ds.drop (i + 1)) (dP acc k x) S3 else Out.stk
                  | none => .stk
                | none => .stk) = .ok all Sz := el
              show tWB X scope kx σ2 H2 _
              intro s0 H0 C cl fp pins s I
              refine (hk s0 H0 C cl fp).go bs σ2 H2 ρ1 S2 Hf2 _ r3 ?_ pins s I
              cases qk : fk ρ1 S2 with
              | stk => rw [qk] at el; cases el
              | exc C fs S3 => rw [qk] at el; cases el
              | ok y1 S3 =>
                rw [qk] at el
                intro yv Hf3 H3 n3 d3 z3
                have r4 := r3.next n3 d3
                obtain ⟨eD3, fD3⟩ := keepD n3 eD2 fD2
                show tWB X scope vx σ2 H3 _
                intro s0 H0 C cl fp pins s I
                refine (he s0 H0 C cl fp).go bs σ2 H3 ρ1 S3 Hf3 _ r4 ?_ pins s I
                have el : ((fv ρ1 S3).bind fun e S3 => match y1.key with
                  | some k => match per e with
                    | some x => if acc.length < sizeLine then dcD tgt fc fk fv ρw (ds.drop (i + 1)) (dP acc k x) S3 else Out.stk
                    | none => .stk
                  | none => .stk) = .ok all Sz := el
                cases qe : fv ρ1 S3 with
                | stk => rw [qe] at el; cases el
                | exc C fs S3 => rw [qe] at el; cases el
                | ok e1 S4 =>
                  rw [qe] at el
                  intro v Hf4 H4 n4 d4 z4
                  have el : (match y1.key with
                    | some k => match per e1 with
                      | some x => if acc.length < sizeLine then dcD tgt fc fk fv ρw (ds.drop (i + 1)) (dP acc k x) S4 else Out.stk
                      | none => .stk
                    | none => .stk) = .ok all Sz := el
                  cases qy : y1.key with
                  | none => rw [qy] at el; cases el
                  | some k =>
                    rw [qy] at el
                    cases qp : per e1 with
                    | none => rw [qp] at el; cases el
                    | some xd =>
                      rw [qp] at el
                      obtain ⟨Hf5, n5, x5, d5, z5⟩ := per_ok (r4.next n4 d4) n4 z4 qp
                      have el : (if acc.length < sizeLine then dcD tgt fc fk fv ρw (ds.drop (i + 1)) (dP acc k xd) S4 else Out.stk) = .ok all Sz := el
                      by_cases hz : acc.length < sizeLine
                      · rw [if_pos hz] at el
                        obtain ⟨eD5, fD5⟩ := keepD n5 eD3 fD3
                        have m := n'.trans (n2.trans (n3.trans n5))
                        refine ⟨vs, k, z3.key qy, eD5, by rw [l.length]; exact hz, S4, Hf5, putK vs k v, dP acc k xd, (r.next m d5).updX fD5 D0 nDo, (n.trans m).updX fD5 hD, upd_same, (l.mono m.ex).put z5, fD5, el⟩
                      · rw [if_neg hz] at el; cases el
      · rw [List.drop_length] at el
        cases el
        have n2 := n1.trans n
        exact h _ Hf H n2 r.drw ⟨D, vs, rfl, eD, nd1, nd2, l, fD, n1.free r1.drw hD⟩
theorem je_dc {tg iter kx vx : Expr} {ifs : List Expr} {own : List (Str × Nat)} {pos : Pos} {fi : Env → Dr → Out (List Dn.D)} {tgt : Dn.D → Env → Option Env} {t : TG} {ix : List Nat} (hc : X.calm = true) (hN : X.N.Nodup) (hi : JI X W B true tg iter fi) (ok : BlkOk X.N X.env.scope scope own)
    (hg : ∀ (s : Shared) (H : Hp) (C : Addr) (cl : List (Str × Addr)) (fp : List Addr), JG (X.blk s H scope (compEnvC scope cl C X.env) fp) B tg t ix tgt) (ht : JTs X scope B ifs fc) (hk : JEB X scope B kx fk) (he : JEB X scope B vx fv) (hix : ∀ i ∈ ix, i ∈ own.map (·.2) := by decide)
    (hs : ∀ x, foldedSetIterable iter X.env x = pure x := by intro _; rfl) : JE X W B (.DictComp kx vx [⟨tg, iter, ifs, 0⟩] scope pos) (fDc fi tgt fc fk fv (own.map (·.2))) := by
  obtain ⟨wi, pw, qw⟩ := hi
  obtain ⟨tt, pt, qt⟩ := ht
  exact JE.mk (pe_dc (tk := tWB X scope kx) (tv := tWB X scope vx) hc hN pw ok (fun s H C cl fp => (hg s H C cl fp).1) pt (fun s0 H0 C cl fp => ⟨fun pins s σ H Q I q => q s0 H0 C cl fp pins s I⟩) (fun s0 H0 C cl fp => ⟨fun pins s σ H Q I q => q s0 H0 C cl fp pins s I⟩) hs) fun bs σ H ρ S Hf Q r h => dc_read qw qt hg hk he hix r h
end
end Dn

set_option Elab.async false
set_option linter.all false
set_option maxRecDepth 100000
set_option maxHeartbeats 4000000
namespace Dn
open PySem PySem.Spec PyProof.Rows L2

/-! ### a class's own text -/
/-- a def within a class -/
structure MeA (K : PySem.W.Frag) (name qual : Str) (st : Stmt) : Type where
  f : Addr
  fd : FuncData
  F : Fun K name qual st f fd
def MeA.mk' {K : PySem.W.Frag} {name qual : Str} {st : Stmt} {f : Addr} {oc kV doc pm cdv ct : Value} {od an : Option Addr} {osl : Array (Option Value)}
    (l : K.lookup f = some ⟨oc, od, .func (PySem.W.fnOf name qual (defArgs st) (defBody st) (defScope st) .none kV doc pm an cdv ct), osl⟩)
    (c : PySem.W.codeIn K cdv qual = true) (k : PySem.W.keepIn K (.ref f) = true) : MeA K name qual st := ⟨f, _, fun_mk l c k⟩
theorem MeA.binds {K : PySem.W.Frag} {name qual : Str} {st : Stmt} {ps : List Str} (A : MeA K name qual st)
    (b : ∀ (kV doc pm : Value) (an : Option Addr) (cdv ct : Value) (us : List Value), us.length = ps.length → bindArgs (PySem.W.fnOf name qual (defArgs st) (defBody st) (defScope st) .none kV doc pm an cdv ct) ⟨us, []⟩ = pure (ps.zip us)) : Binds K A.fd ps [] := A.F.binds b
theorem kb_app {K : PySem.W.Frag} {x qual : Str} {st : Stmt} {f : Addr} {fd : FuncData} {ps ks : List Str} {n : Nat} (F : Fun K x qual st f fd)
    (h : ∀ (kV doc pm : Value) (an : Option Addr) (cdv ct : Value) (us ws : List Value), us.length = n → ws.length = ks.length → bindArgs (PySem.W.fnOf x qual (defArgs st) (defBody st) (defScope st) .none kV doc pm an cdv ct) ⟨us, ks.zip ws⟩ = pure (ps.zip (us ++ ws))) :
    KBn K fd ps n ks (fun us ws => us ++ ws) (fun vs zs => vs ++ zs) := by
  obtain ⟨oc, od, kV, doc, pm, an, cdv, ct, osl, rfl, lk, hcd⟩ := F.ex
  exact ⟨fun s us ws _ l1 l2 => .of_eq (h kV doc pm an cdv ct us ws l1 l2), fun r1 r2 => r1.append r2⟩
theorem kb_rev {K : PySem.W.Frag} {x qual : Str} {st : Stmt} {f : Addr} {fd : FuncData} {ps ks : List Str} {n : Nat} (F : Fun K x qual st f fd)
    (h : ∀ (kV doc pm : Value) (an : Option Addr) (cdv ct : Value) (us ws : List Value), us.length = n → ws.length = ks.length → bindArgs (PySem.W.fnOf x qual (defArgs st) (defBody st) (defScope st) .none kV doc pm an cdv ct) ⟨us, ks.zip ws⟩ = pure (ps.zip (us ++ ws.reverse))) :
    KBn K fd ps n ks (fun us ws => us ++ ws.reverse) (fun vs zs => vs ++ zs.reverse) := by
  obtain ⟨oc, od, kV, doc, pm, an, cdv, ct, osl, rfl, lk, hcd⟩ := F.ex
  exact ⟨fun s us ws _ l1 l2 => .of_eq (h kV doc pm an cdv ct us ws l1 l2), fun r1 r2 => r1.append r2.reverse⟩
theorem as_reverse {B : Bs} {Hf H : Hp} : ∀ {vs : List V} {os : List O}, AsR B Hf H vs os → AsR B Hf H vs.reverse os.reverse
  | _, _, .nil => .nil
  | _, _, .cons h t => by
    rw [List.reverse_cons, List.reverse_cons]
    exact as_append (as_reverse t) (.cons h .nil)
theorem gvo_rev {n m : Nat} : GvO n m (n + m + 1) (fun vs zs => vs ++ zs.reverse) (fun os ks => os ++ ks.reverse) := fun B Hf H v vs zs os ks h1 h2 l1 l2 => ⟨vs ++ zs.reverse, rfl, as_append h1 (as_reverse h2), by rw [List.length_append, List.length_reverse, l1, l2]⟩
/-- tables by one address, by two -/
abbrev tab1 {α : Type} (C0 : Addr) (F0 : α) : Addr → Option α := fun C => if C = C0 then some F0 else none
abbrev tab2 {α : Type} (C0 : Addr) (F0 : α) (C1 : Addr) (F1 : α) : Addr → Option α := fun C => if C = C0 then some F0 else if C = C1 then some F1 else none
theorem tab1_at {α : Type} {C0 : Addr} {F0 : α} : tab1 C0 F0 C0 = some F0 := if_pos rfl
theorem tab1_ok {α : Type} {C0 : Addr} {F0 : α} {P : Addr → α → Prop} (h : P C0 F0) : ∀ C F, tab1 C0 F0 C = some F → P C F := fun C F e => by
  unfold tab1 at e
  split at e
  · rename_i q; subst q; cases e; exact h
  · cases e
theorem tab2_at {α : Type} {C0 C1 : Addr} {F0 F1 : α} : tab2 C0 F0 C1 F1 C0 = some F0 := if_pos rfl
theorem tab2_ok {α : Type} {C0 C1 : Addr} {F0 F1 : α} {P : Addr → α → Prop} (h : P C0 F0) (h1 : P C1 F1) : ∀ C F, tab2 C0 F0 C1 F1 C = some F → P C F := fun C F e => by
  unfold tab2 at e
  split at e
  · rename_i q; subst q; cases e; exact h
  · split at e
    · rename_i q; subst q; cases e; exact h1
    · cases e
abbrev is1 (C0 : Addr) : Addr → Bool := fun C => decide (C = C0)
theorem is1_ok {C0 : Addr} {P : Addr → Prop} (h : P C0) : ∀ C, is1 C0 C = true → P C := fun C e => by
  have e : C = C0 := by simpa [is1] using e
  subst e; exact h
@[simp] theorem is1_at {C0 : Addr} : is1 C0 C0 = true := by simp [is1]

/-! ### dicts in the calculus -/
section
variable {ds : List Dn.D} {kvs : List (Key × Dn.D)} {y x : E}
theorem gIxK_t : gIxK (.v (.tup ds)) y = none := by unfold gIxK; simp [E.kd]
@[simp] theorem gIxA_t : gIxA (.v (.tup ds)) y = gIx (.v (.tup ds)) y := by unfold gIxA gIxK; simp only [E.kd]; cases gIx (.v (.tup ds)) y <;> rfl
@[simp] theorem gIxA_l : gIxA (.v (.lst ds)) y = gIx (.v (.lst ds)) y := by unfold gIxA gIxK; simp only [E.kd]; cases gIx (.v (.lst ds)) y <;> rfl
@[simp] theorem gIxA_b : gIxA (.b ds) y = gIx (.b ds) y := by unfold gIxA gIxK; simp only [E.kd]; cases gIx (.b ds) y <;> rfl
@[simp] theorem gIxA_n : gIxA (.n ds) y = gIx (.n ds) y := by unfold gIxA gIxK; simp only [E.kd]; cases gIx (.n ds) y <;> rfl
@[simp] theorem gIxA_d {i : Int} : gIxA (.v (.dct kvs)) (.v (.int i)) = (dV kvs (.inl i)).map .v := by unfold gIxA gIxK gIx; simp [E.kd, E.key, E.ls]
@[simp] theorem gIxA_bd {i : Int} : gIxA (.bd kvs) (.v (.int i)) = (dV kvs (.inl i)).map .v := by unfold gIxA gIxK gIx; simp [E.kd, E.key, E.ls]
@[simp] theorem gInD_d {neg : Bool} {i : Int} : gInD neg (.v (.int i)) (.v (.dct kvs)) = some (.v (.bl (if neg then !(dV kvs (.inl i)).isSome else (dV kvs (.inl i)).isSome))) := by
  have h1 : gInA neg (.v (.int i)) (.v (.dct kvs)) = none := by unfold gInA gInL gInSg; simp [E.py, toPy]
  unfold gInD; rw [h1]; unfold gInK; simp [E.kd, E.key]
@[simp] theorem dV_nil {k : Key} : dV [] k = none := rfl
end

/-! ### a text in a tuple of texts -/
def gInS (neg : Bool) : E → E → Option E := fun x y => match x, y with
  | .v (.str z), .v (.tup ds) => match strsD ds with
    | some cs => some (.v (.bl (if neg then !cs.any (fun w => w == z) else cs.any (fun w => w == z))))
    | none => none
  | _, _ => none
section
variable {X : Cx} {B : Bs}
theorem oj_inS {neg : Bool} : OpJ B (rIn B.K neg) (gInS neg) := fun bs σ H ρ S Hf Hs1 Hs2 x y e1 e2 e Q r h1 h2 q k => by
  unfold gInS at q
  split at q
  · rename_i z ds
    split at q
    · rename_i cs q1
      cases q
      cases h1.v_ok
      obtain ⟨a, vs, rfl, t, l⟩ := rep_tup r.ex h2.v_ok
      refine ⟨a, vs, rfl, .inr t, rfl, ?_, ?_⟩
      · rw [strs_ok l q1]; simp [flatV]
      · have e : inV (.str z) vs = cs.any (fun w => w == z) := by rw [strs_ok l q1]; unfold inV; rw [List.any_map]; rfl
        rw [e]
        exact VP.now r k (Rep.bl _)
    · cases q
  · cases q
theorem op_inSq (hK : X.K = B.K) : OpR X (compareOp .In) (rIn B.K false) := hK ▸ op_in_seq
theorem op_notInSq (hK : X.K = B.K) : OpR X (compareOp .NotIn) (rIn B.K true) := hK ▸ op_notIn_seq
end
end Dn

set_option Elab.async false
set_option linter.all false
set_option maxRecDepth 100000
set_option maxHeartbeats 4000000
namespace Dn
open PySem PySem.Spec PyProof.Rows L2

/-! ### the calculus for dicts and objects -/
section
variable {P : E → Dr → Prop} {X : PX} {K : Kt} {ρ : Env} {S : Dr} {fa fb fo fk fv : Env → Dr → Out E} {fr fks : Env → Dr → Out (List O)} {g : Env → Dr → SO}
@[simp] theorem w_stk {α : Type} {P : α → Dr → Prop} : (Out.stk : Out α).w P X = False := rfl
@[simp] theorem w_fld {ok : Addr → Bool} {f : Str} : (fFld ok f fo ρ S).w P X = (fo ρ S).w (fun x S1 => ∃ C fs d, x = .v (.obj C fs) ∧ ok C = true ∧ fs.lookup f = some d ∧ P (.v d) S1) X := by
  unfold fFld
  rw [w_bind]
  congr 1
  funext x S1
  apply propext
  constructor
  · intro h
    split at h
    · rename_i C fs
      split at h
      · rename_i hok
        split at h
        · rename_i d q; exact ⟨C, fs, d, rfl, hok, q, h⟩
        · exact h.elim
      · exact h.elim
    · exact h.elim
  · rintro ⟨C, fs, d, rfl, h1, h2, h3⟩
    simp only [h1, h2, if_true]
    exact h3
@[simp] theorem w_meth {tab : MTab} {m : Str} {n : Nat} : (fMeth tab m n fo fr ρ S).w P X = (fo ρ S).w (fun x S1 => ∃ C fs F, x = .v (.obj C fs) ∧ tab C = some F ∧ fs.lookup m = none ∧ (fr ρ S1).w (fun os S2 => os.length + 1 = n ∧ (F (.v (.obj C fs) :: os) S2).w P X) X) X := by
  unfold fMeth
  rw [w_bind]
  congr 1
  funext x S1
  apply propext
  constructor
  · intro h
    split at h
    · rename_i C fs
      split at h
      · rename_i F q
        split at h
        · rename_i hl
          refine ⟨C, fs, F, rfl, q, hl, ?_⟩
          rw [w_bind] at h
          refine h.imp fun os S2 z => ?_
          split at z
          · rename_i hn; exact ⟨hn, z⟩
          · exact z.elim
        · exact h.elim
      · exact h.elim
    · exact h.elim
  · rintro ⟨C, fs, F, rfl, h1, h2, h3⟩
    simp only [h1, h2, if_true]
    rw [w_bind]
    refine h3.imp fun os S2 z => ?_
    rw [if_pos z.1]
    exact z.2
theorem w_noExc {α : Type} {o : Out α} {P : α → Dr → Prop} : (noExc o).w P X = o.w P noX' := by cases o <;> rfl
@[simp] theorem w_prop {tab : MTab} : (fProp tab fo ρ S).w P X = (fo ρ S).w (fun x S1 => ∃ C fs F, x = .v (.obj C fs) ∧ tab C = some F ∧ (F [.v (.obj C fs)] S1).w P noX') X := by
  unfold fProp
  rw [w_bind]
  congr 1
  funext x S1
  apply propext
  constructor
  · intro h
    split at h
    · rename_i C fs
      split at h
      · rename_i F q
        rw [w_noExc] at h
        exact ⟨C, fs, F, rfl, q, h⟩
      · exact h.elim
    · exact h.elim
  · rintro ⟨C, fs, F, rfl, h1, h2⟩
    simp only [h1]
    rw [w_noExc]
    exact h2
@[simp] theorem w_makeK {C : Addr} {n m : Nat} {F : Addr → List (Str × Dn.D) → List O → Dr → Out (List (Str × Dn.D))} {gO : List O → List O → List O} : (fMakeK C n m F gO fr fks ρ S).w P X = (fr ρ S).w (fun os S1 => (fks ρ S1).w (fun ks S2 => os.length = n ∧ ks.length = m ∧ (F C [] (gO os ks) S2).w (fun fs S3 => P (.v (.obj C fs)) S3) X) X) X := by
  unfold fMakeK
  rw [w_bind]
  congr 1
  funext os S1
  rw [w_bind]
  congr 1
  funext ks S2
  apply propext
  constructor
  · intro h
    split at h
    · rename_i hl
      rw [w_bind] at h
      exact ⟨hl.1, hl.2, h⟩
    · exact h.elim
  · rintro ⟨h1, h2, h3⟩
    rw [if_pos ⟨h1, h2⟩, w_bind]
    exact h3
theorem w_runI {N : Nat} {C : Addr} {fs : List (Str × Dn.D)} {os : List O} {P : List (Str × Dn.D) → Dr → Prop} (h : (g (startI N C fs os) S).w ⟨fun ρ S1 => ∃ fs' r, ρ = some (.ob C fs') :: r ∧ P fs' S1, fun _ _ => False, fun _ _ => False, fun _ _ => False, fun D fs _ S1 => X D fs S1⟩) : (runI N g C fs os S).w P X := by
  unfold runI
  cases q : g (startI N C fs os) S with
  | nx ρ S1 =>
    rw [q] at h
    obtain ⟨fs', r, rfl, h⟩ := h
    simpa using h
  | exc D fs ρ S1 => rw [q] at h; exact h
  | _ => rw [q] at h; exact h.elim
theorem w_callL {i n : Nat} {tab : MTab} {a : Addr} {F : List O → Dr → Out E} (h : ρ[i]? = some (some (.v (.ref a)))) (hF : tab a = some F) : (fCallL i tab n fr ρ S).w P X = (fr ρ S).w (fun os S1 => if os.length = n then (F os S1).w P X else False) X := by
  unfold fCallL
  rw [h]
  dsimp only
  rw [hF]
  dsimp only
  rw [w_bind]
  congr 1
  funext os S1
  split <;> rfl
@[simp] theorem w_get2 : (fGet2 fo fa fb ρ S).w P X = (fo ρ S).w (fun x S1 => ∃ kvs, x.kd = some kvs ∧ (fa ρ S1).w (fun y S2 => (fb ρ S2).w (fun z S3 => ∃ k, y.key = some k ∧ ∃ d, z = .v d ∧ P (.v ((dV kvs k).getD d)) S3) X) X) X := by
  unfold fGet2
  rw [w_bind]
  congr 1
  funext x S1
  apply propext
  constructor
  · intro h
    split at h
    · rename_i kvs q
      refine ⟨kvs, q, ?_⟩
      rw [w_bind] at h
      refine h.imp fun y S2 h => ?_
      rw [w_bind] at h
      refine h.imp fun z S3 h => ?_
      split at h
      · rename_i k qk
        split at h
        · rename_i d; exact ⟨k, qk, d, rfl, h⟩
        · exact h.elim
      · exact h.elim
    · exact h.elim
  · rintro ⟨kvs, q, h⟩
    simp only [q]
    rw [w_bind]
    refine h.imp fun y S2 h => ?_
    rw [w_bind]
    refine h.imp fun z S3 h => ?_
    obtain ⟨k, qk, d, rfl, h⟩ := h
    simp only [qk]
    exact h
@[simp] theorem w_dict1 : (fDict1 fk fv ρ S).w P X = (fk ρ S).w (fun y S1 => (fv ρ S1).w (fun e S2 => ∃ k, y.key = some k ∧ ∃ d, per e = some d ∧ P (.nd [(k, d)]) S2) X) X := by
  unfold fDict1
  rw [w_bind]
  congr 1
  funext y S1
  rw [w_bind]
  congr 1
  funext e S2
  apply propext
  constructor
  · intro h
    split at h
    · rename_i k qk
      split at h
      · rename_i d qd; exact ⟨k, qk, d, qd, h⟩
      · exact h.elim
    · exact h.elim
  · rintro ⟨k, qk, d, qd, h⟩
    simp only [qk, qd]
    exact h
@[simp] theorem w_dc {fi : Env → Dr → Out (List Dn.D)} {tgt : Dn.D → Env → Option Env} {ft : Env → Dr → Out Bool} {vs : List Nat} : (fDc fi tgt ft fk fv vs ρ S).w P X = (fi ρ S).w (fun ds S1 => (dcD tgt ft fk fv (wipeE ρ vs) ds [] S1).w (fun xs S2 => P (.nd xs) S2) noX') X := by
  unfold fDc
  rw [w_bind]
  congr 1
  funext ds S1
  rw [w_bind, w_noExc]
  cases dcD tgt ft fk fv (wipeE ρ vs) ds [] S1 <;> rfl
theorem w_putK {i : Nat} {kvs : List (Key × Dn.D)} (h : ρ[i]? = some (some (.d kvs))) : (sPutK i fb fa ρ S).w K = (fa ρ S).w (fun e S1 => ∃ d, per e = some d ∧ (fb ρ S1).w (fun y S2 => ∃ k, y.key = some k ∧ kvs.length < sizeLine ∧ K.nx (ρ.set i (some (.d (dP kvs k d)))) S2) (fun C fs S1 => K.ex C fs ρ S1)) (fun C fs S1 => K.ex C fs ρ S1) := by
  unfold sPutK
  rw [h]
  dsimp only
  rw [w_so]
  congr 1
  funext e S1
  apply propext
  constructor
  · intro z
    split at z
    · rename_i d q
      refine ⟨d, q, ?_⟩
      rw [w_so] at z
      refine z.imp fun y S2 z => ?_
      split at z
      · rename_i k qk
        split at z
        · rename_i hl; exact ⟨k, qk, hl, z⟩
        · exact z.elim
      · exact z.elim
    · exact z.elim
  · rintro ⟨d, q, z⟩
    simp only [q]
    rw [w_so]
    refine z.imp fun y S2 z => ?_
    obtain ⟨k, qk, hl, z⟩ := z
    simp only [qk]
    rw [if_pos hl]
    exact z
theorem w_clr {i : Nat} {ds : List Dn.D} (h : ρ[i]? = some (some (.l ds))) : (sClr i ρ S).w K = K.nx (ρ.set i (some (.l []))) S := by
  unfold sClr
  rw [h]
  rfl
@[simp] theorem w_parO {i j : Nat} : (sParO i j fa fb ρ S).w K = (i < ρ.length ∧ j < ρ.length ∧ (fa ρ S).w (fun x S1 => (fb ρ S1).w (fun y S2 => ∃ o, stO x = some o ∧ ∃ u, stO y = some u ∧ K.nx ((ρ.set i (some o)).set j (some u)) S2) (fun C fs S1 => K.ex C fs ρ S1)) (fun C fs S1 => K.ex C fs ρ S1)) := by
  unfold sParO
  apply propext
  constructor
  · intro z
    split at z
    · rename_i hl
      refine ⟨hl.1, hl.2, ?_⟩
      rw [w_so] at z
      refine z.imp fun x S1 z => ?_
      rw [w_so] at z
      refine z.imp fun y S2 z => ?_
      split at z
      · rename_i o q
        split at z
        · rename_i u q2; exact ⟨o, q, u, q2, z⟩
        · exact z.elim
      · exact z.elim
    · exact z.elim
  · rintro ⟨h1, h2, z⟩
    rw [if_pos ⟨h1, h2⟩, w_so]
    refine z.imp fun x S1 z => ?_
    rw [w_so]
    refine z.imp fun y S2 z => ?_
    obtain ⟨o, q, u, q2, z⟩ := z
    simp only [q, q2]
    exact z
theorem w_frz {i : Nat} {o : O} {d : Dn.D} (h : ρ[i]? = some (some o)) (q : frzO o = some d) : (sFrz i g ρ S).w K = (g (ρ.set i (some (.v d))) S).w K := by
  unfold sFrz
  rw [h]
  dsimp only
  rw [q]
theorem w_fldI {ok : Addr → Bool} {f : Str} {C : Addr} {fs : List (Str × Dn.D)} {r : Env} (hok : ok C = true) (hl : fs.length < 1000) : (sFldI ok f fa (some (.ob C fs) :: r) S).w K = (fa (some (.ob C fs) :: r) S).w (fun e S1 => ∃ d, per e = some d ∧ K.nx (some (.ob C (putG f d fs)) :: r) S1) (fun D hs S1 => K.ex D hs (some (.ob C fs) :: r) S1) := by
  unfold sFldI
  rw [w_so]
  congr 1
  funext e S1
  apply propext
  constructor
  · intro z
    split at z
    · exact z.elim
    · rename_i d q
      simp only [List.getElem?_cons_zero] at z
      rw [if_pos ⟨hok, hl⟩] at z
      exact ⟨d, q, z⟩
  · rintro ⟨d, q, z⟩
    simp only [q, List.getElem?_cons_zero]
    rw [if_pos ⟨hok, hl⟩]
    exact z
end

/-! ### what a dict comprehension gives -/
theorem dP_len (kvs : List (Key × Dn.D)) (k : Key) (d : Dn.D) : (dP kvs k d).length ≤ kvs.length + 1 := by
  unfold dP
  split <;> simp
theorem dc_fold {α : Type} {tgt : Dn.D → Env → Option Env} {fk fv : Env → Dr → Out E} {ρ : Env} {S : Dr} (gd : α → Dn.D) (ky : α → Key) (vl : α → Dn.D) : ∀ (l : List α) (acc : List (Key × Dn.D)), acc.length + l.length ≤ 16777216 →
    (∀ a ∈ l, ∃ ρ1, tgt (gd a) ρ = some ρ1 ∧ (fk ρ1 S).w (fun y S1 => y.key = some (ky a) ∧ S1 = S) noX' ∧ (fv ρ1 S).w (fun e S1 => per e = some (vl a) ∧ S1 = S) noX') →
    dcD tgt fYes fk fv ρ (l.map gd) acc S = .ok (l.foldl (fun acc a => dP acc (ky a) (vl a)) acc) S
  | [], acc, _, _ => rfl
  | a :: l, acc, hl, h => by
    obtain ⟨ρ1, e1, w1, w2⟩ := h a (by simp)
    have hl' : acc.length + l.length + 1 ≤ 16777216 := by simpa [Nat.add_assoc] using hl
    rw [List.map_cons, List.foldl_cons]
    unfold dcD
    rw [e1]
    dsimp only
    show (Out.ok true S).bind _ = _
    cases q1 : fk ρ1 S with
    | stk => rw [q1] at w1; exact w1.elim
    | exc C fs S1 => rw [q1] at w1; exact w1.elim
    | ok y S1 =>
      rw [q1] at w1
      obtain ⟨k1, k1'⟩ := w1
      rw [k1'] at q1
      cases q2 : fv ρ1 S with
      | stk => rw [q2] at w2; exact w2.elim
      | exc C fs S2 => rw [q2] at w2; exact w2.elim
      | ok e S2 =>
        rw [q2] at w2
        obtain ⟨k2, k2'⟩ := w2
        rw [k2'] at q2
        simp only [Out.bind, if_true, q1, q2, k1, k2]
        have hz : acc.length < sizeLine := by rw [szl]; omega
        rw [if_pos hz]
        refine dc_fold gd ky vl l _ (by have := dP_len acc (ky a) (vl a); omega) fun b m => h b (by simp [m])
end Dn

set_option Elab.async false
set_option linter.all false
set_option maxRecDepth 100000
set_option maxHeartbeats 4000000
namespace Dn
open PySem PySem.Spec PyProof.Rows L2

/-! ### a, b = a list -/
def tgLs (n : Nat) (gs : List Dn.D → Env → Option Env) : Dn.D → Env → Option Env := fun d ρ => match d with
  | .lst ds => if ds.length = n then gs ds ρ else none
  | _ => none
@[simp] theorem tgLs_l {n : Nat} {gs : List Dn.D → Env → Option Env} {ds : List Dn.D} {ρ : Env} : tgLs n gs (.lst ds) ρ = if ds.length = n then gs ds ρ else none := rfl
section
variable {X : Cx} {B : Bs} {es : List Expr} {pos : Pos} {ts : TGs} {ix : List Nat} {gs : List Dn.D → Env → Option Env}
theorem jg_lst {k n : Nat} (hK : X.K = B.K) (hc : X.calm = true) (h : JGs X B es ts ix gs) (hn : (assignEach es X.env).length = n := by rfl) (hst : (assignEach es X.env).findIdx? (·.1) = none := by rfl) :
    JG X B (.Tuple es k pos) (gLst B.K n ts) ix (tgLs n gs) := ⟨hK ▸ pg_lst hc h.1 hn hst, fun bs σ H ρ S Hf v d ρ' Q r z q k => by
  unfold tgLs at q
  split at q
  · split at q
    · rename_i hl
      cases z with
      | lst t l => exact ⟨_, _, rfl, SqL.of (r.ex _ _ t), by rw [l.length]; exact hl, h.2 bs σ H ρ S Hf _ _ ρ' Q r l q k⟩
    · cases q
  · cases q⟩
end
end Dn

set_option Elab.async false
set_option linter.all false
set_option maxRecDepth 100000
set_option maxHeartbeats 4000000
namespace PySem.W
open PySem PySem.Spec PySem.Calls PyProof.Rows
section
variable {prog : Program} {w : World} {A : Around} {E : Value → Shared → Prop} {s : Shared} {K : Frag} {x D : Addr} {ox : Obj} {od : Option Obj}
/-- as findObj_dataN, with a dict of its own -/
theorem dn_findData {C : Addr} {name : Str} {a g : Value} (hc : (clsIn K C).isSome = true) (ha : findIn K (.ref C) name = some (some a)) (hg : specialIn K a "__get__" = some (some g)) (ht : takesIn K a = some true) : findObj K C od name = some (.bind g a) := by
  obtain ⟨cd, hc⟩ := Option.isSome_iff_exists.mp hc
  unfold findObj
  rw [hc, Option.bind_some, ha, Option.bind_some]
  simp [hg, ht]
theorem dn_classE {Q : Option Value → Shared → Prop} (hga : findIn K (.ref D) "__getattribute__" = some (some (.builtin "BaseException.__getattribute__"))) (hgt : findIn K (.ref D) "__getattr__" = some none) (hsub : subIn K (.ref D) (.type "BaseException") = some true)
    (hdct : hasDictIn K D = true) (ha : findIn K (.ref D) "__class__" = some (some (.builtin "object.__class__")))
    (hn : specialIn K (.builtin "object.__class__") "__get__" = some (some (.builtin "getset_descriptor.__get__"))) (htk : takesIn K (.builtin "object.__class__") = some true) (hm : mroIn K D (.type "object") = some true)
    (X : K.In s.heap) (I : InstAt s.heap x ox D od) (h : Q (some (.ref D)) { s with toks := s.toks + 1 }) : wpAny (model prog w) A (getAttr? (.ref x) "__class__") Q E s := by
  have hf : findObj K D od "__class__" = some (.bind (.builtin "getset_descriptor.__get__") (.builtin "object.__class__")) := dn_findData (by obtain ⟨cd, hc, _⟩ := any_some hdct; rw [hc]; rfl) ha hn htk
  obtain ⟨hp, g, d, t, os⟩ := s
  have L0 := I.type (M := model prog w)
  have L1 := looks_findIn (M := model prog w) X hga
  have L2 := looks_findIn (M := model prog w) X hgt
  have L3 := looks_find (M := model prog w) X I hf
  have sub : Looks (model prog w) hp (isInstance (.ref x) (.type "BaseException")) true := L0.andThen (looks_subIn X hsub)
  have hx0 : (false && onTheHeap (Value.builtin "BaseException.__getattribute__")) = false := rfl
  have hx2 : (Value.builtin "BaseException.__getattribute__" == Value.builtin "object.__getattribute__") = false := by decide +kernel
  have hx1 : (onTheHeap (Value.ref D) && Value.builtin "BaseException.__getattribute__" == Value.builtin "object.__getattribute__") = false := by rw [hx2]; rfl
  unfold getAttr? getAttrBy? getAttrBy
  refine wpAny_bind (wpAny_mkText (wpAny_bind (wpAny_attempt (wpAny_holding (wpAny_bind (L0.at (wpAny_bind (L1.at ?_))))))))
  show wpAny _ _ (if (onTheHeap (Value.ref D) && Value.builtin "BaseException.__getattribute__" == Value.builtin "object.__getattribute__") = true then _ else _) _ _ _
  rw [hx1, if_neg Bool.false_ne_true]
  unfold getAttrByItsOwn hookBefore
  refine wpAny_bind ?_
  rw [if_pos (show onTheHeap (Value.ref D) = true from rfl)]
  refine L2.at ?_
  refine wpAny_bind (wpAny_attempt (wpAny_holding ?_))
  unfold callGetattribute
  rw [hx0, if_neg Bool.false_ne_true]
  unfold boundAndCalled
  rw [PySem.F.excAttr_ValueError.ga.bind (.ref x)]
  refine wpAny_bind (wpAny_pure ?_)
  show wpAny _ _ (call (.builtin "BaseException.__getattribute__") [.ref x, .str "__class__" t]) _ _ _
  refine wpAny_call (codeAny_call_builtin PySem.F.excAttr_ValueError.ga.plain PySem.F.entry_bexc_ga ?_)
  refine @check_slot (model prog w) _ _ ⟨hp, g, d, t + 1, os⟩ "BaseException.__getattribute__" "BaseException" "__getattribute__" (.ref x) [.str "__class__" t] [] _ (by decide +kernel) (by decide +kernel) sub (PySem.F.args_bexc_ga (.ref x) (.str "__class__" t)) ?_
  unfold Builtin.«object.__getattribute__»
  refine wpAny_bind (wpAny_of_eq (a := ((Value.ref x : Value), [Value.str "__class__" t])) (by first | rfl | (simp only [slotArgs]; rfl)) ?_)
  refine wpAny_bind (wpAny_pure (wpAny_bind (L0.at (wpAny_bind (L3.at ?_)))))
  show wpAny _ _ (holding [Value.builtin "object.__class__"] (call (.builtin "getset_descriptor.__get__") [.builtin "object.__class__", .ref x, .ref D]) >>= ret) _ _ _
  refine wpAny_bind (wpAny_holding (wpAny_call (class_get (s := ⟨hp, g, d, t + 1, os⟩) (ox := ox) (od := od) X I hm ?_)))
  refine wpAny_pure ?_
  show wpAny _ _ (handedOut (.ref D)) _ _ _
  rw [handedOut_of (v := .ref D) rfl]
  first
    | exact wpAny_pure (wpAny_pure h)
    | exact wpAny_pure h
    | exact wpAny_pure (wpAny_bind (wpAny_pure (wpAny_pure h)))
theorem dn_kitx (hga : findIn K (.ref D) "__getattribute__" = some (some (.builtin "BaseException.__getattribute__"))) (hgt : findIn K (.ref D) "__getattr__" = some none) (hsub : subIn K (.ref D) (.type "BaseException") = some true) (hdct : hasDictIn K D = true) (ha : findIn K (.ref D) "__class__" = some (some (.builtin "object.__class__")))
    (hn : specialIn K (.builtin "object.__class__") "__get__" = some (some (.builtin "getset_descriptor.__get__"))) (htk : takesIn K (.builtin "object.__class__") = some true) (hm : mroIn K D (.type "object") = some true) :
    KitX K (.ref x) (.ref D) (fun h => InstAt h x ox D od) where
  ty := fun _ _ _ I => I.type
  it := fun _ _ X _ => by
    obtain ⟨cdD, hcD, _⟩ := any_some hdct
    unfold clsIn at hcD
    split at hcD
    · rename_i c' d' cd' sl' ho
      intro A' Q' E' s' k q
      unfold isType loadHead
      exact wpAny_bind (wpAny_loadPart (k _ _ (X _ _ ho)) (wpAny_pure q))
    · cases hcD
  ne := (handS_kitx_exc (x := x) (ox := ox) hga hgt hsub hdct ha hn htk hm).ne
  ca := fun X I k => dn_classE hga hgt hsub hdct ha hn htk hm X I k
theorem kit_ref {C D : Addr} {b : Bool} (hdct : hasDictIn K D = true) (ht : typeIn K (.ref D) = some (.type "type")) (h4 : subIn K (.ref C) (.ref D) = some b) (hb : C = D → b = true) : kitOne K (.ref C) (.ref D) = some b := by
  unfold kitOne
  by_cases e : C = D
  · subst e
    rw [if_pos (by simp), hb rfl]
  · rw [if_neg (by simpa using e)]
    obtain ⟨cd, hc, _⟩ := any_some hdct
    show (if ((clsIn K D).isSome && typeIn K (.ref D) == some (.type "type")) = true then subIn K (.ref C) (.ref D) else none) = some b
    rw [if_pos (by rw [hc, ht] <;> rfl)]
    exact h4
end
end PySem.W

namespace Dn
open PySem PySem.Spec PyProof.Rows L2
/-! ### isinstance(e, C) in an except suite -/
theorem call_isX {X : Cx} {a D dd : Addr} {oe : Obj} {pn : List (Addr × Obj)} (C : ExcC X.K D) (hz : Zc (.ref D) (some dd) oe) (hf : ∃ vs, oe.data = .fields vs) :
    CallR (X.suite a ((a, oe) :: pn)) (.builtin "isinstance") (fun xs H Q => ∃ (c : V) (cv : Value) (b : Bool) (fs : List (Str × V)), xs = [.ref a, c] ∧ H dd = some (.xd fs) ∧ (∀ u, RelV c u → u = cv) ∧ PySem.W.kitOne X.K (.ref D) cv = some b ∧ Q (.bl b) H) := by
  intro pins s σ H xs us Q I r h
  obtain ⟨c, cv, b, fs, rfl, ea, hcv, e, q⟩ := h
  cases r with
  | cons rx rr =>
    cases rr with
    | cons rt rr =>
      cases rr
      cases rx
      have ec := hcv _ rt
      subst ec
      obtain ⟨hget, _⟩ := I.pin (a, oe) (List.mem_append.mpr (.inl List.mem_cons_self))
      obtain ⟨vs, hd⟩ := hf
      have hx : ObjOk X.prog X.w H s.heap dd (.xd fs) := I.hok dd _ ea
      obtain ⟨mA, hns, hr⟩ := hx
      obtain ⟨od, ho, hl⟩ := lookIn_ns hns
      have J : PySem.W.InstAt s.heap a oe D (some od) := ⟨hget, hz.1, by unfold PySem.W.notCls; rw [hd] <;> rfl, by rw [hz.2]; exact ho⟩
      exact PySem.W.kia_one (PySem.W.dn_kitx C.hg C.hk C.hs C.hd C.ha C.hn C.ht C.hm) I.kIn J e (fun z => nomatch z) fun tk => ⟨.bl b, H, I.kept (t' := tk) fun _ _ z => z, rfl, q⟩
def fXis (i : Nat) (tab : Addr → Option Bool) : Env → Dr → Out E := fun ρ S => match ρ[i]? with
  | some (some (.x C _)) => match tab C with
    | some b => .ok (.v (.bl b)) S
    | none => .stk
  | _ => .stk
@[simp] theorem w_xis {i : Nat} {tab : Addr → Option Bool} {C : Addr} {fs : List (Str × Dn.D)} {b : Bool} {ρ : Env} {S : Dr} {P : E → Dr → Prop} {X : PX} (h : ρ[i]? = some (some (.x C fs))) (ht : tab C = some b) : (fXis i tab ρ S).w P X = P (.v (.bl b)) S := by
  unfold fXis
  rw [h]
  dsimp only
  rw [ht]
  rfl
section
variable {X : Cx} {B : Bs}
theorem je_xis (i : Nat) {a dd C : Addr} {oe : Obj} {pn : List (Addr × Obj)} {x cn : Str} {D : Addr} {p p1 p2 pos : Pos} {tab : Addr → Option Bool} (T : ∀ C b, tab C = some b → ExcC X.K C ∧ PySem.W.kitOne X.K (.ref C) (.ref D) = some b)
    (hm : X.mg "isinstance" = none) (hcn : X.mg cn = some (.ref D)) (hz : Zc (.ref C) (some dd) oe) (hf : ∃ vs, oe.data = .fields vs) (hN : X.N[i]? = some x := by rfl) (hv : Vis X.env.scope x := by first | exact Or.inl rfl | exact Or.inr (Or.inl rfl) | exact Or.inr (Or.inr rfl))
    (hd : (x == ("__debug__" : Str)) = false := by decide) (hcd : (x == ("__classdict__" : Str)) = false := by decide) (hd2 : (cn == ("__debug__" : Str)) = false := by decide) (hgi : Gl X "isinstance" := by rfl) (hg : Gl X cn := by rfl)
    (hs1 : starEach (.Name x p1 :: [.Name cn p2]) X.env = (false, eval (.Name x p1) X.env) :: starEach [.Name cn p2] X.env := by exact star_c rfl) (hs2 : starEach (.Name cn p2 :: []) X.env = (false, eval (.Name cn p2) X.env) :: starEach [] X.env := by exact star_c rfl) (hpl : (backTo pos (starEach [.Name cn p2] X.env)).any (·.1) = false := by exact star_any rfl) :
    JE (X.suite a ((a, oe) :: pn)) W0 (B.exc a dd C) (.Call (.Name "isinstance" p) [.Name x p1, .Name cn p2] [] pos) (fXis i tab) := by
  cases ht : tab C with
  | some b =>
    obtain ⟨T1, T2⟩ := T C b ht
    refine JE.mk (pe_callB (X := X.suite a ((a, oe) :: pn)) (call_isX T1 hz hf) hgi hm (by decide +kernel) (pa_cons (pe_var (X := X.suite a ((a, oe) :: pn)) (i := i) hN hv hd hcd) (pa_cons (pe_glob (X := X.suite a ((a, oe) :: pn)) (v := .ref D) hg hcn rfl hd2) pa_nil hs2) hs1) (by decide) (by decide) hs1 hpl) fun bs σ H ρ S Hf Q r h => ?_
    unfold fXis at h
    split at h
    · rename_i C' fs e
      obtain ⟨v, e2, rfl, rfl, n1, n2, fv, h1, l⟩ := r.sl i _ e
      rw [ht] at h
      exact ⟨_, e2, .ref D, .ref D, b, fv, rfl, r.go _ _ h1 n1 n2, fun u q => by cases q; rfl, T2, EPost.now r h (Rep.bl _)⟩
    · exact h.elim
  | none =>
    refine .of ?_
    intro bs σ H ρ S Hf Q r h
    unfold fXis at h
    split at h
    · rename_i C' fs e
      obtain ⟨v, e2, rfl, rfl, _⟩ := r.sl i _ e
      rw [ht] at h
      exact h.elim
    · exact h.elim
end
end Dn

set_option Elab.async false
set_option linter.all false
set_option maxRecDepth 100000
set_option maxHeartbeats 4000000
namespace Dn
open PySem PySem.Spec PyProof.Rows L2

/-! ### tables over several classes -/
def isL : List Addr → Addr → Bool
  | [] => fun _ => false
  | C0 :: r => fun C => decide (C = C0) || isL r C
def AllP (P : Addr → Prop) : List Addr → Prop
  | [] => True
  | C0 :: r => P C0 ∧ AllP P r
theorem isL_ok {P : Addr → Prop} : ∀ {Cs : List Addr}, AllP P Cs → ∀ C, isL Cs C = true → P C
  | [], _, _, e => by cases e
  | C0 :: r, h, C, e => by
    have e : (decide (C = C0) || isL r C) = true := e
    rw [Bool.or_eq_true] at e
    rcases e with e | e
    · have e : C = C0 := by simpa using e
      subst e; exact h.1
    · exact isL_ok h.2 C e
@[simp] theorem isL_nil {C : Addr} : isL [] C = false := rfl
@[simp] theorem isL_cons {C0 C : Addr} {r : List Addr} : isL (C0 :: r) C = (decide (C = C0) || isL r C) := rfl
def tabL {α : Type} : List (Addr × α) → Addr → Option α
  | [] => fun _ => none
  | (C0, F0) :: r => fun C => if C = C0 then some F0 else tabL r C
def AllT {α : Type} (P : Addr → α → Prop) : List (Addr × α) → Prop
  | [] => True
  | (C0, F0) :: r => P C0 F0 ∧ AllT P r
theorem tabL_ok {α : Type} {P : Addr → α → Prop} : ∀ {Cs : List (Addr × α)}, AllT P Cs → ∀ C F, tabL Cs C = some F → P C F
  | [], _, _, _, e => by cases e
  | (C0, F0) :: r, h, C, F, e => by
    by_cases q : C = C0
    · have e2 : F0 = F := Option.some.inj ((if_pos q).symm.trans e)
      rw [q, ← e2]; exact h.1
    · exact tabL_ok h.2 C F ((if_neg q).symm.trans e)
@[simp] theorem tabL_nil {α : Type} {C : Addr} : (tabL [] C : Option α) = none := rfl
@[simp] theorem tabL_cons {α : Type} {C0 C : Addr} {F0 : α} {r : List (Addr × α)} : tabL ((C0, F0) :: r) C = if C = C0 then some F0 else tabL r C := rfl
theorem tabL_at {α : Type} {C0 : Addr} {F0 : α} {r : List (Addr × α)} : tabL ((C0, F0) :: r) C0 = some F0 := if_pos rfl
end Dn

set_option Elab.async false
set_option linter.all false
set_option maxRecDepth 100000
set_option maxHeartbeats 4000000
/-! ### a def whose closure holds its class: super().__init__(..) -/
namespace Dn.Sup
open PySem
section
variable {M : Model} {A : Around} {E : Value → Shared → Prop} {s₀ s : Shared} {m cm : Str → Option Value} {env : PySem.Env} {cs : List (Str × Addr)}
theorem stL {n : Str} {v : Value} {Q : Unit → Shared → Prop} (x : InCallC s₀ env.locals m cs cm s) (hk : env.scope.kind = .function) (hl : env.kindOf n = some .local)
    (h : ∀ s', InCallC s₀ env.locals (fun y => if y = n then some v else m y) cs cm s' → Q () s') : wpAny M A (storeName env n v) Q E s := by
  refine wpAny_storeName_local hl x.toInCall.ns (fun h' hn' hs' => h _ ⟨⟨?_, hn', fun b o e => ?_, x.toInCall.fresh⟩, fun k c hc => ?_, x.apart, x.above⟩) (by rw [hk]; rfl)
  · obtain ⟨h₁, tk, rfl⟩ := x.toInCall.same
    exact ⟨h', _, rfl⟩
  · exact hs'.extBut b o (Nat.ne_of_lt (Nat.lt_of_lt_of_le (Heap.lt_size e) x.toInCall.fresh)) (x.toInCall.keep b o e)
  · exact (x.cell k c hc).sameBut hs' (Nat.ne_of_gt (x.above k c (mem_of_lookup hc)))
theorem stC {n : Str} {c : Addr} {v : Value} {Q : Unit → Shared → Prop} (x : InCallC s₀ env.locals m cs cm s) (hk : env.scope.kind = .function) (hl : env.kindOf n = some .cell)
    (hc0 : env.cells.lookup n = some c) (hc : cs.lookup n = some c)
    (h : ∀ s', InCallC s₀ env.locals m cs (fun y => if y = n then some v else cm y) s' → Q () s') : wpAny M A (storeName env n v) Q E s := by
  have hLc := x.above n c (mem_of_lookup hc)
  refine wpAny_storeName_cell hk hl hc0 (x.cell n c hc) fun h' hc' hs' => h _ ⟨⟨?_, x.toInCall.ns.sameBut hs' (Nat.ne_of_lt hLc), fun b o e => ?_, x.toInCall.fresh⟩, fun k c' hk' => ?_, x.apart, x.above⟩
  · obtain ⟨h₁, tk, rfl⟩ := x.toInCall.same
    exact ⟨h', _, rfl⟩
  · exact hs'.extBut b o (Nat.ne_of_lt (Nat.lt_trans (Nat.lt_of_lt_of_le (Heap.lt_size e) x.toInCall.fresh) hLc)) (x.toInCall.keep b o e)
  · by_cases hkn : k = n
    · subst hkn
      rw [hc] at hk'; cases hk'
      simpa using hc'
    · rw [if_neg hkn]
      exact (x.cell k c' hk').sameBut hs' fun e => hkn (name_of_addr x.apart (mem_of_lookup hk') (e ▸ mem_of_lookup hc))
theorem bindP (f : Str × Value → PUnit → Sem (ForInStep PUnit)) (hf : ∀ n v u, f (n, v) u = (do storeName env n v; pure (.yield ⟨⟩))) (hk : env.scope.kind = .function) :
    ∀ (binds : List (Str × Value)) (m cm : Str → Option Value) (s : Shared) (Q : PUnit → Shared → Prop), InCallC s₀ env.locals m cs cm s →
      (∀ x ∈ binds, env.kindOf x.1 = some .local ∨ (env.kindOf x.1 = some .cell ∧ ∃ c, env.cells.lookup x.1 = some c ∧ cs.lookup x.1 = some c)) →
      (∀ s', InCallC s₀ env.locals (bindL env.kindOf binds m) cs (bindC env.kindOf binds cm) s' → Q ⟨⟩ s') → wpAny M A (forIn binds ⟨⟩ f) Q E s
  | [], m, cm, s, Q, x, _, h => by rw [List.forIn_nil]; exact wpAny_pure (h s x)
  | (n, v) :: r, m, cm, s, Q, x, hkind, h => by
    rw [List.forIn_cons, hf]
    have hr : ∀ y ∈ r, env.kindOf y.1 = some .local ∨ (env.kindOf y.1 = some .cell ∧ ∃ c, env.cells.lookup y.1 = some c ∧ cs.lookup y.1 = some c) := fun y hy => hkind y (List.mem_cons_of_mem _ hy)
    rcases hkind (n, v) List.mem_cons_self with hl | ⟨hl, c, hc0, hc⟩
    · refine wpAny_bind (wpAny_bind (stL x hk hl fun s' x' => wpAny_pure (bindP f hf hk r _ _ s' Q x' hr fun s'' x'' => h s'' ?_)))
      unfold bindL bindC; rw [if_pos hl, if_pos hl]; exact x''
    · have hnl : ¬ env.kindOf n = some .local := by rw [hl]; decide
      refine wpAny_bind (wpAny_bind (stC x hk hl hc0 hc fun s' x' => wpAny_pure (bindP f hf hk r _ _ s' Q x' hr fun s'' x'' => h s'' ?_)))
      unfold bindL bindC; rw [if_neg hnl, if_neg hnl]; exact x''
end
theorem cells_app : ∀ (names : List (Str × NameKind)) (n : Nat) (acc : List (Str × Addr)), cellsFrom n names acc = cellsFrom n names [] ++ acc
  | [], _, acc => rfl
  | (name, kind) :: r, n, acc => by
    unfold cellsFrom
    split
    · rw [cells_app r (n + 1) ((name, n) :: acc), cells_app r (n + 1) [(name, n)], List.append_assoc]; rfl
    · exact cells_app r n acc
theorem lk_app {α : Type} {x : Str} {v : α} : ∀ {l1 l2 : List (Str × α)}, l1.lookup x = some v → (l1 ++ l2).lookup x = some v
  | (k, u) :: r, l2, h => by
    rw [List.cons_append, List.lookup_cons]
    rw [List.lookup_cons] at h
    cases e : x == k with
    | true => rw [e] at h; exact h
    | false => rw [e] at h; exact lk_app h
theorem lk_app2 {α : Type} {x : Str} {v : α} : ∀ {l1 l2 : List (Str × α)}, (l1 ++ l2).lookup x = some v → l1.lookup x = some v ∨ l2.lookup x = some v
  | [], l2, h => .inr h
  | (k, u) :: r, l2, h => by
    rw [List.cons_append, List.lookup_cons] at h
    rw [List.lookup_cons]
    cases e : x == k with
    | true => rw [e] at h; exact .inl h
    | false => rw [e] at h; exact lk_app2 h
theorem lk_app3 {α : Type} {x : Str} {v : α} : ∀ {l1 l2 : List (Str × α)}, l1.lookup x = none → l2.lookup x = some v → (l1 ++ l2).lookup x = some v
  | [], l2, _, h => h
  | (k, u) :: r, l2, h, h2 => by
    rw [List.cons_append, List.lookup_cons]
    rw [List.lookup_cons] at h
    cases e : x == k with
    | true => rw [e] at h; cases h
    | false => rw [e] at h; exact lk_app3 h h2
section
variable {M : Model} {A : Around} {E : Value → Shared → Prop} {s : Shared}
theorem newEnvS {scope : Scope} {globals : Addr} {cl : List (Str × Addr)} {binds : List (Str × Value)} {qual : Str} {func : Option Addr} {code : Value} {builtins : Addr} {Q : PySem.Env → Shared → Prop}
    (hk : scope.kind = .function)
    (hkind : ∀ x ∈ binds, scope.names.lookup x.1 = some .local ∨ (scope.names.lookup x.1 = some .cell ∧ ((cellsFrom (s.heap.objs.size + 1) scope.names []).lookup x.1).isSome = true))
    (hQ : ∀ env, env = newEnv scope s.heap.objs.size globals (cellsFrom (s.heap.objs.size + 1) scope.names cl) qual func code none builtins →
      ∀ s', InCallC s env.locals (bindL env.kindOf binds fun _ => none) (cellsFrom (s.heap.objs.size + 1) scope.names []) (bindC env.kindOf binds fun _ => none) s' → Q env s') :
    wpAny M A (newFunctionEnv scope globals cl binds qual func code none builtins) Q E s := by
  simp only [newFunctionEnv, Option.isSome_none, Bool.false_eq_true, if_false]
  refine wpAny_bind (wpAny_alloc ?_)
  refine wpAny_bind (wpAny_layCells _ (fun name kind cells => by cases hkc : kind == NameKind.cell <;> simp [hkc]) _ _ _ _ ?_)
  have ok := cellsFrom_ok scope.names (s.heap.push { cls := .type "frame", data := .dict #[] }) (s.heap.objs.size + 1) [] ⟨fun _ _ hm => (nomatch hm), List.Pairwise.nil⟩ (by rw [Heap.size_push]; exact Nat.le_refl _)
  rw [Heap.size_push] at ok
  rw [show ({ s with heap := s.heap.push { cls := .type "frame", data := .dict #[] } } : Shared).heap.objs.size = s.heap.objs.size + 1 from Heap.size_push ..]
  refine wpAny_bind (bindP (s₀ := s) (env := newEnv scope s.heap.objs.size globals (cellsFrom (s.heap.objs.size + 1) scope.names cl) qual func code none builtins) (cs := cellsFrom (s.heap.objs.size + 1) scope.names [])
    _ (fun _ _ _ => rfl) hk binds (fun _ => none) (fun _ => none) _ _
    ⟨⟨⟨_, _, rfl⟩, (Heap.Ns.new s.heap (.type "frame")).keeps (pushCells_keeps _ _), fun b o e => pushCells_keeps _ _ b o (Heap.get?_push_of_some _ e), Nat.le_refl _⟩,
      fun n c hc => (ok.empty n c (mem_of_lookup hc)).1, ok.apart, fun n c hm => (ok.empty n c hm).2⟩
    (fun x hx => (hkind x hx).imp id fun ⟨h1, h2⟩ => ?_) fun s' x => wpAny_pure (hQ _ rfl s' x))
  obtain ⟨c, hc⟩ := Option.isSome_iff_exists.mp h2
  refine ⟨h1, c, ?_, hc⟩
  show (cellsFrom (s.heap.objs.size + 1) scope.names cl).lookup x.1 = some c
  rw [cells_app]
  exact lk_app hc
end
end Dn.Sup
namespace Dn
open PySem PySem.Spec PyProof.Rows L2
structure FnScopeS (N P : List Str) (sc : Scope) : Prop where
  kind : sc.kind = .function
  co : sc.isCoroutine = false
  gen : sc.isGenerator = false
  nd : N.Nodup
  pre : N.take P.length = P
  par : ∀ x ∈ P, sc.names.lookup x = some .local ∨ sc.names.lookup x = some .cell
  free : ∀ y ∈ sc.names, y.2 = .free → y.1 = "__class__"
  sup : sc.names.lookup ("super" : Str) = some .globalImplicit
  cls : sc.names.lookup ("__class__" : Str) = some .free
abbrev envS (name : Str) (scope : Scope) (L a : Addr) (cd : Value) (cc : Addr) : PySem.Env := PySem.W.envX name scope L a cd (cellsFrom (L + 1) scope.names [("__class__", cc)])
def cxOfS (CX : CXT) (P : Program) (w : World) (K : PySem.W.Frag) (mg : Str → Option Value) (base : Heap) (N : List Str) (qual : Str) (scope : Scope) (f : Addr) (cd : Value) (cc : Addr) (A : Around) (outer : List PySem.Env) (s : Shared) (H : Hp) (E : XK) : Cx where
  prog := P
  w := w
  K := K
  mg := mg
  base := base
  A := A.deeper (envS qual scope s.heap.objs.size f cd cc)
  N := N
  s_0 := s
  H_0 := H
  env := envS qual scope s.heap.objs.size f cd cc
  outer := outer
  stack := envS qual scope s.heap.objs.size f cd cc :: outer
  ex := []
  calm := true
  fn := fun x => !(x == "__class__")
  pn := []
  xe := fun e s' => wpAny (model P w) (A.deeper (envS qual scope s.heap.objs.size f cd cc)) (leaving (envS qual scope s.heap.objs.size f cd cc) e) (fun _ s'' => CX outer H s E e s'') (fun e' s'' => CX outer H s E e' s'') s'
/-- the cell of the class -/
def CellC (K : PySem.W.Frag) (cc D : Addr) : Prop := ∃ o, K.lookup cc = some o ∧ o.data = .cell (some (.ref D))
theorem inv_startS {CX : CXT} {P : Program} {w : World} {K : PySem.W.Frag} {mg : Str → Option Value} {base : Heap} {N ps : List Str} {qual : Str} {scope : Scope} {f cc D : Addr} {cd : Value} {A : Around} {outer : List PySem.Env} {s s1 : Shared} {H : Hp} {E : XK} {us : List Value} {vs : List V}
    (S : FnScopeS N ps scope) (hC : CellC K cc D) (hd : A.handled = none) (e0 : Env0 P w K mg base A outer s H) (hl : vs.length = ps.length) (r : Vals vs us)
    (x : InCallC s s.heap.objs.size (bindL (envS qual scope s.heap.objs.size f cd cc).kindOf (ps.zip us) fun _ => none) (cellsFrom (s.heap.objs.size + 1) scope.names []) (bindC (envS qual scope s.heap.objs.size f cd cc).kindOf (ps.zip us) fun _ => none) s1) :
    Inv (cxOfS CX P w K mg base N qual scope f cd cc A outer s H E) [] (L2.start N vs) H s1 := by
  have hpl : ps.length ≤ N.length := by have := congrArg List.length S.pre; rw [List.length_take] at this; omega
  obtain ⟨h1, tk, rfl, hk⟩ := x.done
  have noA : ∀ b : Addr, b ∉ (cxOfS CX P w K mg base N qual scope f cd cc A outer s H E).ex := fun b z => absurd (show b ∈ ([] : List Addr) from z) (by simp)
  obtain ⟨oc, hoc, hod⟩ := hC
  have hb : base.get? cc = some oc := e0.mod.kin _ _ hoc
  obtain ⟨hs, hH⟩ := e0.bs cc oc hb
  have hcl : (envS qual scope s.heap.objs.size f cd cc).cells = cellsFrom (s.heap.objs.size + 1) scope.names [] ++ [(("__class__" : Str), cc)] := Sup.cells_app _ _ _
  have at_ : ∀ {y : Str} {c : Addr}, (envS qual scope s.heap.objs.size f cd cc).cells.lookup y = some c → (cellsFrom (s.heap.objs.size + 1) scope.names []).lookup y = some c ∨ (y = "__class__" ∧ c = cc) := fun {y c} h => by
    rw [hcl] at h
    rcases Sup.lk_app2 h with h | h
    · exact .inl h
    · right
      rw [List.lookup_cons] at h
      cases e : y == "__class__" with
      | true => rw [e] at h; exact ⟨beq_iff_eq.mp e, (Option.some.inj h).symm⟩
      | false => rw [e] at h; cases h
  have ccl : cc < s.heap.objs.size := Heap.lt_size hs
  refine ⟨⟨e0.mod, S.kind, rfl, rfl, Nat.le_refl _, fun y z c h1 h2 => ?_, fun y hy => ?_, fun y c hf h => ?_, fun _ => hd, Around.frames_deeper e0.frames, .inr ⟨rfl, rfl⟩, fun b z => absurd z (noA b), e0.bs, e0.bsz, fun b _ _ => noA b, fun b z => absurd z (noA b), e0.funs, e0.frf⟩,
    rfl, e0.bare, Un.kept hk, ⟨_, x.toInCall.ns, fun i y v h1 h2 h3 => ?_⟩, fun y c h => ?_, e0.hok.fresh (Nat.le_refl _), fun y c h => ?_, fun p hp => absurd (show p ∈ ([] : List (Addr × Obj)) from hp) (by simp), e0.hok.kept hk, ?_⟩
  · rcases at_ h1 with q1 | ⟨q1, q1'⟩
    · rcases at_ h2 with q2 | ⟨q2, q2'⟩
      · exact name_of_addr x.apart (PySem.mem_of_lookup q1) (PySem.mem_of_lookup q2)
      · rw [q2'] at q1
        exact absurd (Nat.lt_trans (x.above _ _ (PySem.mem_of_lookup q1)) ccl) (Nat.lt_irrefl _)
    · rcases at_ h2 with q2 | ⟨q2, q2'⟩
      · rw [q1'] at q2
        exact absurd (Nat.lt_trans (x.above _ _ (PySem.mem_of_lookup q2)) ccl) (Nat.lt_irrefl _)
      · rw [q1, q2]
  · have hy : scope.names.lookup y = some .cell ∨ scope.names.lookup y = some .free := hy
    show ∃ c, (envS qual scope s.heap.objs.size f cd cc).cells.lookup y = some c
    rw [hcl]
    rcases hy with hy | hy
    · obtain ⟨c, hc⟩ := cell_has (n := s.heap.objs.size + 1) hy
      exact ⟨c, Sup.lk_app hc⟩
    · have e := S.free _ (PySem.mem_of_lookup hy) rfl
      dsimp only at e
      subst e
      cases q : (cellsFrom (s.heap.objs.size + 1) scope.names []).lookup ("__class__" : Str) with
      | some c => exact ⟨c, Sup.lk_app q⟩
      | none => exact ⟨cc, Sup.lk_app3 q rfl⟩
  · rcases at_ h with h | ⟨rfl, rfl⟩
    · exact Nat.le_of_lt (x.above y c (PySem.mem_of_lookup h))
    · have hf : (!(("__class__" : Str) == ("__class__" : Str))) = true := hf
      rw [beq_self_eq_true] at hf
      cases hf
  · have hi : i < vs.length := by
      unfold L2.start at h2
      by_cases hi : i < vs.length
      · exact hi
      · rw [List.getElem?_append_right (by simpa using hi)] at h2
        rw [List.getElem?_replicate] at h2
        split at h2 <;> cases h2
    have ha : vs[i]? = some v := by
      unfold L2.start at h2
      rw [List.getElem?_append_left (by simpa using hi), List.getElem?_map] at h2
      cases e : vs[i]? with
      | none => rw [e] at h2; cases h2
      | some a => rw [e] at h2; cases h2; rfl
    obtain ⟨u, hu, rv⟩ := r.get ha
    have hp : ps[i]? = some y := by
      rw [← S.pre, List.getElem?_take_of_lt (by omega)]; exact h1
    have ndP : ps.Nodup := by rw [← S.pre]; exact S.nd.sublist (List.take_sublist _ _)
    refine ⟨u, rv, ?_⟩
    rcases S.par y (List.mem_of_getElem? hp) with k | k
    · exact .inl ⟨k, bindL_get ndP hp hu k⟩
    · obtain ⟨c, e⟩ := cell_has (n := s.heap.objs.size + 1) k
      refine .inr ⟨.inl k, c, ?_, ?_⟩
      · show (envS qual scope s.heap.objs.size f cd cc).cells.lookup y = some c
        rw [hcl]; exact Sup.lk_app e
      · have q := x.cell y c e
        rw [bindC_get ndP hp hu (by show scope.names.lookup y ≠ _; rw [k]; decide)] at q
        exact q
  · rcases at_ h with h | ⟨rfl, rfl⟩
    · exact ⟨_, x.cell y c h⟩
    · exact ⟨_, oc, hk _ _ hs, hod⟩
  · rcases at_ h with h | ⟨rfl, rfl⟩
    · exact e0.hok.fresh (Nat.le_of_lt (x.above y c (PySem.mem_of_lookup h)))
    · exact hH
  · unfold L2.start
    show _ = N.length
    rw [List.length_append, List.length_map, List.length_replicate]
    omega

/-! ### statements within a known activation -/
structure PSsA (X : Cx) (c : Code) (st : List Stmt) (t : TS) : Prop where
  run : ∀ (pins : List (Addr × Obj)) (s : Shared) (σ : L2.St) (H : Hp) (D : Ends), Inv X pins σ H s → t D σ H → PySem.wpAt (model X.prog X.w) X.A c (execs st X.env) (SP X pins D) X.xe s
structure PSA (X : Cx) (c : Code) (st : Stmt) (t : TS) : Prop where
  run : ∀ (pins : List (Addr × Obj)) (s : Shared) (σ : L2.St) (H : Hp) (D : Ends), Inv X pins σ H s → t D σ H → PySem.wpAt (model X.prog X.w) X.A c (exec st X.env) (SP X pins D) X.xe s
section
variable {X : Cx} {c : Code} {st : Stmt} {rest sts : List Stmt} {t u : TS}
theorem PSs.at (h : PSs X sts t) : PSsA X c sts t := ⟨fun pins s σ H D I q => PySem.wpAt_of_wpAny (h.run pins s σ H D I q)⟩
theorem PS.at (h : PS X st t) : PSA X c st t := ⟨fun pins s σ H D I q => PySem.wpAt_of_wpAny (h.run pins s σ H D I q)⟩
theorem pssA_cons (h1 : PSA X c st t) (h2 : PSsA X c rest u) : PSsA X c (st :: rest) (tSeq t u) := by
  refine ⟨fun pins s σ H D I h => ?_⟩
  refine PySem.ks_wpAt_execs_cons (PySem.ks_wpAt_mono (h1.run pins s σ H { D with nx := u D } I h) (fun f s1 q => ?_) fun _ _ x => x)
  cases f with
  | next =>
    obtain ⟨σ', H', I', q⟩ := q
    exact h2.run pins s1 σ' H' D I' q
  | ret v => exact q
  | brk => exact q
  | cont => exact q
end
theorem fn_ofS {CX : CXT} {P : Program} {w : World} {K : PySem.W.Frag} {mg : Str → Option Value} {base : Heap} {k : Nat} {f cc Dc : Addr} {name qual : Str} {params : Arguments} {body : List Stmt} {scope : Scope} {dV kV doc pm cdv ct oc : Value} {an od : Option Addr}
    {osl : Array (Option Value)} {N ps : List Str} {sp : Sp} (lk : K.lookup f = some ⟨oc, od, .func (PySem.W.fnX name qual params body scope [("__class__", cc)] dV kV doc pm an cdv ct), osl⟩) (hcd : PySem.W.codeIn K cdv qual = true) (S : FnScopeS N ps scope) (hC : CellC K cc Dc)
    (len : ∀ vs H Q E, sp vs H Q E → vs.length = ps.length)
    (hbody : ∀ (A : Around) (outer : List PySem.Env) (s : Shared) (H : Hp) (vs : List V) (Q : VK) (E : XK), Room k (A.deeper (envS qual scope s.heap.objs.size f cdv cc)) → sp vs H Q E →
      ∃ t, PSsA (cxOfS CX P w K mg base N qual scope f cdv cc A outer s H E) (.func body (envS qual scope s.heap.objs.size f cdv cc)) body t ∧ t { nx := fun _ H' => Q .non H', rt := Q } (L2.start N vs) H) :
    FnOk P w K mg base CX (k + 1) f (PySem.W.fnX name qual params body scope [("__class__", cc)] dV kV doc pm an cdv ct) ps sp := by
  refine ⟨len, fun A outer s H args us vs Q E hr e0 hb r hsp => ?_⟩
  have hl := len _ _ _ _ hsp
  have KX : K.In s.heap := e0.mod.kin.keeps fun b o e => (e0.bs b o e).1
  have lim : s.heap.NoLimit := e0.mod.nolimit.keeps fun b o e => (e0.bs b o e).1
  have hkind : ∀ y ∈ ps.zip us, scope.names.lookup y.1 = some .local ∨ (scope.names.lookup y.1 = some .cell ∧ ((cellsFrom (s.heap.objs.size + 1) scope.names []).lookup y.1).isSome = true) := fun ⟨n, v⟩ hy => by
    rcases S.par n (List.of_mem_zip hy).1 with q | q
    · exact .inl q
    · exact .inr ⟨q, PySem.W.cellsFrom_some _ _ _ (.inl q)⟩
  refine codeAny_call_function hr.depth (KX _ _ lk) rfl S.co S.gen rfl (PySem.W.codeRec_of KX hcd) (hb _ _ _ _ ?_)
  refine Sup.newEnvS S.kind hkind fun env he s1 x => ?_
  subst he
  refine ⟨lim.keeps x.toInCall.keep, PySem.ks_codeAny_funcAt ?_⟩
  obtain ⟨t, ht, hq⟩ := hbody A outer s H vs Q E (hr.deeper _) hsp
  have I : Inv (cxOfS CX P w K mg base N qual scope f cdv cc A outer s H E) [] (L2.start N vs) H s1 := inv_startS S hC hr.hd e0 hl r x
  refine PySem.ks_wpAt_mono (ht.run [] s1 (L2.start N vs) H _ I hq) (fun fl s' hs => ?_) fun e s' hs => hs
  have fin : ∀ {σ' : L2.St} {H' : Hp} {v : V} {u : Value}, Inv (cxOfS CX P w K mg base N qual scope f cdv cc A outer s H E) [] σ' H' s' → RelV v u → Q v H' → CE outer P w H s Q u s' :=
    fun {σ' H' v u} J rv q => ⟨v, H', J.os, J.bare, J.base, J.hok, rv, q⟩
  cases fl with
  | ret u =>
    obtain ⟨v, σ', H', J, rv, q⟩ := hs
    exact fin J rv q
  | next =>
    obtain ⟨σ', H', J, q⟩ := hs
    exact fin (v := V.non) (u := Value.none) J rfl q
  | brk =>
    obtain ⟨_, _, _, q⟩ := hs
    exact False.elim q
  | cont =>
    obtain ⟨_, _, _, q⟩ := hs
    exact False.elim q
end Dn

set_option Elab.async false
set_option linter.all false
set_option maxRecDepth 100000
set_option maxHeartbeats 4000000
namespace Dn
open PySem PySem.Spec PyProof.Rows L2 ClX

/-! ### super().__init__(..) -/
theorem wpAt_methKw {M : Model} {A : Around} {c : Code} {E : Value → Shared → Prop} {s : Shared} {env : PySem.Env} {o : Expr} {name : Str} {apos pos : Pos} {args : List Expr} {kws : List Keyword} {pl : Sem Bool} {Q : Value → Shared → Prop}
    (h : PySem.wpAt M A c (attributeBase o name env (eval o env)) (fun ov s₁ => wpAny M A (getMethod ov name pl) (fun fx s₂ => wpAny M A (callWith pos fx.1 fx.2 (backTo pos (starEach args env)) (backToKw pos (keywordEach kws env))) Q E s₂) E s₁) E s)
    (he : eval (.Call (.Attribute o name apos) args kws pos) env = (do
      let ov ← attributeBase o name env (eval o env)
      standAt apos.atName
      let (f, first) ← holding [ov] (getMethod ov name pl)
      callWith pos f first (backTo pos (starEach args env)) (backToKw pos (keywordEach kws env)))) :
    PySem.wpAt M A c (eval (.Call (.Attribute o name apos) args kws pos) env) Q E s := by
  rw [he]
  refine PySem.wpAt_bind (PySem.wpAt_mono h (fun ov s₁ h₁ => PySem.wpAt_of_wpAny (wpAny_bind (wpAny_standAt (wpAny_bind (wpAny_holding (wpAny_mono h₁ (fun fx s₂ h₂ => ?_) fun _ _ x => x)))))) fun _ _ x => x)
  exact h₂
/-- what super() asks of the def at f of the class at D: its code, its closure's cell; x0: the name of self -/
structure SupF (P : Program) (K : PySem.W.Frag) (mg : Str → Option Value) (f cc : Addr) (cd : Value) (D : Addr) (x0 : Str) : Prop where
  fn : ∃ o fd ar, K.lookup f = some o ∧ o.data = .func fd ∧ (fd.params.posonlyargs ++ fd.params.args).head? = some ar ∧ ar.arg = x0
  code : ∃ cda o vs file tf, cd = .ref cda ∧ K.lookup cda = some o ∧ o.data = .fields vs ∧ vs[2]? = some (.str file tf) ∧ ((P.main.file : Str) == file) = true
  cell : CellC K cc D
  cls : (PySem.W.clsIn K D).isSome = true
  sup : mg "super" = none
  top : (P.main.scope.names.lookup ("super" : Str)).isSome = false
  opq : PySem.W.nsIn K cStatics "thirdparty.any" = some none
/-- .. of an object's class C: behind D along its line stands f2 -/
structure SupC (K : PySem.W.Frag) (C D f2 : Addr) : Prop where
  sub : PySem.W.mroIn K C (.ref D) = some true
  hm : PySem.W.ks_superIn K C D "__init__" = some (some (.ref f2))
  ty : PySem.W.typeIn K (.ref f2) = some (.type "function")
  fi : PySem.W.fnIn K f2 = true
theorem boot_super : bootBuiltins "super" = some (.type "super") := by first | boot_by_name | rfl | kernel_rfl
section
variable {X : Cx} {pins : List (Addr × Obj)} {σ : L2.St} {H : Hp} {s : Shared}
theorem ld_name {E : Value → Shared → Prop} {i : Nat} {x : Str} {v : V} {Q : Value → Shared → Prop} (I : Inv X pins σ H s) (hN : X.N[i]? = some x) (hv : Vis X.env.scope x) (e : σ[i]? = some (some v)) (h : ∀ u, RelV v u → Q u s) (hcd : (x == ("__classdict__" : Str)) = false := by decide) : wpAny (model X.prog X.w) X.A (loadName X.env x) Q E s := by
  obtain ⟨m, hn, hl⟩ := I.loc
  obtain ⟨u, r, l⟩ := hl i x v hN e hv
  rcases l with ⟨hk, hm⟩ | ⟨hk, c, hc, hcell⟩
  · exact wpAny_loadName_local I.ok.kind hk hn hm (h u r)
  · rcases hk with hk | hk
    · exact wpAny_loadName_cell I.ok.kind hk hc hcell (h u r)
    · exact wpAny_loadName_free I.ok.kind hk hc hcell (h u r) hcd
/-- super(): a new object, pinned -/
theorem sup_node {body : List Stmt} {p0 p1 : Pos} {attr : Str} {whole : Sem Value} {f cc C D a dx : Addr} {cd : Value} {x0 : Str} {fs : List (Str × V)} {Q : Value → Shared → Prop} {E : Value → Shared → Prop}
    (F : SupF X.prog X.K X.mg f cc cd D x0) (hsub : PySem.W.mroIn X.K C (.ref D) = some true) (I : Inv X pins σ H s) (hN : X.N[0]? = some x0) (hv : Vis X.env.scope x0) (e : σ[(0 : Nat)]? = some (some (.ref a))) (ea : H a = some (.ins C dx fs))
    (hks : X.env.kindOf "super" = some .globalImplicit) (hkc : X.env.kindOf "__class__" = some .free) (hcell : X.env.cells.lookup ("__class__" : Str) = some cc) (hfu : X.env.func = some f) (hco : X.env.code = cd)
    (hat : (attr == ("__class__" : Str)) = false) (hx0 : (x0 == ("__classdict__" : Str)) = false)
    (h : ∀ so s', Inv X ((so, PySem.W.ks_superObj D a C) :: pins) σ H s' → Q (.ref so) s') :
    PySem.wpAt (model X.prog X.w) X.A (.func body X.env) (attributeBase (.Call (.Name "super" p0) [] [] p1) attr X.env whole) Q E s := by
  obtain ⟨o, fd, ar, l1, l2, l3, rfl⟩ := F.fn
  obtain ⟨cda, oc, vs, file, tf, rfl, c1, c2, c3, c4⟩ := F.code
  obtain ⟨ob, b1, b2⟩ := F.cell
  have KI := I.kIn
  obtain ⟨cdD, hcD⟩ := Option.isSome_iff_exists.mp F.cls
  obtain ⟨oD, hD1, hD2⟩ : ∃ oD, s.heap.get? D = some oD ∧ oD.data = .cls cdD := by
    unfold PySem.W.clsIn at hcD
    split at hcD
    · rename_i c d cd' sl ho
      cases hcD
      exact ⟨_, KI _ _ ho, rfl⟩
    · cases hcD
  obtain ⟨mA, O, _⟩ := ins_get I.hok ea
  have hob : s.heap.get? a = some (PySem.W.instObj C dx) := O.obj
  refine PySem.ks_wpAt_super_base (env := X.env) hks hkc hat hfu (KI _ _ l1) l2 l3 hco (KI _ _ c1) c2 c3 c4 F.top ?_
  obtain ⟨mb, h1, h2⟩ := I.mod.blt
  refine PySem.W.ks_loadName_global I.ok.kind hks (Calls.loadGlobal_builtin (by rw [I.ok.glob]; exact I.mod.glob.keeps I.bk) F.sup (by rw [I.ok.blt]; exact h1.keeps I.bk) ((h2 _ (by decide)).trans boot_super) ⟨rfl, ?_⟩)
  refine wpAny_loadName_free I.ok.kind hkc hcell ⟨_, KI _ _ b1, b2⟩ ?_
  refine ld_name I hN hv e (fun u ru => ?_) hx0
  obtain rfl : u = Value.ref a := ru
  refine PySem.ks_wpAny_isType_cls hD1 hD2 ⟨rfl, ?_⟩
  obtain ⟨hp, g, d, t, os⟩ := s
  refine PySem.ks_wpAny_call_super hD1 hD2 hob rfl (fun c z => by cases z) (PySem.W.looks_mroIn KI hsub) (fun h' e' k => ?_)
  exact h _ _ (pin_new I k (Nat.le_refl _) e' (fun v z => nomatch z))
/-- .. and its method -/
theorem sup_meth {C D a dx so f2 : Addr} {name : Str} {fs : List (Str × V)} {pl : Sem Bool} {Q : Value × List Value → Shared → Prop} {E : Value → Shared → Prop} (I : Inv X ((so, PySem.W.ks_superObj D a C) :: pins) σ H s) (ea : H a = some (.ins C dx fs))
    (ho : PySem.W.nsIn X.K cStatics "thirdparty.any" = some none) (hm : PySem.W.ks_superIn X.K C D name = some (some (.ref f2))) (ht : PySem.W.typeIn X.K (.ref f2) = some (.type "function")) (hn : (name == ("__class__" : Str)) = false)
    (h : ∀ q s', Inv X ((q, PySem.W.methodObj (.ref f2) (.ref a)) :: (so, PySem.W.ks_superObj D a C) :: pins) σ H s' → Q (.ref q, []) s') : wpAny (model X.prog X.w) X.A (getMethod (.ref so) name pl) Q E s := by
  have KI := I.kIn
  have hso := pin_at I
  cases hc : PySem.W.clsIn X.K C with
  | none => unfold PySem.W.ks_superIn at hm; rw [hc] at hm; cases hm
  | some cd =>
    unfold PySem.W.ks_superIn at hm
    rw [hc] at hm
    obtain ⟨of, hof, hofc⟩ : ∃ of, s.heap.get? f2 = some of ∧ of.cls = .type "function" := by
      have ht' : (X.K.lookup f2).map (·.cls) = some (.type "function") := ht
      cases z : X.K.lookup f2 with
      | none => rw [z] at ht'; cases ht'
      | some of => rw [z] at ht'; exact ⟨of, KI _ _ z, Option.some.inj ht'⟩
    have hxC : a ≠ C := by
      rintro rfl
      unfold PySem.W.clsIn at hc
      split at hc
      · rename_i c d cd' sl hl
        have hb := (I.bs _ _ (I.ok.mod.kin _ _ hl)).2
        rw [hb] at ea; cases ea
      · cases hc
    obtain ⟨hp, g, d, t, os⟩ := s
    refine PySem.ks_wpAny_getMethod_super hso (PySem.W.looks_opaque KI ho) (l₀ := cd.mro) ?_ rfl KI hm hof hofc hxC hn ?_
    · exact fun A Q E s k q => wpAny_bind ((PySem.W.looks_clsIn KI hc) A _ E s k (wpAny_pure q))
    · exact h _ _ (pin_new (o := PySem.W.methodObj (.ref f2) (.ref a)) I (fun b u e => Heap.get?_push_of_some _ e) (Nat.le_refl _) (Heap.get?_push_at rfl rfl) (fun v z => nomatch z))
end
def tSup (n m : Nat) (D : Addr) (K : PySem.W.Frag) (f2 : Addr) (sp : Sp) (gV : List V → List V → List V) (E : L2.St → XK) (t tk : TA) : TS := fun De σ H => ∃ a C dx fs, σ[(0 : Nat)]? = some (some (.ref a)) ∧ H a = some (.ins C dx fs) ∧ SupC K C D f2 ∧
  t σ H fun vs H1 => tk σ H1 fun zs H2 => vs.length = n ∧ zs.length = m ∧ sp (gV (.ref a :: vs) zs) H2 (fun _ H3 => De.nx σ H3) (E σ)
theorem psa_sup {X : Cx} {CX : CXT} {k n : Nat} {body : List Stmt} {f cc D f2 : Addr} {cd : Value} {x0 : Str} {fd : FuncData} {ps ks : List Str} {sp : Sp} {E : L2.St → XK} {p0 p1 pos apos pos' : Pos} {e : Expr} {es : List Expr} {kws : List Keyword} {t tk : TA} {g : List Value → List Value → List Value} {gV : List V → List V → List V} {pl : Sem Bool}
    (SF : SupF X.prog X.K X.mg f cc cd D x0) (F : FnOk X.prog X.w X.K X.mg X.base CX k f2 fd ps sp) (hr : Room k X.A) (hb : KBn X.K fd ps (n + 1) ks g gV) (hx : ∀ σ, PassesAt CX X σ (E σ)) (ha : PA X (e :: es) t) (hkw : PK X kws tk)
    (hN : X.N[0]? = some x0) (hv : Vis X.env.scope x0) (hx0 : (x0 == ("__classdict__" : Str)) = false) (hks : X.env.kindOf "super" = some .globalImplicit) (hkc : X.env.kindOf "__class__" = some .free) (hcell : X.env.cells.lookup ("__class__" : Str) = some cc) (hfu : X.env.func = some f) (hco : X.env.code = cd)
    (hall : (backToKw pos (keywordEach kws X.env)).all (·.1.isSome) = true) (hksn : (backToKw pos (keywordEach kws X.env)).filterMap (·.1) = ks)
    (he : starEach (e :: es) X.env = (false, eval e X.env) :: starEach es X.env) (hpl : ((backTo pos (starEach (e :: es) X.env)).any (·.1) || (backToKw pos (keywordEach kws X.env)).any (·.1.isNone)) = false)
    (ht : eval (.Call (.Attribute (.Call (.Name "super" p0) [] [] p1) "__init__" apos) (e :: es) kws pos) X.env = (do
      let ov ← attributeBase (.Call (.Name "super" p0) [] [] p1) "__init__" X.env (eval (.Call (.Name "super" p0) [] [] p1) X.env)
      standAt apos.atName
      let (f, first) ← holding [ov] (getMethod ov "__init__" pl)
      callWith pos f first (backTo pos (starEach (e :: es) X.env)) (backToKw pos (keywordEach kws X.env))))
    (hsw : swapsWith (.Call (.Attribute (.Call (.Name "super" p0) [] [] p1) "__init__" apos) (e :: es) kws pos) none pos'.line X.env = pure false) :
    PSA X (.func body X.env) (.Expr (.Call (.Attribute (.Call (.Name "super" p0) [] [] p1) "__init__" apos) (e :: es) kws pos) pos') (tSup n ks.length D X.K f2 sp gV E t tk) := by
  refine ⟨fun pins s σ H De I h => ?_⟩
  obtain ⟨a, C, dx, fs, es0, ea, sc, h⟩ := h
  refine PySem.ks_wpAt_Expr_any ?_ I.quiet hsw
  refine wpAt_methKw (pl := pl) ?_ ht
  refine sup_node SF sc.sub I hN hv es0 ea hks hkc hcell hfu hco (by decide) hx0 fun so s1 I1 => ?_
  refine sup_meth I1 ea SF.opq sc.hm sc.ty (by decide) fun q s2 I2 => ?_
  refine PySem.W.callWith_of (P := PySem.W.MethP X.K q f2 (.ref a)) hpl (PySem.W.keeps_M sc.fi) (evalArgs_kw2 hall (thn (ha.run pos _ s2 σ H _ I2 h) fun us s3 ⟨vs, H1, I3, r, q1⟩ => ?_) he)
  refine thn (hkw.run pos _ s3 σ H1 _ I3 q1) fun ws s4 ⟨zs, H2, I4, rz, l1, l2, q2⟩ => ⟨⟨pin_at I4, I4.kIn⟩, ?_⟩
  rw [hksn]
  have r1 : Vals (V.ref a :: vs) (Value.ref a :: us) := .cons rfl r
  have r2 := hb.rel r1 rz
  have n1 : (Value.ref a :: us).length = n + 1 := by
    rw [List.length_cons, ← r.length, l1]
  refine wpAny_call (PySem.W.method_call (pin_at I4) (codeAny_mono (F.run _ X.stack _ _ ⟨Value.ref a :: us, ks.zip ws⟩ (g (Value.ref a :: us) ws) _ _ (E σ) hr I4.env0 (hb.to _ (Value.ref a :: us) ws I4.kIn n1 (rz.length.symm.trans l2)) r2 q2) fun rr s' hq' => ?_))
  cases rr with
  | error e => exact hx σ _ _ _ e s' I4 hq'
  | ok fl =>
    cases fl with
    | ret u =>
      obtain ⟨v, H', I5, rv, q3⟩ := I4.after hq'
      exact ⟨σ, H', unpin (unpin I5), q3⟩
    | next => exact False.elim hq'
    | brk => exact False.elim hq'
    | cont => exact False.elim hq'

/-! ### judgements within a known activation -/
def tWSA (X : Cx) (c : Code) (st : Stmt) : TS := fun D σ H => ∀ (pins : List (Addr × Obj)) (s : Shared), Inv X pins σ H s → PySem.wpAt (model X.prog X.w) X.A c (exec st X.env) (SP X pins D) X.xe s
def tWSsA (X : Cx) (c : Code) (st : List Stmt) : TS := fun D σ H => ∀ (pins : List (Addr × Obj)) (s : Shared), Inv X pins σ H s → PySem.wpAt (model X.prog X.w) X.A c (execs st X.env) (SP X pins D) X.xe s
theorem psa_W {X : Cx} {c : Code} {st : Stmt} : PSA X c st (tWSA X c st) := ⟨fun pins s _ _ _ I h => h pins s I⟩
theorem pssa_W {X : Cx} {c : Code} {st : List Stmt} : PSsA X c st (tWSsA X c st) := ⟨fun pins s _ _ _ I h => h pins s I⟩
structure JSA (X : Cx) (W : WX) (B : Bs) (c : Code) (st : Stmt) (g : Env → Dr → SO) : Prop where
  of ::
  go : ∀ (bs : Hp × Hp) (σ : L2.St) (H : Hp) (ρ : Env) (S : Dr) (Hf : Hp) (D : Ends), R B bs Hf ρ S σ H → SPost B W bs D (g ρ S) → tWSA X c st D σ H
structure JBA (X : Cx) (W : WX) (B : Bs) (c : Code) (sts : List Stmt) (g : Env → Dr → SO) : Prop where
  of ::
  go : ∀ (bs : Hp × Hp) (σ : L2.St) (H : Hp) (ρ : Env) (S : Dr) (Hf : Hp) (D : Ends), R B bs Hf ρ S σ H → SPost B W bs D (g ρ S) → tWSsA X c sts D σ H
section
variable {X : Cx} {W : WX} {B : Bs} {bs : Hp × Hp} {Hs Hf Hf' H H' : Hp} {ρ : Env} {S S' : Dr} {σ : L2.St} {c : Code} {st : Stmt} {rest sts : List Stmt} {g g1 g2 : Env → Dr → SO} {D : Ends} {fr fk : Env → Dr → Out (List O)}
theorem JB.at (h : JB X W B sts g) : JBA X W B c sts g := .of fun bs σ H ρ S Hf D r q pins s I => PySem.wpAt_of_wpAny (h.go bs σ H ρ S Hf D r q pins s I)
theorem JS.at (h : JS X W B st g) : JSA X W B c st g := .of fun bs σ H ρ S Hf D r q pins s I => PySem.wpAt_of_wpAny (h.go bs σ H ρ S Hf D r q pins s I)
theorem jba_cons (h1 : JSA X W B c st g1) (h2 : JBA X W B c rest g2) : JBA X W B c (st :: rest) (sSeq g1 g2) := .of fun bs σ H ρ S Hf D r h => by
  refine fun pins s I => (pssA_cons (psa_W (c := c)) (pssa_W (c := c))).run pins s σ H D I ?_
  show tWSA X c st { D with nx := tWSsA X c rest D } σ H
  refine h1.go bs σ H ρ S Hf _ r ?_
  unfold sSeq at h
  cases q : g1 ρ S with
  | nx ρ1 S1 =>
    rw [q] at h
    exact fun σ1 Hf1 H1 r1 => h2.go bs σ1 H1 ρ1 S1 Hf1 D r1 h
  | rt e S1 => rw [q] at h; exact h
  | bk ρ1 S1 => rw [q] at h; exact h
  | ct ρ1 S1 => rw [q] at h; exact h
  | exc C fs ρ1 S1 => rw [q] at h; exact h
  | stk => rw [q] at h; exact h

/-- behind the base's __init__ -/
theorem R.sup {C dx : Addr} {fs fs' : List (Str × Dn.D)} {fv : List (Str × V)} (r : R B bs Hf ρ S σ H) (e : ρ[(0 : Nat)]? = some (some (.ob C fs))) (n : Nx B Hf (del H B.me) Hf' H') (d : DrR B Hf' S' H') (o' : Option O)
    (h1 : o' = none ∨ ∃ C', o' = some (.ob C' fs') ∧ H' B.me = some (.ins C' dx fv) ∧ RepF B.K B.dr Hf' fv fs' ∧ Hf' B.me = none) : R B bs Hf' (ρ.set 0 o') S' σ H' := by
  obtain ⟨v0, e0, rfl, dx0, fv0, k1, k2, k3, k4⟩ := r.sl 0 _ e
  have n1 : B.me ≠ B.dr := fun q => by rw [q] at k4; obtain ⟨⟨o, h⟩, _⟩ := r.h0; rw [h] at k4; cases k4
  have n2 : B.me ≠ B.rs := fun q => by rw [q] at k4; obtain ⟨_, ⟨o, h⟩⟩ := r.h0; rw [h] at k4; cases k4
  have go1 : ∀ b u, H b = some u → b ≠ B.me → b ≠ B.dr → b ≠ B.rs → H' b = some u := fun b u h m m1 m2 => n.go b u (by rw [del_ne m]; exact h) m1 m2
  have nf : ∀ {b u}, H b = some u → b ≠ B.me → Hf b = none → Hf' b = none := fun {b u} h m f => by
    cases q : Hf' b with
    | none => rfl
    | some w =>
      rcases n.fr b w q with z | z
      · rw [f] at z; cases z
      · rw [del_ne m, h] at z; cases z
  have b0 : ∀ b u, bs.2 b = some u → b ≠ B.me := fun b u h q => by rw [q, k4] at h; cases h
  have ne0 : ∀ a, bs.2 a = none → a ≠ B.dr ∧ a ≠ B.rs := fun a h => by
    obtain ⟨⟨o1, h1⟩, o2, h2⟩ := r.h0
    constructor
    · intro e; rw [e, h1] at h; cases h
    · intro e; rw [e, h2] at h; cases h
  refine ⟨n.exf, r.exb.trans n.ex, fun b o h => ?_, n.nd, fun b o h m1 m2 => go1 b o (r.go b o h m1 m2) (b0 b o h) m1 m2, r.h0, d, by rw [List.length_set]; exact r.len, fun j oj hj => ?_, fun j k oj ok b hj hk wj wk ej ek => ?_⟩
  · by_cases q : b = B.me
    · right; rw [q]; exact k4
    · rcases n.fr b o h with z | z
      · exact r.fr b o z
      · right
        rw [del_ne q] at z
        cases w : bs.2 b with
        | none => rfl
        | some u =>
          by_cases m1 : b = B.dr
          · rw [m1, n.nd.1] at h; cases h
          by_cases m2 : b = B.rs
          · rw [m2, n.nd.2] at h; cases h
          rw [r.go b u w m1 m2] at z; cases z
  · rcases set_some hj with ⟨rfl, eo, _⟩ | ⟨ne, hj⟩
    · rcases h1 with h1 | ⟨C', h1, q1, q2, q3⟩
      · rw [h1] at eo; cases eo
      · rw [h1] at eo; cases eo
        exact ⟨_, e0, rfl, dx, fv, q1, q2, q3, k4⟩
    · obtain ⟨v, ev, sv⟩ := r.sl j oj hj
      refine ⟨v, ev, ?_⟩
      cases oj with
      | v d => exact Rep.mono n.ex sv
      | l ds =>
        obtain ⟨b, vs, rfl, c1, c2, c3, c4⟩ := sv
        have m : b ≠ B.me := ne_of c1 k1 (fun z => by cases z)
        obtain ⟨m1, m2⟩ := ne0 b c4
        exact ⟨b, vs, rfl, go1 b _ c1 m m1 m2, c2.mono n.ex, nf c1 m c3, c4⟩
      | d ds =>
        obtain ⟨b, vs, rfl, c1, c2, c3, c4⟩ := sv
        have m : b ≠ B.me := ne_of c1 k1 (fun z => by cases z)
        obtain ⟨m1, m2⟩ := ne0 b c4
        exact ⟨b, vs, rfl, go1 b _ c1 m m1 m2, c2.mono n.ex, nf c1 m c3, c4⟩
      | lt ds =>
        obtain ⟨b, vs, rfl, c1, c2, c3, c4⟩ := sv
        exact ⟨b, vs, rfl, c1, c2, c3, c4.mono n.ex⟩
      | ld ds =>
        obtain ⟨b, vs, rfl, c1, c2, c3, c4⟩ := sv
        exact ⟨b, vs, rfl, c1, c2, c3, c4.mono n.ex⟩
      | x C fs =>
        obtain ⟨c1, c2, c3, c4, fv1, c5, c6⟩ := sv
        exact ⟨c1, c2, c3, c4, fv1, c5, c6.mono n.ex⟩
      | ob C1 fs1 =>
        obtain ⟨rfl, _⟩ := sv
        exact (ne (r.inj j 0 _ _ _ hj e rfl rfl ev e0)).elim
  · have back : ∀ {m : Nat} {om : O}, (ρ.set 0 o')[m]? = some (some om) → om.own = true → ∃ om', ρ[m]? = some (some om') ∧ om'.own = true := fun {m om} hm wm => by
      rcases set_some hm with ⟨rfl, _, _⟩ | ⟨ne, hm⟩
      · exact ⟨_, e, rfl⟩
      · exact ⟨_, hm, wm⟩
    obtain ⟨o1, hj', wj'⟩ := back hj wj
    obtain ⟨o2, hk', wk'⟩ := back hk wk
    exact r.inj j k o1 o2 b hj' hk' wj' wk' ej ek
/-- the inits that stand behind the class D, by the object's class -/
def sSup (ok : Addr → Bool) (n m : Nat) (F : Addr → List (Str × Dn.D) → List O → Dr → Out (List (Str × Dn.D))) (gO : List O → List O → List O) (fr fk : Env → Dr → Out (List O)) : Env → Dr → SO := fun ρ S => match ρ[(0 : Nat)]? with
  | some (some (.ob C fs)) => if ok C = true then (fr ρ S).so ρ fun os S1 => (fk ρ S1).so ρ fun ks S2 =>
      if os.length = n ∧ ks.length = m then match F C fs (gO os ks) S2 with
        | .ok fs' S3 => .nx (ρ.set 0 (some (.ob C fs'))) S3
        | .exc C' fs' S3 => .exc C' fs' (ρ.set 0 none) S3
        | .stk => .stk
      else .stk
    else .stk
  | _ => .stk
theorem as_del {vs : List V} {os : List O} {a C dx : Addr} {fv : List (Str × V)} (ea : H a = some (.ins C dx fv)) (h : AsR B Hf H vs os) : AsR B Hf (del H a) vs os := by
  induction h with
  | nil => exact .nil
  | cons h _ ih =>
    refine .cons ?_ ih
    rename_i v o _ _ _
    cases o with
    | v d => exact h
    | lt ds => obtain ⟨b, vs, rfl, h1, h2, h3, h4⟩ := h; exact ⟨b, vs, rfl, by rw [del_ne (ne_of h1 ea (fun z => by cases z))]; exact h1, h2, h3, h4⟩
    | ld ds => obtain ⟨b, vs, rfl, h1, h2, h3, h4⟩ := h; exact ⟨b, vs, rfl, by rw [del_ne (ne_of h1 ea (fun z => by cases z))]; exact h1, h2, h3, h4⟩
    | l ds => exact h.elim
    | d ds => exact h.elim
    | x C fs => exact h.elim
    | ob C fs => exact h.elim
theorem js_sup {ok : Addr → Bool} {k n m l : Nat} {body : List Stmt} {F : Addr → List (Str × Dn.D) → List O → Dr → Out (List (Str × Dn.D))} {gO : List O → List O → List O} {f cc Dc f2 : Addr} {cd : Value} {x0 : Str} {fd : FuncData} {ps ks : List Str} {p0 p1 pos apos pos' : Pos} {e : Expr} {es : List Expr} {kws : List Keyword}
    {gg : List Value → List Value → List Value} {gV : List V → List V → List V} {pl : Sem Bool}
    (SF : SupF X.prog X.K X.mg f cc cd Dc x0) (T : ∀ C, ok C = true → SupC X.K C Dc f2) (G : FnOk X.prog X.w X.K X.mg X.base (L2.CX X.prog X.w) k f2 fd ps (spI B l F)) (hr : Room k X.A) (hb : KBn X.K fd ps (n + 1) ks gg gV) (hgo : GvO n m l gV gO) (hkl : ks.length = m) (tk : Takes X W)
    (ha : JA X W B (e :: es) fr) (hkw : JK X W B kws fk)
    (hcell : X.env.cells.lookup ("__class__" : Str) = some cc) (hfu : X.env.func = some f := by rfl) (hco : X.env.code = cd := by rfl) (hks : X.env.kindOf "super" = some .globalImplicit := by rfl) (hkc : X.env.kindOf "__class__" = some .free := by rfl)
    (hN : X.N[0]? = some x0 := by rfl) (hv : Vis X.env.scope x0 := by first | exact Or.inl rfl | exact Or.inr (Or.inl rfl) | exact Or.inr (Or.inr rfl)) (hx0 : (x0 == ("__classdict__" : Str)) = false := by decide)
    (hall : (backToKw pos (keywordEach kws X.env)).all (·.1.isSome) = true := by rfl) (hksn : (backToKw pos (keywordEach kws X.env)).filterMap (·.1) = ks := by rfl)
    (he : starEach (e :: es) X.env = (false, eval e X.env) :: starEach es X.env := by exact star_c rfl) (hpl : ((backTo pos (starEach (e :: es) X.env)).any (·.1) || (backToKw pos (keywordEach kws X.env)).any (·.1.isNone)) = false := by rfl)
    (ht : eval (.Call (.Attribute (.Call (.Name "super" p0) [] [] p1) "__init__" apos) (e :: es) kws pos) X.env = (do
      let ov ← attributeBase (.Call (.Name "super" p0) [] [] p1) "__init__" X.env (eval (.Call (.Name "super" p0) [] [] p1) X.env)
      standAt apos.atName
      let (f, first) ← holding [ov] (getMethod ov "__init__" pl)
      callWith pos f first (backTo pos (starEach (e :: es) X.env)) (backToKw pos (keywordEach kws X.env))) := by rfl)
    (hsw : swapsWith (.Call (.Attribute (.Call (.Name "super" p0) [] [] p1) "__init__" apos) (e :: es) kws pos) none pos'.line X.env = pure false := by rfl) :
    JSA X W B (.func body X.env) (.Expr (.Call (.Attribute (.Call (.Name "super" p0) [] [] p1) "__init__" apos) (e :: es) kws pos) pos') (sSup ok n m F gO fr fk) := .of fun bs σ H ρ S Hf D r h => by
  refine fun pins s I => (psa_sup (E := WE W) SF G hr hb (fun σ => passAt tk σ) pa_W pk_W hN hv hx0 hks hkc hcell hfu hco hall hksn he hpl ht hsw).run pins s σ H D I ?_
  unfold sSup at h
  split at h
  · rename_i C fs e0
    split at h
    · rename_i hok
      obtain ⟨v0, e1, rfl, dx, fv, k1, k2, k3, k4⟩ := r.sl 0 _ e0
      refine ⟨B.me, C, dx, fv, e1, k1, T C hok, ?_⟩
      refine ha.so r h fun os S1 vs H1 Hf1 r1 n1 z1 h1 => ?_
      refine hkw.go bs σ H1 ρ S1 Hf1 _ r1 ?_
      cases q : fk ρ S1 with
      | stk => rw [q] at h1; exact h1.elim
      | exc C' fs' S2 => rw [q] at h1; exact fun d Hf2 H2 n2 d2 x2 => h1 σ d Hf2 H2 (r1.next n2 d2) x2
      | ok us S2 =>
        rw [q] at h1
        intro zs Hf2 H2 n2 d2 z2
        have h1 : SPost B W bs D (if os.length = n ∧ us.length = m then match F C fs (gO os us) S2 with
          | .ok fs' S3 => .nx (ρ.set 0 (some (.ob C fs'))) S3
          | .exc C' fs' S3 => .exc C' fs' (ρ.set 0 none) S3
          | .stk => .stk
          else .stk) := h1
        split at h1
        · rename_i hl
          have r2 := r1.next n2 d2
          have z1' := as_next n2 z1
          obtain ⟨v2, e2, rfl', dx2, fv2, j1, j2, j3, j4⟩ := r2.sl 0 _ e0
          have m1 : B.me ≠ B.dr := fun q => by rw [q, r2.drw.dr] at j1; cases j1
          have m2 : B.me ≠ B.rs := fun q => by rw [q, r2.drw.rs] at j1; cases j1
          refine ⟨by rw [as_len z1]; exact hl.1, by rw [as_len z2, hl.2, hkl], ?_⟩
          obtain ⟨vr, g1, zr, ll⟩ := hgo B Hf2 H2 (.ref B.me) vs zs os us z1' z2 hl.1 hl.2
          rw [g1]
          refine ⟨by rw [List.length_cons, as_len zr]; exact ll, B.me, C, dx2, fv2, fs, vr, _, S2, Hf2, rfl, j1, j2, j3, m1, m2, r2.ex, r2.nd, r2.drw, as_del j1 zr, ?_⟩
          cases qF : F C fs (gO os us) S2 with
          | stk => rw [qF] at h1; exact h1.elim
          | exc C' fs' S3 =>
            rw [qF] at h1
            exact fun d Hf' H' n3 d3 x3 => h1 σ d Hf' H' (r2.sup e0 n3 d3 none (.inl rfl) (dx := dx) (fs' := []) (fv := [])) x3
          | ok fs' S3 =>
            rw [qF] at h1
            exact fun Hf' H' dx' fv' n3 d3 q1 q2 q3 => h1 σ Hf' H' (r2.sup e0 n3 d3 _ (.inr ⟨C, rfl, q1, q2, q3⟩))
        · exact h1.elim
    · exact h.elim
  · exact h.elim
end
/-- an __init__ that says super() keeps its promise -/
theorem ji_mkS {P : Program} {w : World} {K : PySem.W.Frag} {mg : Str → Option Value} {base : Heap} {x qual : Str} {params : Arguments} {body : List Stmt} {scope : Scope} {f cc Dc : Addr} {dV kV doc pm cdv ct oc : Value} {an od : Option Addr} {osl : Array (Option Value)} {N ps : List Str} {k : Nat} {g : Env → Dr → SO}
    (lk : K.lookup f = some ⟨oc, od, .func (PySem.W.fnX x qual params body scope [("__class__", cc)] dV kV doc pm an cdv ct), osl⟩) (hcd : PySem.W.codeIn K cdv qual = true) (Sc : FnScopeS N ps scope) (hC : CellC K cc Dc)
    (hbody : ∀ (a : Addr) (A : Around) (outer : List PySem.Env) (s : Shared) (H : Hp) (E : XK), Room k (A.deeper (envS qual scope s.heap.objs.size f cdv cc)) →
      JBA (cxOfS (L2.CX P w) P w K mg base N qual scope f cdv cc A outer s H E) (fun cls d _ H => E cls d H) (B.at a) (.func body (envS qual scope s.heap.objs.size f cdv cc)) body g) :
    FnOk P w K mg base (L2.CX P w) (k + 1) f (PySem.W.fnX x qual params body scope [("__class__", cc)] dV kV doc pm an cdv ct) ps (spI B ps.length (runI N.length g)) := by
  refine fn_ofS lk hcd Sc hC (fun vs H Q E h => h.1) fun A outer s H vs Q E hr h => ?_
  obtain ⟨_, a, C, dx, fv, fs, vr, os, S, Hf, rfl, ha, l, fa, n1, n2, hx, hn, d, z, q⟩ := h
  refine ⟨tWSsA _ _ body, pssa_W, ?_⟩
  refine (hbody a A outer s H E hr).go (Hf, del H a) (L2.start N (.ref a :: vr)) H (startI N.length C fs os) S Hf _ (start_ri ha l fa n1 n2 hx hn d z) ?_
  exact init_end q (fun _ _ h => h) fun _ _ _ _ h => h
end Dn

set_option Elab.async false
set_option linter.all false
set_option maxRecDepth 100000
set_option maxHeartbeats 4000000
namespace Dn
open PySem PySem.Spec PyProof.Rows L2

/-! ### a def within a class whose closure holds the class; keyword-only parameters that lack -/
structure MeS (P : Program) (K : PySem.W.Frag) (mg : Str → Option Value) (name qual : Str) (st : Stmt) (Dc : Addr) (x0 : Str) : Type where
  f : Addr
  cc : Addr
  cdv : Value
  fd : FuncData
  ex : ∃ (oc : Value) (od : Option Addr) (kV doc pm : Value) (an : Option Addr) (ct : Value) (osl : Array (Option Value)),
    fd = PySem.W.fnX name qual (defArgs st) (defBody st) (defScope st) [("__class__", cc)] .none kV doc pm an cdv ct ∧ K.lookup f = some ⟨oc, od, .func fd, osl⟩
  cd : PySem.W.codeIn K cdv qual = true
  kp : PySem.W.keepIn K (.ref f) = true
  sf : SupF P K mg f cc cdv Dc x0
def MeS.mk' {P : Program} {K : PySem.W.Frag} {mg : Str → Option Value} {name qual : Str} {st : Stmt} {f cc cda Dc : Addr} {x0 : Str} {oc kV doc pm ct ccl cel : Value} {od an cdd ced : Option Addr} {osl ccs ces : Array (Option Value)} {vs : Array Value} {file : Str} {tf : Tok} {ar : Arg}
    (l : K.lookup f = some ⟨oc, od, .func (PySem.W.fnX name qual (defArgs st) (defBody st) (defScope st) [("__class__", cc)] .none kV doc pm an (.ref cda) ct), osl⟩)
    (c : PySem.W.codeIn K (.ref cda) qual = true) (k : PySem.W.keepIn K (.ref f) = true)
    (h1 : ((defArgs st).posonlyargs ++ (defArgs st).args).head? = some ar) (h2 : ar.arg = x0) (c1 : K.lookup cda = some ⟨ccl, cdd, .fields vs, ccs⟩) (c2 : vs[2]? = some (.str file tf)) (c3 : ((P.main.file : Str) == file) = true)
    (b1 : K.lookup cc = some ⟨cel, ced, .cell (some (.ref Dc)), ces⟩) (s1 : PySem.W.mroIn K Dc (.type "object") = some true) (s2 : mg "super" = none) (s3 : (P.main.scope.names.lookup ("super" : Str)).isSome = false) (s4 : PySem.W.nsIn K cStatics "thirdparty.any" = some none) :
    MeS P K mg name qual st Dc x0 :=
  ⟨f, cc, .ref cda, _, ⟨oc, od, kV, doc, pm, an, ct, osl, rfl, l⟩, c, k, ⟨⟨_, _, ar, l, rfl, h1, h2⟩, ⟨cda, _, vs, file, tf, rfl, c1, rfl, c2, c3⟩, ⟨_, b1, rfl⟩, by
    unfold PySem.W.mroIn at s1
    cases q : PySem.W.clsIn K Dc with
    | none => rw [q] at s1; cases s1
    | some cd => rfl, s2, s3, s4⟩⟩
/-- the keyword-only parameters dn have None as default -/
def KwdN (K : PySem.W.Frag) (kV : Value) (dn : List Str) : Prop := ∃ D : Addr, kV = .ref D ∧ ∀ x ∈ dn, PySem.W.nsIn K D x = some (some .none)
theorem kbn_of {K : PySem.W.Frag} {fd : FuncData} {ps ks : List Str} {n : Nat} {g : List Value → List Value → List Value} {gV : List V → List V → List V} (h : ∀ us ws : List Value, us.length = n → ws.length = ks.length → bindArgs fd ⟨us, ks.zip ws⟩ = pure (ps.zip (g us ws)))
    (r : ∀ {vs : List V} {us : List Value} {zs : List V} {ws : List Value}, Vals vs us → Vals zs ws → Vals (gV vs zs) (g us ws)) : KBn K fd ps n ks g gV := ⟨fun s us ws _ l1 l2 => .of_eq (h us ws l1 l2), r⟩
theorem kbn_lack {K : PySem.W.Frag} {fd : FuncData} {ps ks ms dn : List Str} {n : Nat} {g : List Value → List Value → List Value} {gV : List V → List V → List V} (hk : KwdN K fd.kwdefaults dn) (hms : ∀ x ∈ ms, x ∈ dn)
    (h : ∀ D : Addr, fd.kwdefaults = .ref D → ∀ us ws : List Value, us.length = n → ws.length = ks.length → KwChain D (ms.map fun x => (x, Value.none)) (bindArgs fd ⟨us, ks.zip ws⟩) (ps.zip (g us ws)))
    (r : ∀ {vs : List V} {us : List Value} {zs : List V} {ws : List Value}, Vals vs us → Vals zs ws → Vals (gV vs zs) (g us ws)) : KBn K fd ps n ks g gV := by
  obtain ⟨D, e, hd⟩ := hk
  refine ⟨fun s us ws X l1 l2 => BindsTo.of_looks fun M => KwChain.looks X (fun q hq => ?_) (h D e us ws l1 l2), r⟩
  obtain ⟨x, hx, rfl⟩ := List.mem_map.mp hq
  exact hd x (hms x hx)
/-- .. of a def in either form -/
theorem kb_fun {K : PySem.W.Frag} {x qual : Str} {st : Stmt} {f : Addr} {fd : FuncData} {ps ks : List Str} {n : Nat} {g : List Value → List Value → List Value} {gV : List V → List V → List V} (F : Fun K x qual st f fd)
    (h : ∀ (kV doc pm : Value) (an : Option Addr) (cdv ct : Value) (us ws : List Value), us.length = n → ws.length = ks.length → bindArgs (PySem.W.fnOf x qual (defArgs st) (defBody st) (defScope st) .none kV doc pm an cdv ct) ⟨us, ks.zip ws⟩ = pure (ps.zip (g us ws)))
    (r : ∀ {vs : List V} {us : List Value} {zs : List V} {ws : List Value}, Vals vs us → Vals zs ws → Vals (gV vs zs) (g us ws)) : KBn K fd ps n ks g gV := by
  obtain ⟨oc, od, kV, doc, pm, an, cdv, ct, osl, rfl, lk, hcd⟩ := F.ex
  exact kbn_of (h kV doc pm an cdv ct) r
theorem kb_funL {K : PySem.W.Frag} {x qual : Str} {st : Stmt} {f : Addr} {fd : FuncData} {ps ks ms dn : List Str} {n : Nat} {g : List Value → List Value → List Value} {gV : List V → List V → List V} (F : Fun K x qual st f fd) (hk : KwdN K fd.kwdefaults dn) (hms : ∀ x ∈ ms, x ∈ dn)
    (h : ∀ (D : Addr) (doc pm : Value) (an : Option Addr) (cdv ct : Value) (us ws : List Value), us.length = n → ws.length = ks.length → KwChain D (ms.map fun x => (x, Value.none)) (bindArgs (PySem.W.fnOf x qual (defArgs st) (defBody st) (defScope st) .none (.ref D) doc pm an cdv ct) ⟨us, ks.zip ws⟩) (ps.zip (g us ws)))
    (r : ∀ {vs : List V} {us : List Value} {zs : List V} {ws : List Value}, Vals vs us → Vals zs ws → Vals (gV vs zs) (g us ws)) : KBn K fd ps n ks g gV := by
  obtain ⟨oc, od, kV, doc, pm, an, cdv, ct, osl, rfl, lk, hcd⟩ := F.ex
  refine kbn_lack hk hms (fun D e us ws l1 l2 => ?_) r
  have e : kV = .ref D := e
  subst e
  exact h D doc pm an cdv ct us ws l1 l2
section
variable {P : Program} {K : PySem.W.Frag} {mg : Str → Option Value} {x qual : Str} {st : Stmt} {Dc : Addr} {x0 : Str} {ps ks ms dn : List Str} {n : Nat} {g : List Value → List Value → List Value} {gV : List V → List V → List V}
theorem kb_sup (A : MeS P K mg x qual st Dc x0)
    (h : ∀ (cl : List (Str × Addr)) (kV doc pm : Value) (an : Option Addr) (cdv ct : Value) (us ws : List Value), us.length = n → ws.length = ks.length → bindArgs (PySem.W.fnX x qual (defArgs st) (defBody st) (defScope st) cl .none kV doc pm an cdv ct) ⟨us, ks.zip ws⟩ = pure (ps.zip (g us ws)))
    (r : ∀ {vs : List V} {us : List Value} {zs : List V} {ws : List Value}, Vals vs us → Vals zs ws → Vals (gV vs zs) (g us ws)) : KBn K A.fd ps n ks g gV := by
  obtain ⟨oc, od, kV, doc, pm, an, ct, osl, e, lk⟩ := A.ex
  rw [e]
  exact kbn_of (h _ kV doc pm an _ ct) r
theorem kb_supL (A : MeS P K mg x qual st Dc x0) (hk : KwdN K A.fd.kwdefaults dn) (hms : ∀ x ∈ ms, x ∈ dn)
    (h : ∀ (cl : List (Str × Addr)) (D : Addr) (doc pm : Value) (an : Option Addr) (cdv ct : Value) (us ws : List Value), us.length = n → ws.length = ks.length → KwChain D (ms.map fun x => (x, Value.none)) (bindArgs (PySem.W.fnX x qual (defArgs st) (defBody st) (defScope st) cl .none (.ref D) doc pm an cdv ct) ⟨us, ks.zip ws⟩) (ps.zip (g us ws)))
    (r : ∀ {vs : List V} {us : List Value} {zs : List V} {ws : List Value}, Vals vs us → Vals zs ws → Vals (gV vs zs) (g us ws)) : KBn K A.fd ps n ks g gV := by
  obtain ⟨oc, od, kV, doc, pm, an, ct, osl, e, lk⟩ := A.ex
  rw [e] at hk ⊢
  refine kbn_lack hk hms (fun D e us ws l1 l2 => ?_) r
  have e : kV = .ref D := e
  subst e
  exact h _ D doc pm an _ ct us ws l1 l2
end
theorem gr_app {vs : List V} {us : List Value} {zs : List V} {ws : List Value} (a : Vals vs us) (b : Vals zs ws) : Vals (vs ++ zs) (us ++ ws) := a.append b
theorem gr_rev {vs : List V} {us : List Value} {zs : List V} {ws : List Value} (a : Vals vs us) (b : Vals zs ws) : Vals (vs ++ zs.reverse) (us ++ ws.reverse) := a.append b.reverse
theorem gr_non {vs : List V} {us : List Value} {zs : List V} {ws : List Value} (a : Vals vs us) (b : Vals zs ws) : Vals (vs ++ (V.non :: zs)) (us ++ (Value.none :: ws)) := a.append (.cons rfl b)
theorem gr_non2 {vs : List V} {us : List Value} {zs : List V} {ws : List Value} (a : Vals vs us) (b : Vals zs ws) : Vals (vs ++ (V.non :: V.non :: zs)) (us ++ (Value.none :: Value.none :: ws)) := a.append (.cons rfl (.cons rfl b))
theorem gr_nonE {vs : List V} {us : List Value} {zs : List V} {ws : List Value} (a : Vals vs us) (b : Vals zs ws) : Vals (vs ++ (zs ++ [V.non])) (us ++ (ws ++ [Value.none])) := a.append (b.append (.cons rfl .nil))
theorem gvo_non2 {n m : Nat} : GvO n m (n + m + 3) (fun vs zs => vs ++ (.non :: .non :: zs)) (fun os ks => os ++ (.v .non :: .v .non :: ks)) := fun B Hf H v vs zs os ks h1 h2 l1 l2 => ⟨vs ++ (.non :: .non :: zs), rfl, as_append h1 (.cons (show ArR B Hf H .non (.v .non) from Rep.non) (.cons (show ArR B Hf H .non (.v .non) from Rep.non) h2)), by simp; omega⟩
theorem gvo_nonE {n m : Nat} : GvO n m (n + m + 2) (fun vs zs => vs ++ (zs ++ [.non])) (fun os ks => os ++ (ks ++ [.v .non])) := fun B Hf H v vs zs os ks h1 h2 l1 l2 => ⟨vs ++ (zs ++ [.non]), rfl, as_append h1 (as_append h2 (.cons (show ArR B Hf H .non (.v .non) from Rep.non) .nil)), by simp; omega⟩
/-- the def of a class is made of such a text -/
theorem ji_mkS' {P : Program} {w : World} {K : PySem.W.Frag} {mg : Str → Option Value} {base : Heap} {x qual : Str} {st : Stmt} {Dc : Addr} {x0 : Str} (A : MeS P K mg x qual st Dc x0) {N ps : List Str} {k : Nat} {g : Env → Dr → SO} {B : Bs} (Sc : FnScopeS N ps (defScope st))
    (hbody : ∀ (a : Addr) (A1 : Around) (outer : List PySem.Env) (s : Shared) (H : Hp) (E : XK), Room k (A1.deeper (envS qual (defScope st) s.heap.objs.size A.f A.cdv A.cc)) →
      JBA (cxOfS (L2.CX P w) P w K mg base N qual (defScope st) A.f A.cdv A.cc A1 outer s H E) (fun cls d _ H => E cls d H) (B.at a) (.func (defBody st) (envS qual (defScope st) s.heap.objs.size A.f A.cdv A.cc)) (defBody st) g) :
    FnOk P w K mg base (L2.CX P w) (k + 1) A.f A.fd ps (spI B ps.length (runI N.length g)) := by
  obtain ⟨oc, od, kV, doc, pm, an, ct, osl, e, lk⟩ := A.ex
  rw [e] at lk ⊢
  exact ji_mkS lk A.cd Sc A.sf.cell fun a A1 outer s H E hr => hbody a A1 outer s H E hr
theorem cells_cls {n : Nat} {cc : Addr} {names : List (Str × NameKind)} (h : (cellsFrom n names []).lookup ("__class__" : Str) = none := by rfl) : (cellsFrom n names [("__class__", cc)]).lookup ("__class__" : Str) = some cc := by
  rw [Sup.cells_app]
  exact Sup.lk_app3 h rfl
theorem fnIn_of {K : PySem.W.Frag} {f : Addr} {oc : Value} {od : Option Addr} {fd : FuncData} {sl : Array (Option Value)} (l : K.lookup f = some ⟨oc, od, .func fd, sl⟩) : PySem.W.fnIn K f = true := by
  unfold PySem.W.fnIn
  rw [l]
/-- an __init__'s promise within an __init__ -/
theorem in_at {P : Program} {w : World} {K : PySem.W.Frag} {mg : Str → Option Value} {base : Heap} {k : Nat} {f : Addr} {fd : FuncData} {ps : List Str} {B : Bs} {n : Nat} {F : Addr → List (Str × Dn.D) → List O → Dr → Out (List (Str × Dn.D))} (a : Addr) (G : FnOk P w K mg base (L2.CX P w) k f fd ps (spI B n F)) :
    FnOk P w K mg base (L2.CX P w) k f fd ps (spI (B.at a) n F) :=
  G.imp fun vs H Q E ⟨hl, b, C, dx, fv, fs, vr, os, S, Hf, e, h1, h2, h3, h4, h5, hx, hn, d, z, q⟩ => ⟨hl, b, C, dx, fv, fs, vr, os, S, Hf, e, h1, h2, h3, h4, h5, hx, hn, d.un, as_un z, by
    cases w : F C fs os S with
    | ok fs' S' => rw [w] at q; exact fun Hf' H' dx' fv' n d y1 y2 y3 => q Hf' H' dx' fv' n.at d.at y1 y2 y3
    | exc C' fs' S' => rw [w] at q; exact fun dd Hf' H' n d x => q dd Hf' H' n.at d.at x
    | stk => rw [w] at q; exact q⟩
end Dn

set_option Elab.async false
set_option linter.all false
set_option maxRecDepth 100000
set_option maxHeartbeats 4000000
namespace Dn
open PySem PySem.Spec PyProof.Rows L2

/-! ### one method for several classes; super in the calculus -/
def tabS {α : Type} (Cs : List Addr) (F : α) : Addr → Option α := fun C => if isL Cs C = true then some F else none
theorem tabS_ok {α : Type} {P : Addr → α → Prop} {Cs : List Addr} {F : α} (h : AllP (fun C => P C F) Cs) : ∀ C G, tabS Cs F C = some G → P C G := fun C G e => by
  unfold tabS at e
  split at e
  · rename_i q
    cases e
    exact isL_ok h C q
  · cases e
theorem tabS_at {α : Type} {C0 : Addr} {r : List Addr} {F : α} : tabS (C0 :: r) F C0 = some F := by unfold tabS; simp
theorem tabS_in {α : Type} {C : Addr} {Cs : List Addr} {F : α} (h : isL Cs C = true) : tabS Cs F C = some F := by unfold tabS; rw [if_pos h]
section
variable {X : PX} {S : Dr} {ρ : Env} {K : Kt} {fr fk : Env → Dr → Out (List O)}
theorem w_sup {ok : Addr → Bool} {n m : Nat} {F : Addr → List (Str × Dn.D) → List O → Dr → Out (List (Str × Dn.D))} {gO : List O → List O → List O} {C : Addr} {fs : List (Str × Dn.D)} (hok : ok C = true) : (sSup ok n m F gO fr fk (some (.ob C fs) :: ρ) S).w K =
    (fr (some (.ob C fs) :: ρ) S).w (fun os S1 => (fk (some (.ob C fs) :: ρ) S1).w (fun ks S2 => os.length = n ∧ ks.length = m ∧ (F C fs (gO os ks) S2).w (fun fs' S3 => K.nx (some (.ob C fs') :: ρ) S3) (fun C' fs' S3 => K.ex C' fs' (none :: ρ) S3)) (fun C' fs' S1 => K.ex C' fs' (some (.ob C fs) :: ρ) S1)) (fun C' fs' S1 => K.ex C' fs' (some (.ob C fs) :: ρ) S1) := by
  unfold sSup
  show (if ok C = true then _ else _ : SO).w K = _
  rw [if_pos hok, w_so]
  congr 1
  funext os S1
  rw [w_so]
  congr 1
  funext ks S2
  apply propext
  by_cases hl : os.length = n ∧ ks.length = m
  · rw [if_pos hl]
    cases q : F C fs (gO os ks) S2 with
    | ok fs' S3 => exact ⟨fun h => ⟨hl.1, hl.2, h⟩, fun h => h.2.2⟩
    | exc C' fs' S3 => exact ⟨fun h => ⟨hl.1, hl.2, h⟩, fun h => h.2.2⟩
    | stk => exact ⟨fun h => h.elim, fun h => h.2.2.elim⟩
  · rw [if_neg hl]
    exact ⟨fun h => h.elim, fun h => (hl ⟨h.1, h.2.1⟩).elim⟩
end
theorem Out.eq_of_w' {α : Type} {e : α} {o : Out α} {S' : Dr} (h : o.w (fun a S1 => a = e ∧ S1 = S') noX') : o = .ok e S' := by
  cases o with
  | ok a S1 => obtain ⟨rfl, rfl⟩ := h; rfl
  | exc C fs S1 => exact h.elim
  | stk => exact h.elim
end Dn

set_option Elab.async false
set_option linter.all false
set_option maxRecDepth 100000
set_option maxHeartbeats 4000000
namespace Dn
open PySem PySem.Spec PyProof.Rows L2

/-! ### in: a tuple of data; a list, a tuple, a sign in a text, a dict by what stands there -/
def rInT (K : PySem.W.Frag) : R2 := fun x y H Q => ∃ d ds, Dp K H x d ∧ Dp K H y (.tuple ds) ∧ SeqAt.shaped d = true ∧ SeqAt.shaped (.tuple ds) = true ∧ Q (.bl (ds.any fun z => PyData.eqv z d)) H
def rNotInT (K : PySem.W.Frag) : R2 := fun x y H Q => ∃ d ds, Dp K H x d ∧ Dp K H y (.tuple ds) ∧ SeqAt.shaped d = true ∧ SeqAt.shaped (.tuple ds) = true ∧ Q (.bl (!ds.any fun z => PyData.eqv z d)) H
section
variable {X : Cx}
theorem op_inT (hu : X.A.units + 65 < cLine) : OpR X (compareOp .In) (rInT X.K) := by
  intro pins s σ H x y v u Q I rx ry h
  obtain ⟨d, ds, hd, he, sd, se, q⟩ := h
  obtain ⟨as, r1⟩ := Dp.reads I d x v hd rx
  obtain ⟨bs, r2⟩ := Dp.reads I (.tuple ds) y u he ry
  exact SeqAt.in_tuple_reads r2 r1 (SeqAt.canLay_of_shaped se) (SeqAt.canLay_of_shaped sd) (room_in_shaped sd hu) ⟨.bl _, H, I, rfl, q⟩
theorem op_notInT (hu : X.A.units + 65 < cLine) : OpR X (compareOp .NotIn) (rNotInT X.K) := by
  intro pins s σ H x y v u Q I rx ry h
  obtain ⟨d, ds, hd, he, sd, se, q⟩ := h
  obtain ⟨as, r1⟩ := Dp.reads I d x v hd rx
  obtain ⟨bs, r2⟩ := Dp.reads I (.tuple ds) y u he ry
  exact SeqAt.notIn_tuple_reads r2 r1 (SeqAt.canLay_of_shaped se) (SeqAt.canLay_of_shaped sd) (room_in_shaped sd hu) ⟨.bl _, H, I, rfl, q⟩
end
def gInT (neg : Bool) : E → E → Option E := fun x y => match x.py, y.py with
  | some p, some (.tuple qs) => if SeqAt.shaped p = true ∧ SeqAt.shaped (.tuple qs) = true then some (.v (.bl (if neg then !qs.any (fun z => PyData.eqv z p) else qs.any (fun z => PyData.eqv z p)))) else none
  | _, _ => none
section
variable {X : Cx} {W : WX} {B : Bs} {bs : Hp × Hp} {Hs Hf H : Hp} {ρ : Env} {S : Dr} {σ : L2.St} {a b e : Expr} {fa fb : Env → Dr → Out E} {pos : Pos}
theorem oj_inT : OpJ B (rInT B.K) (gInT false) := fun bs σ H ρ S Hf Hs1 Hs2 x y e1 e2 e Q r h1 h2 q k => by
  unfold gInT at q
  split at q
  · rename_i p1 p2 q1 q2
    split at q
    · rename_i hc
      cases q
      exact ⟨_, _, E.dp r h1 q1, E.dp r h2 q2, hc.1, hc.2, VP.now r k (Rep.bl _)⟩
    · cases q
  · cases q
theorem oj_notInT : OpJ B (rNotInT B.K) (gInT true) := fun bs σ H ρ S Hf Hs1 Hs2 x y e1 e2 e Q r h1 h2 q k => by
  unfold gInT at q
  split at q
  · rename_i p1 p2 q1 q2
    split at q
    · rename_i hc
      cases q
      exact ⟨_, _, E.dp r h1 q1, E.dp r h2 q2, hc.1, hc.2, VP.now r k (Rep.bl _)⟩
    · cases q
  · cases q
def gInAT (neg : Bool) : E → E → Option E := fun x y => match gInA neg x y with
  | some z => some z
  | none => gInT neg x y
def gInF (neg : Bool) : E → E → Option E := fun x y => match gInAT neg x y with
  | some z => some z
  | none => gInK neg x y
theorem je_inF (hK : X.K = B.K) (hu : X.A.units + 65 < cLine) (ha : JE X W B a fa) (hb : JE X W B b fb) (hm : behindInMarks .In b = false := by first | exact nomark _ | rfl | (with_unfolding_all rfl)) : JE X W B (.Compare a [.In] [b] pos) (fOp (gInF false) fa fb) :=
  JE.orOp (je_cmp (OpR.or (op_inA hK hu) (hK ▸ op_inT hu)) (OpJ.or oj_inA oj_inT) ha hb hm) (je_inK (by omega) ha hb hm)
theorem je_notInF (hK : X.K = B.K) (hu : X.A.units + 65 < cLine) (ha : JE X W B a fa) (hb : JE X W B b fb) (hm : behindInMarks .NotIn b = false := by first | exact nomark _ | rfl | (with_unfolding_all rfl)) : JE X W B (.Compare a [.NotIn] [b] pos) (fOp (gInF true) fa fb) :=
  JE.orOp (je_cmp (OpR.or (op_notInA hK hu) (hK ▸ op_notInT hu)) (OpJ.or oj_notInA oj_notInT) ha hb hm) (je_notInK (by omega) ha hb hm)
theorem jt_inF (hK : X.K = B.K) (hu : X.A.units + 65 < cLine) (ha : JE X W B a fa) (hb : JE X W B b fb) (hm : behindInMarks .In b = false := by first | exact nomark _ | rfl | (with_unfolding_all rfl)) : JT X W B (.Compare a [.In] [b] pos) (fTst (fOp (gInF false) fa fb)) :=
  JT.orOp (jt_cmp (OpR.or (op_inA hK hu) (hK ▸ op_inT hu)) (OpJ.or oj_inA oj_inT) ha hb hm) (jt_inK (by omega) ha hb hm)
theorem jt_notInF (hK : X.K = B.K) (hu : X.A.units + 65 < cLine) (ha : JE X W B a fa) (hb : JE X W B b fb) (hm : behindInMarks .NotIn b = false := by first | exact nomark _ | rfl | (with_unfolding_all rfl)) : JT X W B (.Compare a [.NotIn] [b] pos) (fTst (fOp (gInF true) fa fb)) :=
  JT.orOp (jt_cmp (OpR.or (op_notInA hK hu) (hK ▸ op_notInT hu)) (OpJ.or oj_notInA oj_notInT) ha hb hm) (jt_notInK (by omega) ha hb hm)
end
theorem gInF_A {neg : Bool} {x y z : E} (h : gInA neg x y = some z) : gInF neg x y = some z := by unfold gInF gInAT; rw [h]
theorem gInA_tup {neg : Bool} {x : E} {ds : List Dn.D} : gInA neg x (.v (.tup ds)) = none := by
  have h1 : gInL neg x (.v (.tup ds)) = none := by
    unfold gInL
    cases x.py <;> simp [E.py, toPy]
  unfold gInA
  rw [h1]
  show gInSg neg x (.v (.tup ds)) = none
  unfold gInSg
  split
  · rename_i h2; cases h2
  · rfl
theorem gInF_T {neg : Bool} {x z : E} {ds : List Dn.D} (h : gInT neg x (.v (.tup ds)) = some z) : gInF neg x (.v (.tup ds)) = some z := by unfold gInF gInAT; rw [gInA_tup, h]
theorem gInF_dct {neg : Bool} {i : Int} {kvs : List (Key × Dn.D)} : gInF neg (.v (.int i)) (.v (.dct kvs)) = some (.v (.bl (if neg then !(dV kvs (.inl i)).isSome else (dV kvs (.inl i)).isSome))) := by
  have h1 : gInA neg (.v (.int i)) (.v (.dct kvs)) = none := by unfold gInA gInL gInSg; simp [E.py, toPy]
  have h2 : gInT neg (.v (.int i)) (.v (.dct kvs)) = none := by unfold gInT; simp [E.py, toPy]
  unfold gInF gInAT
  rw [h1, h2]
  unfold gInK; simp [E.kd, E.key]
/-- a value in a tuple of plain values -/
theorem gInF_pl {n : Nat} {neg : Bool} {d : Dn.D} {ds : List Dn.D} {x : E} (hx : x.py = toPy d) (h1 : Pl n d) (h2 : ∀ z ∈ ds, Pl n z) (hn : n < 64) : gInF neg x (.v (.tup ds)) = some (.v (.bl (if neg then !ds.any (fun z => eqD z d) else ds.any (fun z => eqD z d)))) := by
  refine gInF_T ?_
  have hl := gInA_pl (neg := neg) (x := x) (y := .b ds) hx rfl h1 h2 hn
  unfold gInA at hl
  have hsg : gInSg neg x (.b ds) = none := by
    unfold gInSg
    split
    · rename_i h2; cases h2
    · rfl
  have hL : gInL neg x (.b ds) = some (.v (.bl (if neg then !ds.any (fun z => eqD z d) else ds.any (fun z => eqD z d)))) := by
    cases q : gInL neg x (.b ds) with
    | some z => rw [q] at hl; exact hl
    | none => rw [q, hsg] at hl; cases hl
  unfold gInL at hL
  unfold gInT
  cases q1 : x.py with
  | none => rw [q1] at hL; simp at hL
  | some p =>
    rw [q1] at hL
    cases q2 : toPyL ds with
    | none => simp [E.py, q2] at hL
    | some qs =>
      simp [E.py, q2] at hL
      obtain ⟨⟨s1, s2⟩, e⟩ := hL
      have s3 : SeqAt.shaped (.tuple qs) = true := s2
      simp [E.py, toPy, q2, s1, s3, e]
end Dn

set_option Elab.async false
set_option linter.all false
set_option maxRecDepth 100000
set_option maxHeartbeats 4000000
namespace Dn.SrtT
open PySem PyProof.Rows Srt SrtO
section
variable {prog : Program} {w : World} {A : Around} {E : Value → Shared → Prop} {s : Shared}
theorem collect_tuple {l : Addr} {vs : List Value} {Q : List Value → Shared → Prop} (hl : s.heap.IsTuple l vs.toArray)
    (h : Q vs { s with heap := (s.heap.push (seqObj "list" #[] 0)).update s.heap.objs.size (Obj.mapSeq (· ++ vs.toArray)) }) (hsz : vs.length ≤ sizeLine) :
    wpAny (model prog w) A (collect (.ref l)) Q E s := by
  obtain ⟨o, ho, hc, n, hd⟩ := id hl
  unfold collect
  refine wpAny_bind (wpAny_runValue (codeAny_builtin entry_proto_collect' ?_))
  show wpAny _ _ (do again (.builtin "list.__iadd__" ⟨[← newList [], .ref l], []⟩)) _ _ s
  refine wpAny_bind (wpAny_newList (wpAny_pure ⟨Code.quiet_builtin _ (by decide +kernel), codeAny_builtin entry_list_iadd' ?_⟩))
  show wpAny _ _ (Builtin.List.listExtendWith (.ref s.heap.objs.size) (.ref l) (.ref s.heap.objs.size)) _ _ { s with heap := s.heap.push (seqObj "list" #[] 0) }
  unfold Builtin.List.listExtendWith
  have ho' : (s.heap.push (seqObj "list" #[] 0)).get? l = some o := Heap.get?_push_of_some _ ho
  refine wpAny_bind (wpAny_typeOf (T := "tuple") ⟨o, ho', hc⟩ ?_)
  have ht : (Value.type "tuple" == Value.type "tuple") = true := by rfl
  rw [if_pos (by rw [ht]; simp)]
  refine wpAny_bind (listItems_at ho' hd ?_)
  refine wpAny_bind (listItems_at (xs := #[]) (n := 0) (Heap.get?_push_size _ rfl) rfl ?_)
  rw [if_neg (by simp)]
  refine wpAny_bind (listUpdate_at (xs := #[]) (n := 0) (Heap.get?_push_size _ rfl) rfl ?_ (Nat.zero_le _) (by show (#[] ++ vs.toArray).size ≤ sizeLine + 1; simp only [Array.size_append, List.size_toArray, List.length_nil]; omega))
  refine wpAny_pure ?_
  show wpAny (model prog w) A (do
      let o ← load s.heap.objs.size
      match o.data with
      | .seq xs _ => pure xs.toList
      | _ => unsupported "internal:collect") Q E { s with heap := (s.heap.push (seqObj "list" #[] 0)).update s.heap.objs.size (Obj.mapSeq (· ++ vs.toArray)) }
  refine wpAny_bind (wpAny_load (get?_update_seq (Heap.get?_push_size _ rfl) _) ?_)
  show wpAny _ _ (pure ((#[] : Array Value) ++ vs.toArray).toList) Q E _
  rw [show ((#[] : Array Value) ++ vs.toArray).toList = vs by simp]
  exact wpAny_pure h
theorem sorted_ordT {l : Addr} {vs : List Value} {ltv : Value → Value → Bool} {Q : Value → Shared → Prop} (O : Swo ltv) (hl : s.heap.IsTuple l vs.toArray) (hz : vs.length ≤ sizeLine)
    (hS : 2 ≤ vs.length → ∀ (h₁ : Heap) (a : Addr), h₁.get? a = some (seqObj "list" vs.toArray 0) → (∀ b o, s.heap.get? b = some o → b ≠ a ∧ h₁.get? b = some o) → SortableO prog w A.in1.in1 { s with heap := h₁ } a vs ltv)
    (h : ∀ out : List Value, Srtd ltv out → Stb ltv out vs → Q (.ref (s.heap.objs.size + 1)) { s with heap := sortedAll s.heap vs out.toArray }) :
    wpAny (model prog w) A (call (.builtin "sorted") [.ref l]) Q E s := by
  refine Calls.call_function_entry kind_sorted plain_sorted entry_sorted (args_sorted1 _) ?_
  unfold Builtin.«sorted»
  refine wpAny_bind (m := checkCount "sorted" 1 1 _) (wpAny_pure ?_)
  refine wpAny_bind (collect_tuple hl ?_ hz)
  refine wpAny_bind (wpAny_newList ?_ hz)
  have hsz : ((s.heap.push (seqObj "list" #[] 0)).update s.heap.objs.size (Obj.mapSeq (· ++ vs.toArray))).objs.size = s.heap.objs.size + 1 := by
    rw [Heap.size_update, size_push']
  have hoL : (((s.heap.push (seqObj "list" #[] 0)).update s.heap.objs.size (Obj.mapSeq (· ++ vs.toArray))).push (seqObj "list" vs.toArray 0)).get? (s.heap.objs.size + 1) = some (seqObj "list" vs.toArray 0) := by
    rw [← hsz]; exact Heap.get?_push_size _ rfl
  have keep : ∀ b o, s.heap.get? b = some o → b ≠ s.heap.objs.size + 1 ∧ (((s.heap.push (seqObj "list" #[] 0)).update s.heap.objs.size (Obj.mapSeq (· ++ vs.toArray))).push (seqObj "list" vs.toArray 0)).get? b = some o := fun b o q => by
    have hlt : b < s.heap.objs.size := Heap.lt_size q
    refine ⟨Nat.ne_of_lt (Nat.lt_succ_of_lt hlt), Heap.get?_push_of_some _ ?_⟩
    rw [Heap.get?_update_ne _ _ _ _ (Nat.ne_of_lt hlt)]
    exact Heap.get?_push_of_some _ q
  show wpAny _ _ _ _ _ { s with heap := ((s.heap.push (seqObj "list" #[] 0)).update s.heap.objs.size (Obj.mapSeq (· ++ vs.toArray))).push (seqObj "list" vs.toArray 0) }
  rw [hsz]
  refine wpAny_bind (wpAny_holding (wpAny_call_entry slot_list_sort ⟨_, hoL, rfl⟩ entry_list_sort (list_sort_ord O hoL hz (fun h2 => hS h2 _ _ hoL keep) fun out hs hb => ⟨_, rfl, ?_⟩) (args_list_sort _)))
  exact wpAny_pure ⟨_, rfl, h out hs hb⟩
end
end Dn.SrtT
namespace Dn
open PySem PySem.Spec PyProof.Rows L2
/-- sorted(a tuple of ints) -/
def rSortedIT (K : PySem.W.Frag) : List V → Hp → VK → Prop := fun vs H Q => ∃ (a : Addr) (ns : List Int), vs = [V.ref a] ∧ SqT K H a (ns.map V.int) ∧
  ∀ (ns' : List Int) (p : Addr), ns'.Perm ns → ns'.Pairwise (· ≤ ·) → H p = none → Q (.ref p) (upd H p (.lst (ns'.map V.int)))
section
variable {X : Cx} {W : WX} {B : Bs} {bs : Hp × Hp} {Hs Hf H : Hp} {ρ : Env} {S : Dr} {σ : L2.St} {e : Expr} {es : List Expr} {fr : Env → Dr → Out (List O)} {pos p : Pos}
theorem cr_sortedIT : CallR X (.builtin "sorted") (rSortedIT X.K) := by
  intro pins s σ H vs us Q I r h
  obtain ⟨a, ns, rfl, hs, q⟩ := h
  obtain ⟨its, rv, hl, hz⟩ := I.tuple hs
  rw [Vals.ref1 r]
  have hi := rv.ints
  refine SrtT.sorted_ordT SrtO.swo_int hl (by rw [← rv.length]; exact hz) (fun h2 h₁ a' _ _ => SrtO.ints_sortable hi h2) fun out h1 h2 => ?_
  obtain ⟨k1, k2, k3⟩ := SrtO.ints_out hi h1 h2
  obtain ⟨ep, he'⟩ := PyProof.Rows.sortedAll_at s.heap its out.toArray
  have hlen : ((out.map SrtO.iv).map V.int).length ≤ sizeLine := by
    rw [List.length_map, k2.length_eq]
    rw [List.length_map] at hz
    exact hz
  exact ⟨.ref _, upd H (s.heap.objs.size + 1) (.lst ((out.map SrtO.iv).map V.int)), I.laid (t' := s.toks) (fun _ _ => PyProof.Rows.sortedAll_old) (Nat.le_succ _) ⟨hlen, out, ep, vals_of_ints k1, he'⟩, rfl, q _ _ k2 k3 (I.hok.fresh (Nat.le_succ _))⟩
def gSortT : List O → Option E
  | [.v (.tup ds)] => match intsD ds with
    | some ns => some (.n ((srtI ns).map D.int))
    | none => none
  | _ => none
theorem cj_sortT : CallJ B (rSortedIT B.K) gSortT := fun bs σ H ρ S Hf vs os e Q r z q k => by
  unfold gSortT at q
  split at q
  · rename_i ds
    obtain ⟨v, rfl, h⟩ := as1 z
    split at q
    · rename_i ns q2
      cases q
      obtain ⟨a, vs, rfl, t, l⟩ := rep_tup r.ex (show Rep B.K B.dr Hf v (.tup ds) from h)
      refine ⟨a, ns, rfl, by rw [← ints_vs q2 l]; exact t, fun ns' p hp hs hn => ?_⟩
      rw [srtI_eq hp hs]
      exact VP.newL r k (RepL.ints _) hn
    · cases q
  · cases q
def gSortF (os : List O) : Option E := match gSortT os with
  | some e => some e
  | none => gSort os
theorem je_sortedF (hK : X.K = B.K) (hc : X.calm = true) (hm : X.mg "sorted" = none) (ha : JA X W B (e :: es) fr) (hg : Gl X "sorted" := by rfl) (he : starEach (e :: es) X.env = (false, eval e X.env) :: starEach es X.env := by exact star_c rfl) (hpl : (backTo pos (starEach es X.env)).any (·.1) = false := by exact star_any rfl) :
    JE X W B (.Call (.Name "sorted" p) (e :: es) [] pos) (fCall gSortF fr) := je_callB (CallR.or (hK ▸ cr_sortedIT) (CallR.or cr_sortedI (call_sortedDI hc))) (CallJ.or cj_sortT (CallJ.or (hK ▸ cj_sortI) cj_sortK)) hm ha hg (by decide +kernel) (by decide) (by decide) he hpl
end
end Dn

set_option Elab.async false
set_option linter.all false
set_option maxRecDepth 100000
set_option maxHeartbeats 4000000
namespace Dn
open PySem PySem.Spec PyProof.Rows L2
def topS (i : Nat) : Stmt := PySem.Challenge.pw_tagrooms_k09_rooms_refused.main.body.getD i (.Pass ⟨0, 0, 0, 0⟩)
abbrev s__law_draws : Stmt := topS 26
abbrev s__law_next : Stmt := topS 27
abbrev s__law_one : Stmt := topS 28
abbrev s__law_rooms_drawn : Stmt := topS 37
abbrev s__law_whole : Stmt := topS 30
abbrev s__law_tag : Stmt := topS 31
abbrev s__law_entry : Stmt := topS 32
abbrev s__law_due : Stmt := topS 33
abbrev s_is_whole : Stmt := topS 8
abbrev s_is_tag : Stmt := topS 9
abbrev s_check_rooms : Stmt := topS 14
abbrev s_check_room : Stmt := topS 15
abbrev s_is_arriving : Stmt := topS 11
abbrev s_is_leaving : Stmt := topS 12
abbrev s_check_rows : Stmt := topS 13
abbrev s_Port___init__ : Stmt := inClass (topS 18) 0
abbrev s_Trunk___init__ : Stmt := inClass (topS 23) 0
abbrev s_Loose___init__ : Stmt := inClass (topS 24) 0
abbrev s__law_made : Stmt := topS 34
abbrev s__law_equal : Stmt := topS 29
abbrev s__law_told : Stmt := topS 35
abbrev s_Plain___init__ : Stmt := inClass (topS 21) 0
abbrev s_Tunnel___init__ : Stmt := inClass (topS 22) 0
abbrev s__law_single : Stmt := topS 36
abbrev s_law : Stmt := topS 38
theorem sc__law_draws : FnScope nsDraws ["_law_script"] (defScope s__law_draws) := ⟨rfl, rfl, rfl, by decide +kernel, rfl, by decide +kernel, by decide +kernel⟩
theorem sc__law_next : FnScope nsNext ["_law_drawn", "_law_many"] (defScope s__law_next) := ⟨rfl, rfl, rfl, by decide +kernel, rfl, by decide +kernel, by decide +kernel⟩
abbrev ns__law_one : List Str := ["_law_drawn", "_law_items"]
theorem sc__law_one : FnScope ns__law_one ["_law_drawn", "_law_items"] (defScope s__law_one) := ⟨rfl, rfl, rfl, by decide +kernel, rfl, by decide +kernel, by decide +kernel⟩
abbrev ns__law_rooms_drawn : List Str := ["_law_drawn", "_law_many", "_law_first", "_law_step", "_law_rooms", "_law_found", "_law_turn", "_law_some", "_law_at"]
theorem sc__law_rooms_drawn : FnScope ns__law_rooms_drawn ["_law_drawn"] (defScope s__law_rooms_drawn) := ⟨rfl, rfl, rfl, by decide +kernel, rfl, by decide +kernel, by decide +kernel⟩
abbrev ns__law_whole : List Str := ["_law_value", "_law_low", "_law_high"]
theorem sc__law_whole : FnScope ns__law_whole ["_law_value", "_law_low", "_law_high"] (defScope s__law_whole) := ⟨rfl, rfl, rfl, by decide +kernel, rfl, by decide +kernel, by decide +kernel⟩
abbrev ns__law_tag : List Str := ["_law_value"]
theorem sc__law_tag : FnScope ns__law_tag ["_law_value"] (defScope s__law_tag) := ⟨rfl, rfl, rfl, by decide +kernel, rfl, by decide +kernel, by decide +kernel⟩
abbrev ns__law_entry : List Str := ["_law_rooms", "_law_index"]
theorem sc__law_entry : FnScope ns__law_entry ["_law_rooms"] (defScope s__law_entry) := ⟨rfl, rfl, rfl, by decide +kernel, rfl, by decide +kernel, by decide +kernel⟩
abbrev ns__law_due : List Str := ["_law_kind", "_law_rooms", "_law_home", "_law_room"]
theorem sc__law_due : FnScope ns__law_due ["_law_kind", "_law_rooms", "_law_home"] (defScope s__law_due) := ⟨rfl, rfl, rfl, by decide +kernel, rfl, by decide +kernel, by decide +kernel⟩
abbrev ns_is_whole : List Str := ["value"]
theorem sc_is_whole : FnScope ns_is_whole ["value"] (defScope s_is_whole) := ⟨rfl, rfl, rfl, by decide +kernel, rfl, by decide +kernel, by decide +kernel⟩
abbrev ns_is_tag : List Str := ["value"]
theorem sc_is_tag : FnScope ns_is_tag ["value"] (defScope s_is_tag) := ⟨rfl, rfl, rfl, by decide +kernel, rfl, by decide +kernel, by decide +kernel⟩
abbrev ns_check_rooms : List Str := ["rooms", "index", "room"]
theorem sc_check_rooms : FnScope ns_check_rooms ["rooms"] (defScope s_check_rooms) := ⟨rfl, rfl, rfl, by decide +kernel, rfl, by decide +kernel, by decide +kernel⟩
abbrev ns_check_room : List Str := ["room"]
theorem sc_check_room : FnScope ns_check_room ["room"] (defScope s_check_room) := ⟨rfl, rfl, rfl, by decide +kernel, rfl, by decide +kernel, by decide +kernel⟩
abbrev ns_is_arriving : List Str := ["row"]
theorem sc_is_arriving : FnScope ns_is_arriving ["row"] (defScope s_is_arriving) := ⟨rfl, rfl, rfl, by decide +kernel, rfl, by decide +kernel, by decide +kernel⟩
abbrev ns_is_leaving : List Str := ["row"]
theorem sc_is_leaving : FnScope ns_is_leaving ["row"] (defScope s_is_leaving) := ⟨rfl, rfl, rfl, by decide +kernel, rfl, by decide +kernel, by decide +kernel⟩
abbrev ns_check_rows : List Str := ["part", "rows", "fits", "seen", "index", "row"]
theorem sc_check_rows : FnScope ns_check_rows ["part", "rows", "fits"] (defScope s_check_rows) := ⟨rfl, rfl, rfl, by decide +kernel, rfl, by decide +kernel, by decide +kernel⟩
abbrev ns_Port___init__ : List Str := ["self", "arriving", "leaving", "other", "bare", "tag", "room", "kept"]
theorem sc_Port___init__ : FnScope ns_Port___init__ ["self", "arriving", "leaving", "other", "bare"] (defScope s_Port___init__) := ⟨rfl, rfl, rfl, by decide +kernel, rfl, by decide +kernel, by decide +kernel⟩
abbrev ns_Trunk___init__ : List Str := ["self", "rooms", "native", "exits", "room"]
theorem sc_Trunk___init__ : FnScopeS ns_Trunk___init__ ["self", "rooms", "native"] (defScope s_Trunk___init__) := ⟨rfl, rfl, rfl, by decide +kernel, rfl, by decide +kernel, by decide +kernel, rfl, rfl⟩
abbrev ns_Loose___init__ : List Str := ["self", "rooms", "native"]
theorem sc_Loose___init__ : FnScopeS ns_Loose___init__ ["self", "rooms", "native"] (defScope s_Loose___init__) := ⟨rfl, rfl, rfl, by decide +kernel, rfl, by decide +kernel, by decide +kernel, rfl, rfl⟩
abbrev ns__law_made : List Str := ["_law_kind", "_law_rooms", "_law_home"]
theorem sc__law_made : FnScope ns__law_made ["_law_kind", "_law_rooms", "_law_home"] (defScope s__law_made) := ⟨rfl, rfl, rfl, by decide +kernel, rfl, by decide +kernel, by decide +kernel⟩
abbrev ns__law_equal : List Str := ["_law_one_here", "_law_second", "_law_left", "_law_right"]
theorem sc__law_equal : FnScope ns__law_equal ["_law_one_here", "_law_second"] (defScope s__law_equal) := ⟨rfl, rfl, rfl, by decide +kernel, rfl, by decide +kernel, by decide +kernel⟩
abbrev ns__law_told : List Str := ["_law_kind", "_law_rooms", "_law_home", "_law_passed", "_law_port", "e"]
theorem sc__law_told : FnScope ns__law_told ["_law_kind", "_law_rooms", "_law_home"] (defScope s__law_told) := ⟨rfl, rfl, rfl, by decide +kernel, rfl, by decide +kernel, by decide +kernel⟩
abbrev ns_Plain___init__ : List Str := ["self", "room"]
theorem sc_Plain___init__ : FnScopeS ns_Plain___init__ ["self", "room"] (defScope s_Plain___init__) := ⟨rfl, rfl, rfl, by decide +kernel, rfl, by decide +kernel, by decide +kernel, rfl, rfl⟩
abbrev ns_Tunnel___init__ : List Str := ["self", "room"]
theorem sc_Tunnel___init__ : FnScopeS ns_Tunnel___init__ ["self", "room"] (defScope s_Tunnel___init__) := ⟨rfl, rfl, rfl, by decide +kernel, rfl, by decide +kernel, by decide +kernel, rfl, rfl⟩
abbrev ns__law_single : List Str := ["_law_kind", "_law_room", "e"]
theorem sc__law_single : FnScope ns__law_single ["_law_kind", "_law_room"] (defScope s__law_single) := ⟨rfl, rfl, rfl, by decide +kernel, rfl, by decide +kernel, by decide +kernel⟩
abbrev ns_law : List Str := ["_law_script", "_law_drawn", "_law_wrong", "_law_turn", "_law_kind", "_law_rooms", "_law_home", "_law_room", "_law_due_here"]
theorem sc_law : FnScope ns_law ["_law_script"] (defScope s_law) := ⟨rfl, rfl, rfl, by decide +kernel, rfl, by decide +kernel, by decide +kernel⟩
abbrev s_x_BadTag : Stmt := inClass (topS 5) 0
theorem sc_x_BadTag : FnScope ["self", "value"] ["self", "value"] (defScope s_x_BadTag) := ⟨rfl, rfl, rfl, by decide +kernel, rfl, by decide +kernel, by decide +kernel⟩
abbrev s_x_BadEntry : Stmt := inClass (topS 6) 0
theorem sc_x_BadEntry : FnScope ["self", "part", "index"] ["self", "part", "index"] (defScope s_x_BadEntry) := ⟨rfl, rfl, rfl, by decide +kernel, rfl, by decide +kernel, by decide +kernel⟩
structure Ad where
  C_TagError : Addr
  C_BadTag : Addr
  C_BadEntry : Addr
  C_Plain : Addr
  C_Tunnel : Addr
  C_Trunk : Addr
  C_Loose : Addr
  D_is_arriving : Addr
  D_is_leaving : Addr
  nv_is_arriving_is_leaving : D_is_arriving ≠ D_is_leaving
  ne_TagError_BadTag : C_TagError ≠ C_BadTag
  ne_TagError_BadEntry : C_TagError ≠ C_BadEntry
  ne_TagError_Plain : C_TagError ≠ C_Plain
  ne_TagError_Tunnel : C_TagError ≠ C_Tunnel
  ne_TagError_Trunk : C_TagError ≠ C_Trunk
  ne_TagError_Loose : C_TagError ≠ C_Loose
  ne_BadTag_BadEntry : C_BadTag ≠ C_BadEntry
  ne_BadTag_Plain : C_BadTag ≠ C_Plain
  ne_BadTag_Tunnel : C_BadTag ≠ C_Tunnel
  ne_BadTag_Trunk : C_BadTag ≠ C_Trunk
  ne_BadTag_Loose : C_BadTag ≠ C_Loose
  ne_BadEntry_Plain : C_BadEntry ≠ C_Plain
  ne_BadEntry_Tunnel : C_BadEntry ≠ C_Tunnel
  ne_BadEntry_Trunk : C_BadEntry ≠ C_Trunk
  ne_BadEntry_Loose : C_BadEntry ≠ C_Loose
  ne_Plain_Tunnel : C_Plain ≠ C_Tunnel
  ne_Plain_Trunk : C_Plain ≠ C_Trunk
  ne_Plain_Loose : C_Plain ≠ C_Loose
  ne_Tunnel_Trunk : C_Tunnel ≠ C_Trunk
  ne_Tunnel_Loose : C_Tunnel ≠ C_Loose
  ne_Trunk_Loose : C_Trunk ≠ C_Loose
@[simp] theorem Ad.nvq_is_arriving_is_leaving (A : Ad) : (A.D_is_arriving = A.D_is_leaving) = False := eq_false A.nv_is_arriving_is_leaving
@[simp] theorem Ad.nvq_is_leaving_is_arriving (A : Ad) : (A.D_is_leaving = A.D_is_arriving) = False := eq_false (Ne.symm A.nv_is_arriving_is_leaving)
@[simp] theorem Ad.nq_TagError_BadTag (A : Ad) : (A.C_TagError = A.C_BadTag) = False := eq_false A.ne_TagError_BadTag
@[simp] theorem Ad.nq_BadTag_TagError (A : Ad) : (A.C_BadTag = A.C_TagError) = False := eq_false (Ne.symm A.ne_TagError_BadTag)
@[simp] theorem Ad.nq_TagError_BadEntry (A : Ad) : (A.C_TagError = A.C_BadEntry) = False := eq_false A.ne_TagError_BadEntry
@[simp] theorem Ad.nq_BadEntry_TagError (A : Ad) : (A.C_BadEntry = A.C_TagError) = False := eq_false (Ne.symm A.ne_TagError_BadEntry)
@[simp] theorem Ad.nq_TagError_Plain (A : Ad) : (A.C_TagError = A.C_Plain) = False := eq_false A.ne_TagError_Plain
@[simp] theorem Ad.nq_Plain_TagError (A : Ad) : (A.C_Plain = A.C_TagError) = False := eq_false (Ne.symm A.ne_TagError_Plain)
@[simp] theorem Ad.nq_TagError_Tunnel (A : Ad) : (A.C_TagError = A.C_Tunnel) = False := eq_false A.ne_TagError_Tunnel
@[simp] theorem Ad.nq_Tunnel_TagError (A : Ad) : (A.C_Tunnel = A.C_TagError) = False := eq_false (Ne.symm A.ne_TagError_Tunnel)
@[simp] theorem Ad.nq_TagError_Trunk (A : Ad) : (A.C_TagError = A.C_Trunk) = False := eq_false A.ne_TagError_Trunk
@[simp] theorem Ad.nq_Trunk_TagError (A : Ad) : (A.C_Trunk = A.C_TagError) = False := eq_false (Ne.symm A.ne_TagError_Trunk)
@[simp] theorem Ad.nq_TagError_Loose (A : Ad) : (A.C_TagError = A.C_Loose) = False := eq_false A.ne_TagError_Loose
@[simp] theorem Ad.nq_Loose_TagError (A : Ad) : (A.C_Loose = A.C_TagError) = False := eq_false (Ne.symm A.ne_TagError_Loose)
@[simp] theorem Ad.nq_BadTag_BadEntry (A : Ad) : (A.C_BadTag = A.C_BadEntry) = False := eq_false A.ne_BadTag_BadEntry
@[simp] theorem Ad.nq_BadEntry_BadTag (A : Ad) : (A.C_BadEntry = A.C_BadTag) = False := eq_false (Ne.symm A.ne_BadTag_BadEntry)
@[simp] theorem Ad.nq_BadTag_Plain (A : Ad) : (A.C_BadTag = A.C_Plain) = False := eq_false A.ne_BadTag_Plain
@[simp] theorem Ad.nq_Plain_BadTag (A : Ad) : (A.C_Plain = A.C_BadTag) = False := eq_false (Ne.symm A.ne_BadTag_Plain)
@[simp] theorem Ad.nq_BadTag_Tunnel (A : Ad) : (A.C_BadTag = A.C_Tunnel) = False := eq_false A.ne_BadTag_Tunnel
@[simp] theorem Ad.nq_Tunnel_BadTag (A : Ad) : (A.C_Tunnel = A.C_BadTag) = False := eq_false (Ne.symm A.ne_BadTag_Tunnel)
@[simp] theorem Ad.nq_BadTag_Trunk (A : Ad) : (A.C_BadTag = A.C_Trunk) = False := eq_false A.ne_BadTag_Trunk
@[simp] theorem Ad.nq_Trunk_BadTag (A : Ad) : (A.C_Trunk = A.C_BadTag) = False := eq_false (Ne.symm A.ne_BadTag_Trunk)
@[simp] theorem Ad.nq_BadTag_Loose (A : Ad) : (A.C_BadTag = A.C_Loose) = False := eq_false A.ne_BadTag_Loose
@[simp] theorem Ad.nq_Loose_BadTag (A : Ad) : (A.C_Loose = A.C_BadTag) = False := eq_false (Ne.symm A.ne_BadTag_Loose)
@[simp] theorem Ad.nq_BadEntry_Plain (A : Ad) : (A.C_BadEntry = A.C_Plain) = False := eq_false A.ne_BadEntry_Plain
@[simp] theorem Ad.nq_Plain_BadEntry (A : Ad) : (A.C_Plain = A.C_BadEntry) = False := eq_false (Ne.symm A.ne_BadEntry_Plain)
@[simp] theorem Ad.nq_BadEntry_Tunnel (A : Ad) : (A.C_BadEntry = A.C_Tunnel) = False := eq_false A.ne_BadEntry_Tunnel
@[simp] theorem Ad.nq_Tunnel_BadEntry (A : Ad) : (A.C_Tunnel = A.C_BadEntry) = False := eq_false (Ne.symm A.ne_BadEntry_Tunnel)
@[simp] theorem Ad.nq_BadEntry_Trunk (A : Ad) : (A.C_BadEntry = A.C_Trunk) = False := eq_false A.ne_BadEntry_Trunk
@[simp] theorem Ad.nq_Trunk_BadEntry (A : Ad) : (A.C_Trunk = A.C_BadEntry) = False := eq_false (Ne.symm A.ne_BadEntry_Trunk)
@[simp] theorem Ad.nq_BadEntry_Loose (A : Ad) : (A.C_BadEntry = A.C_Loose) = False := eq_false A.ne_BadEntry_Loose
@[simp] theorem Ad.nq_Loose_BadEntry (A : Ad) : (A.C_Loose = A.C_BadEntry) = False := eq_false (Ne.symm A.ne_BadEntry_Loose)
@[simp] theorem Ad.nq_Plain_Tunnel (A : Ad) : (A.C_Plain = A.C_Tunnel) = False := eq_false A.ne_Plain_Tunnel
@[simp] theorem Ad.nq_Tunnel_Plain (A : Ad) : (A.C_Tunnel = A.C_Plain) = False := eq_false (Ne.symm A.ne_Plain_Tunnel)
@[simp] theorem Ad.nq_Plain_Trunk (A : Ad) : (A.C_Plain = A.C_Trunk) = False := eq_false A.ne_Plain_Trunk
@[simp] theorem Ad.nq_Trunk_Plain (A : Ad) : (A.C_Trunk = A.C_Plain) = False := eq_false (Ne.symm A.ne_Plain_Trunk)
@[simp] theorem Ad.nq_Plain_Loose (A : Ad) : (A.C_Plain = A.C_Loose) = False := eq_false A.ne_Plain_Loose
@[simp] theorem Ad.nq_Loose_Plain (A : Ad) : (A.C_Loose = A.C_Plain) = False := eq_false (Ne.symm A.ne_Plain_Loose)
@[simp] theorem Ad.nq_Tunnel_Trunk (A : Ad) : (A.C_Tunnel = A.C_Trunk) = False := eq_false A.ne_Tunnel_Trunk
@[simp] theorem Ad.nq_Trunk_Tunnel (A : Ad) : (A.C_Trunk = A.C_Tunnel) = False := eq_false (Ne.symm A.ne_Tunnel_Trunk)
@[simp] theorem Ad.nq_Tunnel_Loose (A : Ad) : (A.C_Tunnel = A.C_Loose) = False := eq_false A.ne_Tunnel_Loose
@[simp] theorem Ad.nq_Loose_Tunnel (A : Ad) : (A.C_Loose = A.C_Tunnel) = False := eq_false (Ne.symm A.ne_Tunnel_Loose)
@[simp] theorem Ad.nq_Trunk_Loose (A : Ad) : (A.C_Trunk = A.C_Loose) = False := eq_false A.ne_Trunk_Loose
@[simp] theorem Ad.nq_Loose_Trunk (A : Ad) : (A.C_Loose = A.C_Trunk) = False := eq_false (Ne.symm A.ne_Trunk_Loose)
abbrev cs_Port (A : Ad) : List Addr := [A.C_Plain, A.C_Tunnel, A.C_Trunk, A.C_Loose]
abbrev cs_Trunk (A : Ad) : List Addr := [A.C_Trunk, A.C_Loose]
abbrev cs_Loose (A : Ad) : List Addr := [A.C_Loose]
abbrev cs_Plain (A : Ad) : List Addr := [A.C_Plain]
abbrev cs_Single (A : Ad) : List Addr := [A.C_Plain, A.C_Tunnel]
abbrev cs_Tunnel (A : Ad) : List Addr := [A.C_Tunnel]
def Ad.mt_BadTag (A : Ad) : Addr → Option Bool := fun C => if C = A.C_BadTag then some true else if C = A.C_BadEntry then some false else none
def Ad.mt_TagError (A : Ad) : Addr → Option Bool := fun C => if C = A.C_BadTag then some true else if C = A.C_BadEntry then some true else none
def Ad.is_BadEntry (A : Ad) : Addr → Option Bool := fun C => if C = A.C_BadTag then some false else if C = A.C_BadEntry then some true else none
def Ad.is_BadTag (A : Ad) : Addr → Option Bool := fun C => if C = A.C_BadTag then some true else if C = A.C_BadEntry then some false else none
def Ad.has_index (A : Ad) : Addr → Bool := fun C => decide (C = A.C_BadEntry)
def Ad.has_part (A : Ad) : Addr → Bool := fun C => decide (C = A.C_BadEntry)
def Ad.has_value (A : Ad) : Addr → Bool := fun C => decide (C = A.C_BadTag)
structure Txt (P : Program) (K : PySem.W.Frag) (mg : Str → Option Value) (A : Ad) : Type where
  d__law_draws : FnA K mg "_law_draws" s__law_draws ["_law_script"]
  d__law_next : FnA K mg "_law_next" s__law_next ["_law_drawn", "_law_many"]
  d__law_one : FnA K mg "_law_one" s__law_one ["_law_drawn", "_law_items"]
  d__law_rooms_drawn : FnA K mg "_law_rooms_drawn" s__law_rooms_drawn ["_law_drawn"]
  d__law_whole : FnA K mg "_law_whole" s__law_whole ["_law_value", "_law_low", "_law_high"]
  d__law_tag : FnA K mg "_law_tag" s__law_tag ["_law_value"]
  d__law_entry : FnA K mg "_law_entry" s__law_entry ["_law_rooms"]
  d__law_due : FnA K mg "_law_due" s__law_due ["_law_kind", "_law_rooms", "_law_home"]
  d_is_whole : FnA K mg "is_whole" s_is_whole ["value"]
  d_is_tag : FnA K mg "is_tag" s_is_tag ["value"]
  d_check_rooms : FnA K mg "check_rooms" s_check_rooms ["rooms"]
  d_check_room : FnA K mg "check_room" s_check_room ["room"]
  d_is_arriving : FnA K mg "is_arriving" s_is_arriving ["row"]
  d_is_leaving : FnA K mg "is_leaving" s_is_leaving ["row"]
  d_check_rows : FnA K mg "check_rows" s_check_rows ["part", "rows", "fits"]
  d_Port___init__ : MeA K "__init__" "Port.__init__" s_Port___init__
  d_Trunk___init__ : MeS P K mg "__init__" "Trunk.__init__" s_Trunk___init__ A.C_Trunk "self"
  d_Loose___init__ : MeS P K mg "__init__" "Loose.__init__" s_Loose___init__ A.C_Loose "self"
  d__law_made : FnA K mg "_law_made" s__law_made ["_law_kind", "_law_rooms", "_law_home"]
  d__law_equal : FnA K mg "_law_equal" s__law_equal ["_law_one_here", "_law_second"]
  d__law_told : FnA K mg "_law_told" s__law_told ["_law_kind", "_law_rooms", "_law_home"]
  d_Plain___init__ : MeS P K mg "__init__" "Plain.__init__" s_Plain___init__ A.C_Plain "self"
  d_Tunnel___init__ : MeS P K mg "__init__" "Tunnel.__init__" s_Tunnel___init__ A.C_Tunnel "self"
  d__law_single : FnA K mg "_law_single" s__law_single ["_law_kind", "_law_room"]
  kd_Port___init__ : KwdN K d_Port___init__.fd.kwdefaults ["other", "bare"]
  kd_Trunk___init__ : KwdN K d_Trunk___init__.fd.kwdefaults ["native"]
  u_Loose_Loose : SupC K A.C_Loose A.C_Loose d_Trunk___init__.f
  u_Loose_Trunk : SupC K A.C_Loose A.C_Trunk d_Port___init__.f
  u_Plain_Plain : SupC K A.C_Plain A.C_Plain d_Port___init__.f
  u_Trunk_Trunk : SupC K A.C_Trunk A.C_Trunk d_Port___init__.f
  u_Tunnel_Tunnel : SupC K A.C_Tunnel A.C_Tunnel d_Port___init__.f
  v_is_arriving : d_is_arriving.f = A.D_is_arriving
  v_is_leaving : d_is_leaving.f = A.D_is_leaving
  c_Plain : Cls K A.C_Plain
  m_Plain : mg "Plain" = some (.ref A.C_Plain)
  k_Plain : Mk K A.C_Plain d_Plain___init__.f
  c_Tunnel : Cls K A.C_Tunnel
  m_Tunnel : mg "Tunnel" = some (.ref A.C_Tunnel)
  k_Tunnel : Mk K A.C_Tunnel d_Tunnel___init__.f
  c_Trunk : Cls K A.C_Trunk
  m_Trunk : mg "Trunk" = some (.ref A.C_Trunk)
  k_Trunk : Mk K A.C_Trunk d_Trunk___init__.f
  c_Loose : Cls K A.C_Loose
  m_Loose : mg "Loose" = some (.ref A.C_Loose)
  k_Loose : Mk K A.C_Loose d_Loose___init__.f
  n_Loose_bare : NoAttr K A.C_Loose "bare"
  n_Loose_entries : NoAttr K A.C_Loose "entries"
  n_Loose_exits : NoAttr K A.C_Loose "exits"
  n_Loose_inner : NoAttr K A.C_Loose "inner"
  n_Loose_native : NoAttr K A.C_Loose "native"
  n_Loose_other : NoAttr K A.C_Loose "other"
  n_Loose_rooms : NoAttr K A.C_Loose "rooms"
  n_Plain_bare : NoAttr K A.C_Plain "bare"
  n_Plain_entries : NoAttr K A.C_Plain "entries"
  n_Plain_exits : NoAttr K A.C_Plain "exits"
  n_Plain_other : NoAttr K A.C_Plain "other"
  n_Plain_room : NoAttr K A.C_Plain "room"
  n_Trunk_bare : NoAttr K A.C_Trunk "bare"
  n_Trunk_entries : NoAttr K A.C_Trunk "entries"
  n_Trunk_exits : NoAttr K A.C_Trunk "exits"
  n_Trunk_native : NoAttr K A.C_Trunk "native"
  n_Trunk_other : NoAttr K A.C_Trunk "other"
  n_Trunk_rooms : NoAttr K A.C_Trunk "rooms"
  n_Tunnel_bare : NoAttr K A.C_Tunnel "bare"
  n_Tunnel_entries : NoAttr K A.C_Tunnel "entries"
  n_Tunnel_exits : NoAttr K A.C_Tunnel "exits"
  n_Tunnel_inner : NoAttr K A.C_Tunnel "inner"
  n_Tunnel_other : NoAttr K A.C_Tunnel "other"
  n_Tunnel_room : NoAttr K A.C_Tunnel "room"
  x_BadTag : ExA K mg "BadTag" "BadTag.__init__" s_x_BadTag ["self", "value"] A.C_BadTag
  n_BadTag_value : PySem.W.findIn K (.ref A.C_BadTag) "value" = some none
  x_BadEntry : ExA K mg "BadEntry" "BadEntry.__init__" s_x_BadEntry ["self", "part", "index"] A.C_BadEntry
  n_BadEntry_part : PySem.W.findIn K (.ref A.C_BadEntry) "part" = some none
  n_BadEntry_index : PySem.W.findIn K (.ref A.C_BadEntry) "index" = some none
  z_all : mg "all" = none
  z_bool : mg "bool" = none
  z_enumerate : mg "enumerate" = none
  z_int : mg "int" = none
  z_isinstance : mg "isinstance" = none
  z_len : mg "len" = none
  z_list : mg "list" = none
  z_min : mg "min" = none
  z_range : mg "range" = none
  z_sorted : mg "sorted" = none
  z_str : mg "str" = none
  z_tuple : mg "tuple" = none
  z_zip : mg "zip" = none
  k_MOST_ENTRIES : ∃ t, mg "MOST_ENTRIES" = some (.int 8 t)
  k_MOST_TAG : ∃ t, mg "MOST_TAG" = some (.int 4094 t)
  s_BadEntry_BadTag : PySem.W.kitOne K (.ref A.C_BadTag) (.ref A.C_BadEntry) = some false
  s_BadEntry_BadEntry : PySem.W.kitOne K (.ref A.C_BadEntry) (.ref A.C_BadEntry) = some true
  t_BadEntry : mg "BadEntry" = some (.ref A.C_BadEntry)
  s_BadTag_BadTag : PySem.W.kitOne K (.ref A.C_BadTag) (.ref A.C_BadTag) = some true
  s_BadTag_BadEntry : PySem.W.kitOne K (.ref A.C_BadEntry) (.ref A.C_BadTag) = some false
  ec_BadTag : ExcC K A.C_BadTag
  ec_BadEntry : ExcC K A.C_BadEntry
  t_BadTag : mg "BadTag" = some (.ref A.C_BadTag)
  e_BadTag_BadTag : PySem.W.exmOne K (.ref A.C_BadTag) (.ref A.C_BadTag) = some true
  e_BadTag_BadEntry : PySem.W.exmOne K (.ref A.C_BadEntry) (.ref A.C_BadTag) = some false
  t_TagError : mg "TagError" = some (.ref A.C_TagError)
  e_TagError_BadTag : PySem.W.exmOne K (.ref A.C_BadTag) (.ref A.C_TagError) = some true
  e_TagError_BadEntry : PySem.W.exmOne K (.ref A.C_BadEntry) (.ref A.C_TagError) = some true
section
variable {P : Program} {w : World} {K : PySem.W.Frag} {mg : Str → Option Value} {base : Heap} {dr rs cl : Addr} {A : Ad}
theorem Txt.mt_BadTag (T : Txt P K mg A) : ∀ C b, A.mt_BadTag C = some b → PySem.W.exmOne K (.ref C) (.ref A.C_BadTag) = some b := fun C b h => by
  unfold Ad.mt_BadTag at h
  split at h
  · rename_i e; cases h; rw [e]; exact T.e_BadTag_BadTag
  split at h
  · rename_i e; cases h; rw [e]; exact T.e_BadTag_BadEntry
  cases h
theorem Txt.mt_TagError (T : Txt P K mg A) : ∀ C b, A.mt_TagError C = some b → PySem.W.exmOne K (.ref C) (.ref A.C_TagError) = some b := fun C b h => by
  unfold Ad.mt_TagError at h
  split at h
  · rename_i e; cases h; rw [e]; exact T.e_TagError_BadTag
  split at h
  · rename_i e; cases h; rw [e]; exact T.e_TagError_BadEntry
  cases h
theorem Txt.is_BadEntry (T : Txt P K mg A) : ∀ C b, A.is_BadEntry C = some b → ExcC K C ∧ PySem.W.kitOne K (.ref C) (.ref A.C_BadEntry) = some b := fun C b h => by
  unfold Ad.is_BadEntry at h
  split at h
  · rename_i e; cases h; rw [e]; exact ⟨T.ec_BadTag, T.s_BadEntry_BadTag⟩
  split at h
  · rename_i e; cases h; rw [e]; exact ⟨T.ec_BadEntry, T.s_BadEntry_BadEntry⟩
  cases h
theorem Txt.is_BadTag (T : Txt P K mg A) : ∀ C b, A.is_BadTag C = some b → ExcC K C ∧ PySem.W.kitOne K (.ref C) (.ref A.C_BadTag) = some b := fun C b h => by
  unfold Ad.is_BadTag at h
  split at h
  · rename_i e; cases h; rw [e]; exact ⟨T.ec_BadTag, T.s_BadTag_BadTag⟩
  split at h
  · rename_i e; cases h; rw [e]; exact ⟨T.ec_BadEntry, T.s_BadTag_BadEntry⟩
  cases h
theorem Txt.has_index (T : Txt P K mg A) : ∀ C, A.has_index C = true → XfC K C ∧ PySem.W.findIn K (.ref C) "index" = some none := fun C h => by
  unfold Ad.has_index at h
  simp only [Bool.or_eq_true, decide_eq_true_eq] at h
  rcases h with rfl
  · exact ⟨T.x_BadEntry.xf, T.n_BadEntry_index⟩
theorem Txt.has_part (T : Txt P K mg A) : ∀ C, A.has_part C = true → XfC K C ∧ PySem.W.findIn K (.ref C) "part" = some none := fun C h => by
  unfold Ad.has_part at h
  simp only [Bool.or_eq_true, decide_eq_true_eq] at h
  rcases h with rfl
  · exact ⟨T.x_BadEntry.xf, T.n_BadEntry_part⟩
theorem Txt.has_value (T : Txt P K mg A) : ∀ C, A.has_value C = true → XfC K C ∧ PySem.W.findIn K (.ref C) "value" = some none := fun C h => by
  unfold Ad.has_value at h
  simp only [Bool.or_eq_true, decide_eq_true_eq] at h
  rcases h with rfl
  · exact ⟨T.x_BadTag.xf, T.n_BadTag_value⟩
theorem ok_x_BadTag (T : Txt P K mg A) : FnOk P w K mg base CX0 1 T.x_BadTag.fI T.x_BadTag.fd ["self", "value"] (spX A.C_BadTag ["value"]) := by
  refine T.x_BadTag.F.ok sc_x_BadTag (fun vs H Q E h => ?_) fun cdv A1 outer s H vs Q E hr h => ?_
  · obtain ⟨a, ys, rfl, hl, _⟩ := h
    rw [List.length_cons, hl]
    rfl
  obtain ⟨a, ys, rfl, hl, ha, q⟩ := h
  obtain ⟨y0, rfl⟩ : ∃ y0, ys = [y0] := by
    match ys, hl with
    | [y0], _ => exact ⟨y0, rfl⟩
  refine ⟨_, (pss_one (ps_ost (pv 0) (pv 1))), ?_⟩
  refine ⟨_, rfl, _, rfl, a, A.C_BadTag, rfl, T.x_BadTag.T, T.n_BadTag_value, .inl ⟨ha, fun dx hd ne => ?_⟩⟩
  exact q dx _ hd upd_same (by rw [upd_ne ne, upd_same]; rfl) fun b o nb e => by rw [upd_ne nb, upd_ne (ne_of_none e hd)]; exact e
theorem ok_x_BadEntry (T : Txt P K mg A) : FnOk P w K mg base CX0 1 T.x_BadEntry.fI T.x_BadEntry.fd ["self", "part", "index"] (spX A.C_BadEntry ["part", "index"]) := by
  refine T.x_BadEntry.F.ok sc_x_BadEntry (fun vs H Q E h => ?_) fun cdv A1 outer s H vs Q E hr h => ?_
  · obtain ⟨a, ys, rfl, hl, _⟩ := h
    rw [List.length_cons, hl]
    rfl
  obtain ⟨a, ys, rfl, hl, ha, q⟩ := h
  obtain ⟨y0, y1, rfl⟩ : ∃ y0 y1, ys = [y0, y1] := by
    match ys, hl with
    | [y0, y1], _ => exact ⟨y0, y1, rfl⟩
  refine ⟨_, (pss_cons (ps_ost (pv 0) (pv 1)) (pss_one (ps_ost (pv 0) (pv 2)))), ?_⟩
  refine ⟨_, rfl, _, rfl, a, A.C_BadEntry, rfl, T.x_BadEntry.T, T.n_BadEntry_part, .inl ⟨ha, fun dx hd ne => ?_⟩⟩
  refine ⟨_, rfl, _, rfl, a, A.C_BadEntry, rfl, T.x_BadEntry.T, T.n_BadEntry_index, .inr ⟨dx, _, upd_same, by rw [upd_ne ne, upd_same], by simp, ?_⟩⟩
  exact q dx _ hd (by rw [upd_ne (Ne.symm ne), upd_same]) (by rw [upd_same]; rfl) fun b o nb e => by rw [upd_ne (ne_of_none e hd), upd_ne nb, upd_ne (ne_of_none e hd)]; exact e
theorem Txt.vm_is_arriving (T : Txt P K mg A) : mg "is_arriving" = some (.ref A.D_is_arriving) := by rw [← T.v_is_arriving]; exact T.d_is_arriving.m
theorem Txt.vm_is_leaving (T : Txt P K mg A) : mg "is_leaving" = some (.ref A.D_is_leaving) := by rw [← T.v_is_leaving]; exact T.d_is_leaving.m
theorem kb_Port_2_bare (T : Txt P K mg A) : KBn K T.d_Port___init__.fd ["self", "arriving", "leaving", "other", "bare"] 3 ["bare"] (fun us ws => us ++ (Value.none :: ws)) (fun vs zs => vs ++ (V.non :: zs)) :=
  kb_funL T.d_Port___init__.F T.kd_Port___init__ (ms := ["other"]) (by decide) (fun _ _ _ _ _ _ us ws h1 h2 => match us, h1, ws, h2 with
  | [_, _, _], _, [_], _ => ⟨_, _, _, _, _, _, rfl, rfl, rfl⟩) gr_non
theorem kb_Trunk_1_native (T : Txt P K mg A) : KBn K T.d_Trunk___init__.fd ["self", "rooms", "native"] 2 ["native"] (fun us ws => us ++ ws) (fun vs zs => vs ++ zs) :=
  kb_sup T.d_Trunk___init__ (fun _ _ _ _ _ _ _ us ws h1 h2 => match us, h1, ws, h2 with
  | [_, _], _, [_], _ => rfl) gr_app
theorem kb_Loose_1_native (T : Txt P K mg A) : KBn K T.d_Loose___init__.fd ["self", "rooms", "native"] 2 ["native"] (fun us ws => us ++ ws) (fun vs zs => vs ++ zs) :=
  kb_sup T.d_Loose___init__ (fun _ _ _ _ _ _ _ us ws h1 h2 => match us, h1, ws, h2 with
  | [_, _], _, [_], _ => rfl) gr_app
theorem kb_Plain_1_ (T : Txt P K mg A) : KBn K T.d_Plain___init__.fd ["self", "room"] 2 [] (fun us ws => us ++ ws) (fun vs zs => vs ++ zs) :=
  kb_sup T.d_Plain___init__ (fun _ _ _ _ _ _ _ us ws h1 h2 => match us, h1, ws, h2 with
  | [_, _], _, [], _ => rfl) gr_app
theorem kb_Port_2_other_bare (T : Txt P K mg A) : KBn K T.d_Port___init__.fd ["self", "arriving", "leaving", "other", "bare"] 3 ["other", "bare"] (fun us ws => us ++ ws) (fun vs zs => vs ++ zs) :=
  kb_fun T.d_Port___init__.F (fun _ _ _ _ _ _ us ws h1 h2 => match us, h1, ws, h2 with
  | [_, _, _], _, [_, _], _ => rfl) gr_app
theorem kb_Tunnel_1_ (T : Txt P K mg A) : KBn K T.d_Tunnel___init__.fd ["self", "room"] 2 [] (fun us ws => us ++ ws) (fun vs zs => vs ++ zs) :=
  kb_sup T.d_Tunnel___init__ (fun _ _ _ _ _ _ _ us ws h1 h2 => match us, h1, ws, h2 with
  | [_, _], _, [], _ => rfl) gr_app
theorem kb_Trunk_1_ (T : Txt P K mg A) : KBn K T.d_Trunk___init__.fd ["self", "rooms", "native"] 2 [] (fun us ws => us ++ (Value.none :: ws)) (fun vs zs => vs ++ (V.non :: zs)) :=
  kb_supL T.d_Trunk___init__ T.kd_Trunk___init__ (ms := ["native"]) (by decide) (fun _ _ _ _ _ _ _ us ws h1 h2 => match us, h1, ws, h2 with
  | [_, _], _, [], _ => ⟨_, _, _, _, _, _, rfl, rfl, rfl⟩) gr_non
theorem ok__law_next {f : Addr} {fd : FuncData} (F : Fun K "_law_next" "_law_next" s__law_next f fd) (zI : mg "int" = none) (zL : mg "len" = none) : FnOk P w K mg base (L2.CX P w) 1 f fd ["_law_drawn", "_law_many"] (spF (BB K dr rs cl) 2 nextF) := by
  refine F.okX sc__law_next (fun vs H Q E h => h.1) fun cdv A outer s H vs Q E hr h => ?_
  obtain ⟨_, os, S, Hf, hx, hn, d, z, q⟩ := h
  unfold nextF at q
  split at q
  · rename_i m
    split at q
    · rename_i ok
      obtain ⟨v, v2, rfl, h1, h2⟩ := as2 z
      cases (show Rep _ _ _ v .drw from h1)
      cases (show Rep _ _ _ v2 (.int m) from h2)
      have nd := sc__law_next.nd
      refine ⟨_, pss_cons (ps_asg (pv 0) (pg_lst (n := 3) rfl (pgs_cons (pg_name (i := 2) nd rfl (.inl rfl)) (pgs_cons (pg_name (i := 3) nd rfl (.inl rfl)) (pgs_cons (pg_name (i := 4) nd rfl (.inl rfl)) pgs_nil)))))
        (pss_cons (ps_set (i := 5) nd rfl (.inl rfl) (pe_op op_modN (pe_callTy call_int1 (by rfl) zI (by decide +kernel) (pa_cons (pv 3) pa_nil)) (pe_callB call_len_seq (by rfl) zL PySem.boot_len (pa_cons (pv 2) pa_nil))))
        (pss_cons (ps_asg (pe_op op_add (pv 3) pe_int) (pg_sub (pv 0) pe_int set_list))
        (pss_cons (ps_if (pt_cmpR op_gt (pe_ix ix_list (pv 4) (pv 5) (fun _ _ => rfl)) pe_int (nomark _))
          (pss_cons (ps_set (i := 6) nd rfl (.inl rfl) (pe_op op_modN (pe_callTy call_int1 (by rfl) zI (by decide +kernel) (pa_cons (pe_ix ix_list (pv 4) (pv 5) (fun _ _ => rfl)) pa_nil)) (pv 1)))
            (pss_cons (ps_asg (pe_op op_fdivN (pe_ix ix_list (pv 4) (pv 5) (fun _ _ => rfl)) (pv 1)) (pg_sub (pv 4) (pv 5) set_list)) (pss_one (ps_ret (pv 6))))) pss_nil)
        (pss_cons (ps_set (i := 7) nd rfl (.inl rfl) (pe_op op_modN (pe_op op_pow (pe_op op_add (pe_op op_add (pe_op op_modN (pe_callTy call_int1 (by rfl) zI (by decide +kernel) (pa_cons (pe_ix ix_list (pv 2) (pv 5) (fun _ _ => rfl)) pa_nil)) pe_int) (pe_op op_mul pe_int (pv 3))) pe_int) pe_int) pe_int))
        (pss_cons (ps_set (i := 8) nd rfl (.inl rfl) (pe_op op_modN (pe_op op_pow (pe_op op_add (pe_op op_add (pv 7) (pe_op op_mul (pe_op op_mul pe_int (pv 3)) (pv 3))) pe_int) pe_int) pe_int))
        (pss_one (ps_ret (pe_op op_modN (pe_op op_modN (pe_callTy call_int1 (by rfl) zI (by decide +kernel) (pa_cons (pe_op op_add (pe_op op_mul (pv 8) pe_int) (pv 7)) pa_nil)) pe_int) (pv 1))))))))), ?_⟩
      obtain ⟨k1, k2, k3, k4, k5, k6, k7⟩ := ok
      obtain ⟨j, ej⟩ : ∃ j : Nat, S.turn.fmod (S.cells.length : Int) = (j : Int) := ⟨_, (Int.toNat_of_nonneg (fmod_rng (by omega)).1).symm⟩
      have ejs : spotS S = j := by
        unfold spotS
        rw [← Int.fmod_eq_emod_of_nonneg _ (by omega), ej]
        rfl
      have jl : j < S.cells.length := by have := (fmod_rng (a := S.turn) (m := (S.cells.length : Int)) (by omega)).2; omega
      have jr : j < S.rests.length := by omega
      have hdr : H dr = some (.lst [.ref cl, .int S.turn, .ref rs]) := d.dr
      have hrs : H rs = some (.lst (S.rests.map V.int)) := d.rs
      have hcl : H cl = some (.lst (S.cells.map V.int)) := hx _ _ d.cl
      have gC : S.cells[j]? = some (S.cells.getD j 0) := by rw [List.getD_eq_getElem?_getD, List.getElem?_eq_getElem jl]; rfl
      have gR : S.rests[j]? = some (S.rests.getD j 0) := by rw [List.getD_eq_getElem?_getD, List.getElem?_eq_getElem jr]; rfl
      have tC' : atI (S.cells.map V.int) (j : Int) = some (.int (S.cells.getD j 0)) := atI_nat (by rw [List.getElem?_map, gC]; rfl)
      have tR' : atI (S.rests.map V.int) (j : Int) = some (.int (S.rests.getD j 0)) := atI_nat (by rw [List.getElem?_map, gR]; rfl)
      have cdr : cl ≠ dr := by
        intro e
        have := hn.1
        have h2 := d.cl
        rw [show (BB K dr rs cl).cl = (BB K dr rs cl).dr from e] at h2
        rw [h2] at this; cases this
      have crs : cl ≠ rs := by
        intro e
        have := hn.2
        have h2 := d.cl
        rw [show (BB K dr rs cl).cl = (BB K dr rs cl).rs from e] at h2
        rw [h2] at this; cases this
      have hne : rs ≠ dr := fun e => d.ne e.symm
      let H1 : Hp := upd H dr (.lst [.ref cl, .int (S.turn + 1), .ref rs])
      have h1dr : H1 dr = some (.lst [.ref cl, .int (S.turn + 1), .ref rs]) := upd_same
      have h1rs : H1 rs = some (.lst (S.rests.map V.int)) := by show upd H dr _ rs = _; rw [upd_ne hne]; exact hrs
      have h1cl : H1 cl = some (.lst (S.cells.map V.int)) := by show upd H dr _ cl = _; rw [upd_ne cdr]; exact hcl
      have n1 : Nx (BB K dr rs cl) Hf H Hf H1 := by
        refine ⟨Ex.refl _, fun a u e => ?_, fun _ _ z => .inl z, fun a u e q1 q2 => ?_, hn⟩
        · have : a ≠ dr := fun q => by rw [q] at e; rw [hn.1] at e; cases e
          show upd H dr _ a = _
          rw [upd_ne this]; exact hx _ _ e
        · show upd H dr _ a = _
          rw [upd_ne q1]; exact e
      have e5 : (fun i j => V.int (i.fmod j)) S.turn (((S.cells.map V.int).length : Nat) : Int) = V.int (j : Int) := by show V.int _ = _; rw [List.length_map, ej]
      refine ⟨_, rfl, dr, _, rfl, .inl (.inl hdr), rfl, _, _, rfl, _, _, rfl, _, _, rfl, rfl, ?_⟩
      refine ⟨_, rfl, .inl ⟨_, rfl, _, rfl, cl, _, rfl, .inl (.inl (.inl hcl)), S.turn, _, rfl, rfl, ?_, ?_⟩⟩
      · rw [List.length_map]; omega
      refine ⟨_, rfl, S.turn, 1, rfl, rfl, _, rfl, dr, _, 1, 1, rfl, rfl, hdr, rfl, ?_⟩
      refine ⟨_, rfl, _, rfl, rs, _, j, _, rfl, ?_, .inl (.inl h1rs), tR', _, _, rfl, rfl, _, rfl, ?_⟩
      · exact e5
      refine ifB (fun hb => ?_) (fun hb => ?_)
      · have hp : 0 < S.rests.getD (spotS S) 0 := by rw [ejs]; exact of_decide_eq_true hb
        refine ⟨_, rfl, _, rfl, rs, _, j, _, rfl, e5, .inl (.inl h1rs), tR', .inl ⟨_, rfl, _, rfl, _, m, rfl, rfl, by omega, ?_⟩⟩
        refine ⟨_, rfl, _, rfl, rs, _, j, _, rfl, e5, .inl (.inl h1rs), tR', _, rfl, _, m, rfl, rfl, ⟨by omega, by omega⟩, _, rfl, _, rfl, rs, _, _, j, rfl, e5, h1rs, ?_, ?_⟩
        · unfold ixN
          rw [if_pos (by omega), if_pos (by rw [List.length_map]; omega)]; simp
        refine ⟨_, rfl, ?_⟩
        refine q _ Hf _ (n1.trans (H2 := upd H1 rs (.lst ((S.rests.map V.int).set j (.int ((S.rests.getD j 0).fdiv m))))) ?_) ?_ ?_
        · refine ⟨Ex.refl _, fun a u e => ?_, fun _ _ z => .inl z, fun a u e q1 q2 => ?_, hn⟩
          · have : a ≠ rs := fun q => by rw [q] at e; rw [hn.2] at e; cases e
            rw [upd_ne this]; exact n1.exf _ _ e
          · rw [upd_ne q2]; exact e
        · refine ⟨?_, d.cl, ?_, d.ne⟩
          · show upd H1 rs _ dr = some (.lst [.ref cl, .int (nextS S m).turn, .ref rs])
            rw [upd_ne (Ne.symm hne)]; exact h1dr
          · show upd H1 rs _ rs = some (.lst ((nextS S m).rests.map V.int))
            rw [upd_same]
            unfold nextS
            rw [if_pos hp, ejs, List.map_set]
        · show Rep K dr Hf (.int ((S.rests.getD j 0).fmod m)) (.int (nextV S m))
          unfold nextV
          rw [if_pos hp, ejs]
          exact .int _
      · have hp : ¬ 0 < S.rests.getD (spotS S) 0 := by rw [ejs]; exact of_decide_eq_false hb
        refine ⟨_, rfl, _, rfl, cl, _, j, _, rfl, e5, .inl (.inl h1cl), tC', .inl ⟨_, rfl, _, 2147483549, rfl, rfl, (by decide : (2147483549 : Int) ≠ 0), _, rfl, 69621, S.turn, rfl, rfl, .inl ⟨by decide, by decide⟩, _, _, rfl, rfl, _, 9973, rfl, rfl, _, 3, rfl, rfl, ⟨by decide, by decide, ?_⟩, _, 2147483579, rfl, rfl, (by decide : (2147483579 : Int) ≠ 0), ?_⟩⟩
        · have b1 := fmod_rng (a := S.cells.getD j 0) (m := 2147483549) (by decide)
          show ((S.cells.getD j 0).fmod 2147483549 + 69621 * S.turn + 9973).natAbs < 2 ^ 64
          omega
        refine ⟨_, rfl, _, rfl, 4099, S.turn, rfl, rfl, .inl ⟨by decide, by decide⟩, _, rfl, _, S.turn, rfl, rfl, .inr ⟨by omega, by omega⟩, _, _, rfl, rfl, _, 71, rfl, rfl, _, 3, rfl, rfl, ⟨by decide, by decide, ?_⟩, _, 2147483549, rfl, rfl, (by decide : (2147483549 : Int) ≠ 0), ?_⟩
        · have b1 := fmod_rng (a := ((S.cells.getD j 0).fmod 2147483549 + 69621 * S.turn + 9973) ^ 3) (m := 2147483579) (by decide)
          have b2 : S.turn * S.turn ≤ 33554432 * 33554432 := Int.mul_le_mul (by omega) (by omega) k4 (by decide)
          have b3 : 0 ≤ S.turn * S.turn := Int.mul_nonneg k4 k4
          show ((((S.cells.getD j 0).fmod 2147483549 + 69621 * S.turn + 9973) ^ 3).fmod 2147483579 + 4099 * S.turn * S.turn + 71).natAbs < 2 ^ 64
          rw [Int.mul_assoc]
          omega
        refine ⟨_, rfl, _, 2147483423, rfl, rfl, .inr ⟨by decide, by decide⟩, _, rfl, _, _, rfl, rfl, .inl ⟨_, rfl, _, 4611686018427387847, rfl, rfl, (by decide : (4611686018427387847 : Int) ≠ 0), _, rfl, _, m, rfl, rfl, by omega, ?_⟩⟩
        refine q _ Hf H1 n1 ?_ ?_
        · refine ⟨?_, d.cl, ?_, d.ne⟩
          · exact h1dr
          · show H1 rs = some (.lst ((nextS S m).rests.map V.int))
            unfold nextS
            rw [if_neg hp]
            exact h1rs
        · show Rep K dr Hf (.int _) (.int (nextV S m))
          unfold nextV againS mixS
          rw [if_neg hp, ejs]
          exact .int _
    · exact q.elim
  · exact q.elim

theorem ok__law_draws {f : Addr} {fd : FuncData} (F : Fun K "_law_draws" "_law_draws" s__law_draws f fd) (zI : mg "int" = none) (zL : mg "len" = none) (zS : mg "list" = none) : FnOk P w K mg base (L2.CX P w) 1 f fd ["_law_script"] (spDraws K) := by
  refine F.okX sc__law_draws (fun vs H Q E h => ?_) fun cdv A outer s H vs Q E hr h => ?_
  · obtain ⟨a, ns, rfl, _⟩ := h
    rfl
  obtain ⟨a, ns, rfl, hS, hl, q⟩ := h
  have nd := sc__law_draws.nd
  refine ⟨_, pss_cons (ps_set (i := 1) nd rfl (.inl rfl) (pe_op op_cat (pe_callTy call_list_of (by rfl) zS (by decide +kernel) (pa_cons (pe_slice sl_list (pv 0) po_none (po_some pe_int)) pa_nil))
      (pe_op op_rep (pe_lst (pa_cons pe_int pa_nil)) (pe_callTy call_int1 (by rfl) zI (by decide +kernel) (pa_cons (pe_cmpR op_eq (pe_callB call_len_seq (by rfl) zL PySem.boot_len (pa_cons (pv 0) pa_nil)) pe_int (nomark _)) pa_nil)))))
    (pss_one (ps_ret (pe_lst (pa_cons (pv 1) (pa_cons pe_int (pa_cons (pe_lc (own := [("_law_cell", 2)]) rfl nd (pi_list (pv 1)) (blk_of (N := nsDraws) (sc := defScope s__law_draws) rfl rfl ⟨rfl, by decide +kernel, by decide +kernel, by decide +kernel, by decide +kernel⟩)
      (fun _ _ _ _ _ => pg_name (i := 2) nd rfl (.inl rfl)) (fun _ _ _ _ _ => pts_nil) (fun _ _ _ _ _ => pe_op op_mul (pv 2) (pe_callTy call_int1 (by rfl) zI (by decide +kernel) (pa_cons (pe_cmpR op_ge (pv 2) (pe_op op_pow pe_int pe_int) (nomark _)) pa_nil)))) pa_nil)))))), ?_⟩
  refine ⟨_, rfl, 63, rfl, a, _, rfl, hS, fun p1 hp1 => ⟨p1, _, rfl, .inl (SqL.of upd_same), fun p2 hp2 => ⟨(by decide), fun p3 hp3 => ?_⟩⟩⟩
  have n12 : p2 ≠ p1 := fun e => by rw [e, upd_same] at hp2; cases hp2
  have n13 : p3 ≠ p1 := fun e => by rw [e, upd_ne n12.symm, upd_same] at hp3; cases hp3
  have n23 : p3 ≠ p2 := fun e => by rw [e, upd_same] at hp3; cases hp3
  have hp3' : H p3 = none := by rw [upd_ne n23, upd_ne n13] at hp3; exact hp3
  have hp2' : H p2 = none := by rw [upd_ne n12] at hp2; exact hp2
  have hS3 := ex_l (Ex.trans (Ex.new (o := .lst (cutV (ns.map V.int) none (some 63))) hp1) (Ex.trans (Ex.new (o := .lst (cutV (ns.map V.int) none (some 63))) hp2) (Ex.new (o := .lst [V.int 0]) hp3))) hS
  refine ⟨_, rfl, a, _, rfl, .inl hS3, rfl, .inr ⟨_, rfl, ?_⟩⟩
  generalize hk : (if decide (V.int (((ns.map V.int).length : Nat) : Int) = V.int 0) = true then (1 : Int) else 0) = kk
  have hk2 : kk = if ns.length = 0 then 1 else 0 := by
    rw [← hk, List.length_map]
    by_cases e : ns.length = 0
    · rw [if_pos e, if_pos (decide_eq_true (by rw [e]; rfl))]
    · rw [if_neg e, if_neg]
      intro z
      have := of_decide_eq_true z
      injection this with this
      omega
  have hk3 : kk = 0 ∨ kk = 1 := by rw [hk2]; split; exact .inr rfl; exact .inl rfl
  have ecut : cutV (ns.map V.int) none (some 63) = (ns.take 63).map V.int := cut63 hl
  have ecl : cutV (ns.map V.int) none (some 63) ++ (List.replicate kk.toNat [V.int 0]).flatten = (cellsOf ns).map V.int := by
    rw [ecut]
    unfold cellsOf
    rw [List.map_append, hk2]
    congr 1
    split <;> rfl
  have lcl : (cellsOf ns).length ≤ 64 := by
    unfold cellsOf
    rw [List.length_append, List.length_take]
    split
    · simp; omega
    · simp; omega
  refine ⟨p3, kk, [V.int 0], rfl, rfl, upd_same, by omega, by omega, (by rcases hk3 with rfl | rfl <;> decide), fun p4 hp4 => ⟨p2, p4, cutV (ns.map V.int) none (some 63), (List.replicate kk.toNat [V.int 0]).flatten, rfl, rfl, ?_, upd_same, ?_, fun p5 hp5 => ?_⟩⟩
  · have n42 : p4 ≠ p2 := fun e => by rw [e, upd_ne n23.symm, upd_same] at hp4; cases hp4
    rw [upd_ne n42.symm, upd_ne n23.symm, upd_same]
  · rw [← List.length_append, ecl, List.length_map]
    exact Nat.le_trans lcl (by decide)
  rw [ecl]
  have eH : Ex H (upd (upd (upd H p1 (.lst (cutV (ns.map V.int) none (some 63)))) p2 (.lst (cutV (ns.map V.int) none (some 63)))) p3 (.lst [V.int 0])) := Ex.trans (Ex.new hp1) (Ex.trans (Ex.new hp2) (Ex.new hp3))
  have eH5 := Ex.trans eH (Ex.trans (Ex.new hp4) (Ex.new (o := .lst ((cellsOf ns).map V.int)) hp5))
  have h5 : H p5 = none := by
    cases e : H p5 with
    | none => rfl
    | some u => rw [Ex.trans eH (Ex.new hp4) _ _ e] at hp5; cases hp5
  generalize upd (upd (upd (upd H p1 (.lst (cutV (ns.map V.int) none (some 63)))) p2 (.lst (cutV (ns.map V.int) none (some 63)))) p3 (.lst [V.int 0])) p4 _ = H4 at *
  clear hS3 eH ecl ecut hp4
  have hcl : upd H4 p5 (.lst ((cellsOf ns).map V.int)) p5 = some (.lst ((cellsOf ns).map V.int)) := upd_same
  generalize upd H4 p5 (.lst ((cellsOf ns).map V.int)) = H5 at *
  refine ⟨_, rfl, _, rfl, p5, rfl, ⟨_, .inl (.inl hcl)⟩, fun D hD => ?_⟩
  have hD0 : H D = none := by
    cases e : H D with
    | none => rfl
    | some u => rw [eH5 _ _ e] at hD; cases hD
  have n5D : p5 ≠ D := fun e => by rw [← e, hcl] at hD; cases hD
  refine lc_list (K := K) (a := p5) (xs := (cellsOf ns).map V.int) (fun i H' => Ex H H' ∧ H' p5 = some (.lst ((cellsOf ns).map V.int)) ∧ H' D = some (.lst ((((cellsOf ns).take i).map restOf).map V.int))) ⟨Ex.trans eH5 (Ex.new hD), by rw [upd_ne n5D]; exact hcl, upd_same⟩ (fun i H' _ h => .inl (.inl h.2.1)) (fun i x H' hi ⟨x1, x2, x3⟩ => ?_) fun H' ⟨x1, x2, x3⟩ => ?_
  · obtain ⟨c, hc, rfl⟩ : ∃ c, (cellsOf ns)[i]? = some c ∧ x = V.int c := by
      rw [List.getElem?_map] at hi
      cases e : (cellsOf ns)[i]? with
      | none => rw [e] at hi; cases hi
      | some c => rw [e] at hi; exact ⟨c, rfl, (Option.some.inj hi).symm⟩
    obtain ⟨hil, hie⟩ := List.getElem?_eq_some_iff.mp hc
    refine ⟨rfl, yes_go ?_⟩
    refine ⟨_, rfl, _, rfl, 10, 18, rfl, rfl, ⟨by decide, by decide, by decide⟩, c, _, rfl, rfl, .inr ⟨_, rfl, c, _, rfl, rfl, .inr ⟨?_, ?_⟩, _, x3, ?_, ?_⟩⟩
    · split <;> decide
    · split <;> decide
    · rw [List.length_map, List.length_map, List.length_take]
      have : sizeLine = sizeLine := rfl
      exact Nat.lt_of_le_of_lt (Nat.le_trans (Nat.min_le_right _ _) lcl) (by decide)
    · refine ⟨fun b u e => ?_, ?_, ?_⟩
      · rw [upd_ne (fun z => by rw [z, hD0] at e; cases e)]; exact x1 _ _ e
      · rw [upd_ne n5D]; exact x2
      · rw [upd_same, List.take_succ, hc, List.map_append, List.map_append]
        congr 3
        show [V.int (c * (if decide ((10 : Int) ^ 18 ≤ c) = true then 1 else 0))] = [V.int (restOf c)]
        unfold restOf
        by_cases z : (1000000000000000000 : Int) ≤ c
        · rw [if_pos z, if_pos (decide_eq_true (show (10 : Int) ^ 18 ≤ c from z)), Int.mul_one]
        · rw [if_neg z, if_neg (by rw [decide_eq_false (show ¬ (10 : Int) ^ 18 ≤ c from z)]; decide), Int.mul_zero]
  · rw [List.length_map, List.take_length] at x3
    refine ⟨(by show 3 ≤ sizeLine; decide), fun p hp => ?_⟩
    have pD : p ≠ D := fun e => by rw [e, x3] at hp; cases hp
    have p5' : p ≠ p5 := fun e => by rw [e, x2] at hp; cases hp
    have hp0 : H p = none := by
      cases e : H p with
      | none => rfl
      | some u => rw [x1 _ _ e] at hp; cases hp
    exact q p D p5 _ hp0 hD0 pD p5'.symm n5D (Ex.trans x1 (Ex.new hp)) upd_same (by rw [upd_ne p5'.symm]; exact x2) (by rw [upd_ne pD.symm]; exact x3)

def b__law_one (A : Ad) : Env → Dr → SO := (sRet (fOp gIx (fVar 1) (fUse 2 nextF (aCons (fVar 0) (aCons (fCall gLen (aCons (fVar 1) aNil)) aNil)))))
def F__law_one (A : Ad) : List O → Dr → Out E := runF ns__law_one.length (b__law_one A)
theorem ok__law_one (T : Txt P K mg A) : FnOk P w K mg base (L2.CX P w) 2 T.d__law_one.f T.d__law_one.fd ["_law_drawn", "_law_items"] (spF (BB K dr rs cl) 2 (F__law_one A)) :=
  jf_mk (k := 1) T.d__law_one.F sc__law_one fun cdv A1 outer s H E hr => (jb_one (js_ret (je_ix rfl (je_var 1) (je_call (ok__law_next T.d__law_next.F T.z_int T.z_len) (hr.mono (by first | omega | decide)) T.d__law_next.m T.d__law_next.k T.d__law_next.b (takes_of rfl rfl rfl rfl) (ja_cons (je_var 0) (ja_cons (je_len rfl T.z_len (ja_cons (je_var 1) ja_nil)) ja_nil))))))
def c__law_rooms_drawn_e1 (A : Ad) : Env → Dr → Out E := (fOp gAdd (fVar 2) (fOp gMul (fVar 3) (fVar 8)))
def b__law_rooms_drawn_l1 (A : Ad) : Env → Dr → SO := (sSeq (sSetF 7 (fCall gLstD (aCons (fC .non) (aCons (fC (.int 0)) (aCons (fC (.int 4095)) (aCons (fC (.bl true)) (aCons (fC (.str "5")) (aCons (fCall gTupD (aCons (fC (.int 5)) aNil)) (aCons (fUn gNeg (fC (.int 1))) (aCons (fOp gPow (fC (.int 10)) (fC (.int 30))) (aCons (fCall gLstD (aCons (fC (.int 5)) aNil)) (aCons (fOp gIx (fVar 4) (fC (.int 0))) (aCons (fOp gIx (fVar 4) (fUn gNeg (fC (.int 1)))) (aCons (fC (.int 4094)) aNil))))))))))))))
  (sSetIx 5 (fUse 2 (F__law_one A) (aCons (fVar 0) (aCons (fVar 7) aNil))) (fUse 2 nextF (aCons (fVar 0) (aCons (fVar 1) aNil)))))
def b__law_rooms_drawn (A : Ad) : Env → Dr → SO := (sSeq (sSetF 1 (fUse 2 (F__law_one A) (aCons (fVar 0) (aCons (fCall gLstD (aCons (fC (.int 0)) (aCons (fC (.int 1)) (aCons (fC (.int 2)) (aCons (fC (.int 3)) (aCons (fC (.int 6)) (aCons (fC (.int 7)) (aCons (fC (.int 8)) (aCons (fC (.int 9)) aNil))))))))) aNil))))
  (sSeq (sAsg (tgT 2 (tgCons (tgN 2) (tgCons (tgN 3) tgNil))) (fCall gTupD (aCons (fOp gAdd (fC (.int 1)) (fUse 2 nextF (aCons (fVar 0) (aCons (fC (.int 4000)) aNil)))) (aCons (fOp gAdd (fC (.int 1)) (fUse 2 nextF (aCons (fVar 0) (aCons (fC (.int 10)) aNil)))) aNil))))
  (sSeq (sSetF 4 (fLc (fItC gRng1 (aCons (fVar 1) aNil)) (tgN 8) fYes (c__law_rooms_drawn_e1 A) [8]))
  (sSeq (sSet 5 (fIf (fTst (fOp gEq (fUse 2 nextF (aCons (fVar 0) (aCons (fC (.int 2)) aNil))) (fC (.int 0)))) (fUn gRev (fVar 4)) (fCall gListOf (aCons (fVar 4) aNil))))
  (sSeq (sFor (fItC gRng1 (aCons (fOp gMul (fUse 2 nextF (aCons (fVar 0) (aCons (fC (.int 3)) aNil))) (fCall gIntOf (aCons (fOp gGt (fVar 1) (fC (.int 0))) aNil))) aNil)) (tgN 6) (b__law_rooms_drawn_l1 A))
  (sFrz 5 (sRet (fUse 2 (F__law_one A) (aCons (fVar 0) (aCons (fCall gLstD (aCons (fVar 5) (aCons (fCall gTupleOf (aCons (fVar 5) aNil)) (aCons (fVar 5) (aCons (fCall gTupleOf (aCons (fVar 5) aNil)) (aCons (fVar 5) (aCons (fun _ S => .ok (.nd []) S) (aCons (fC .non) (aCons (fC (.str "57")) (aCons (fC (.int 5)) aNil)))))))))) aNil))))))))))
def F__law_rooms_drawn (A : Ad) : List O → Dr → Out E := runF ns__law_rooms_drawn.length (b__law_rooms_drawn A)
theorem ok__law_rooms_drawn (T : Txt P K mg A) : FnOk P w K mg base (L2.CX P w) 3 T.d__law_rooms_drawn.f T.d__law_rooms_drawn.fd ["_law_drawn"] (spF (BB K dr rs cl) 1 (F__law_rooms_drawn A)) :=
  jf_mk (k := 2) T.d__law_rooms_drawn.F sc__law_rooms_drawn fun cdv A1 outer s H E hr => (jb_cons (js_setF 1 sc__law_rooms_drawn.nd (je_call (ok__law_one T) (hr.mono (by first | omega | decide)) T.d__law_one.m T.d__law_one.k T.d__law_one.b (takes_of rfl rfl rfl rfl) (ja_cons (je_var 0) (ja_cons (je_lst (ja_cons je_int (ja_cons je_int (ja_cons je_int (ja_cons je_int (ja_cons je_int (ja_cons je_int (ja_cons je_int (ja_cons je_int ja_nil))))))))) ja_nil))))
  (jb_cons (js_asg (jg_tup rfl rfl (jgs_cons (jg_name 2 sc__law_rooms_drawn.nd) (jgs_cons (jg_name 3 sc__law_rooms_drawn.nd) jgs_nil))) (je_tup (ja_cons (je_add rfl je_int (je_call (ok__law_next T.d__law_next.F T.z_int T.z_len) (hr.mono (by first | omega | decide)) T.d__law_next.m T.d__law_next.k T.d__law_next.b (takes_of rfl rfl rfl rfl) (ja_cons (je_var 0) (ja_cons je_int ja_nil)))) (ja_cons (je_add rfl je_int (je_call (ok__law_next T.d__law_next.F T.z_int T.z_len) (hr.mono (by first | omega | decide)) T.d__law_next.m T.d__law_next.k T.d__law_next.b (takes_of rfl rfl rfl rfl) (ja_cons (je_var 0) (ja_cons je_int ja_nil)))) ja_nil))))
  (jb_cons (js_setLc 4 true (own := [("_law_at", 8)]) rfl sc__law_rooms_drawn.nd (ji_range1 T.z_range (ja_cons (je_var 1) ja_nil)) (blk_of (N := ns__law_rooms_drawn) (sc := defScope s__law_rooms_drawn) rfl rfl ⟨rfl, by decide +kernel, by decide +kernel, by decide +kernel, by decide +kernel⟩) (fun _ _ _ _ _ => (jg_name 8 sc__law_rooms_drawn.nd)) jts_nil (fun _ _ _ _ _ => (je_add rfl (je_var 2) (je_mul (je_var 3) (je_var 8)))))
  (jb_cons (js_set 5 sc__law_rooms_drawn.nd (je_ifExp (jt_cmp (op_eqD hr.units) oj_eq (je_call (ok__law_next T.d__law_next.F T.z_int T.z_len) (hr.mono (by first | omega | decide)) T.d__law_next.m T.d__law_next.k T.d__law_next.b (takes_of rfl rfl rfl rfl) (ja_cons (je_var 0) (ja_cons je_int ja_nil))) je_int) (je_rev rfl (je_var 4)) (je_callTy call_list_of cj_list T.z_list (ja_cons (je_var 4) ja_nil))))
  (jb_cons (js_for (passes_of rfl) rfl (ji_range1 T.z_range (ja_cons (je_mul (je_call (ok__law_next T.d__law_next.F T.z_int T.z_len) (hr.mono (by first | omega | decide)) T.d__law_next.m T.d__law_next.k T.d__law_next.b (takes_of rfl rfl rfl rfl) (ja_cons (je_var 0) (ja_cons je_int ja_nil))) (je_callTy (CallR.or call_int1 call_int_str) cj_int T.z_int (ja_cons (je_cmp op_gt oj_gt (je_var 1) je_int) ja_nil))) ja_nil)) (jg_name 6 sc__law_rooms_drawn.nd) (jb_cons (js_setF 7 sc__law_rooms_drawn.nd (je_lst (ja_cons je_non (ja_cons je_int (ja_cons je_int (ja_cons je_bl (ja_cons je_str (ja_cons (je_tup (ja_cons je_int ja_nil)) (ja_cons (je_neg je_int) (ja_cons (je_pow je_int je_int) (ja_cons (je_lst (ja_cons je_int ja_nil)) (ja_cons (je_ix rfl (je_var 4) je_int) (ja_cons (je_ix rfl (je_var 4) (je_neg je_int)) (ja_cons je_int ja_nil))))))))))))))
  (jb_one (js_setIx 5 (je_call (ok__law_one T) (hr.mono (by first | omega | decide)) T.d__law_one.m T.d__law_one.k T.d__law_one.b (takes_of rfl rfl rfl rfl) (ja_cons (je_var 0) (ja_cons (je_var 7) ja_nil))) (je_call (ok__law_next T.d__law_next.F T.z_int T.z_len) (hr.mono (by first | omega | decide)) T.d__law_next.m T.d__law_next.k T.d__law_next.b (takes_of rfl rfl rfl rfl) (ja_cons (je_var 0) (ja_cons (je_var 1) ja_nil)))))))
  (jb_one (js_frz 5 (js_ret (je_call (ok__law_one T) (hr.mono (by first | omega | decide)) T.d__law_one.m T.d__law_one.k T.d__law_one.b (takes_of rfl rfl rfl rfl) (ja_cons (je_var 0) (ja_cons (je_lst (ja_cons (je_var 5) (ja_cons (je_callTy call_tuple_of cj_tuple T.z_tuple (ja_cons (je_var 5) ja_nil)) (ja_cons (je_var 5) (ja_cons (je_callTy call_tuple_of cj_tuple T.z_tuple (ja_cons (je_var 5) ja_nil)) (ja_cons (je_var 5) (ja_cons je_dict0 (ja_cons je_non (ja_cons je_str (ja_cons je_int ja_nil)))))))))) ja_nil)))))))))))
def b__law_whole (A : Ad) : Env → Dr → SO := (sRet (fAndV (fIsi "int" (fVar 0)) (fAndV (fNotV (fIsi "bool" (fVar 0))) (fChain gLe gLe (fVar 1) (fVar 0) (fVar 2)))))
def F__law_whole (A : Ad) : List O → Dr → Out E := runF ns__law_whole.length (b__law_whole A)
theorem ok__law_whole (T : Txt P K mg A) : FnOk P w K mg base (L2.CX P w) 1 T.d__law_whole.f T.d__law_whole.fd ["_law_value", "_law_low", "_law_high"] (spF (BB K dr rs cl) 3 (F__law_whole A)) :=
  jf_mk (k := 0) T.d__law_whole.F sc__law_whole fun cdv A1 outer s H E hr => (jb_one (js_ret (je_and (je_isi rfl T.z_isinstance (je_var 0) T.z_int (by decide +kernel)) (je_and (je_not (je_isi rfl T.z_isinstance (je_var 0) T.z_bool (by decide +kernel))) (je_one (je_chain op_le op_le on_le oj_le (je_var 1) (je_var 0) (je_var 2)))))))
def b__law_tag (A : Ad) : Env → Dr → SO := (sRet (fUse 3 (F__law_whole A) (aCons (fVar 0) (aCons (fC (.int 1)) (aCons (fC (.int 4094)) aNil)))))
def F__law_tag (A : Ad) : List O → Dr → Out E := runF ns__law_tag.length (b__law_tag A)
theorem ok__law_tag (T : Txt P K mg A) : FnOk P w K mg base (L2.CX P w) 2 T.d__law_tag.f T.d__law_tag.fd ["_law_value"] (spF (BB K dr rs cl) 1 (F__law_tag A)) :=
  jf_mk (k := 1) T.d__law_tag.F sc__law_tag fun cdv A1 outer s H E hr => (jb_one (js_ret (je_call (ok__law_whole T) (hr.mono (by first | omega | decide)) T.d__law_whole.m T.d__law_whole.k T.d__law_whole.b (takes_of rfl rfl rfl rfl) (ja_cons (je_var 0) (ja_cons je_int (ja_cons je_int ja_nil))))))
def b__law_entry_l1 (A : Ad) : Env → Dr → SO := (sIf (fOr (fNot (fTst (fUse 1 (F__law_tag A) (aCons (fOp gIx (fVar 0) (fVar 1)) aNil)))) (fTst (fOp (gInF false) (fOp gIx (fVar 0) (fVar 1)) (fCall gListOf (aCons (fSl oNone (oSome (fVar 1)) (fVar 0)) aNil))))) (sRet (fVar 1)) sNx)
def b__law_entry (A : Ad) : Env → Dr → SO := (sSeq (sIf (fNot (fTst (fIsi2 "list" "tuple" (fVar 0)))) (sRet (fUn gNeg (fC (.int 1)))) sNx)
  (sSeq (sFor (fItC gRng1 (aCons (fCall gMin2 (aCons (fCall gLen (aCons (fVar 0) aNil)) (aCons (fC (.int 7)) aNil))) aNil)) (tgN 1) (b__law_entry_l1 A))
  (sRet (fIf (fTst (fOp gGt (fCall gLen (aCons (fVar 0) aNil)) (fC (.int 7)))) (fC (.int 7)) (fC .non)))))
def F__law_entry (A : Ad) : List O → Dr → Out E := runF ns__law_entry.length (b__law_entry A)
theorem ok__law_entry (T : Txt P K mg A) : FnOk P w K mg base (L2.CX P w) 3 T.d__law_entry.f T.d__law_entry.fd ["_law_rooms"] (spF (BB K dr rs cl) 1 (F__law_entry A)) :=
  jf_mk (k := 2) T.d__law_entry.F sc__law_entry fun cdv A1 outer s H E hr => (jb_cons (js_if (jt_not (jt_val (je_isi2 rfl T.z_isinstance (je_var 0) T.z_list (by decide +kernel) T.z_tuple (by decide +kernel)))) (jb_one (js_ret (je_neg je_int))) jb_nil)
  (jb_cons (js_for (passes_of rfl) rfl (ji_range1 T.z_range (ja_cons (je_callB (call_min2 rfl) cj_min2 T.z_min (ja_cons (je_len rfl T.z_len (ja_cons (je_var 0) ja_nil)) (ja_cons je_int ja_nil))) ja_nil)) (jg_name 1 sc__law_entry.nd) (jb_one (js_if (JW.jt (jw_or (jt_not (jt_val (je_call (ok__law_tag T) (hr.mono (by first | omega | decide)) T.d__law_tag.m T.d__law_tag.k T.d__law_tag.b (takes_of rfl rfl rfl rfl) (ja_cons (je_ix rfl (je_var 0) (je_var 1)) ja_nil)))) (jw_or1 (jt_inF rfl (units65 hr) (je_ix rfl (je_var 0) (je_var 1)) (je_callTy call_list_of cj_list T.z_list (ja_cons (je_slice rfl (je_var 0) jo_none (jo_some (je_var 1))) ja_nil)))))) (jb_one (js_ret (je_var 1))) jb_nil)))
  (jb_one (js_ret (je_ifExp (jt_cmp op_gt oj_gt (je_len rfl T.z_len (ja_cons (je_var 0) ja_nil)) je_int) je_int je_non)))))
def c__law_due_e1 (A : Ad) : Env → Dr → Out E := (fCall gIntOf (aCons (fVar 3) aNil))
def b__law_due (A : Ad) : Env → Dr → SO := (sSeq (sIf (fTst (fOp gNotN (fUse 1 (F__law_entry A) (aCons (fVar 1) aNil)) (fC .non))) (sRet (fCall gLstD (aCons (fC (.str "rooms")) (aCons (fUse 1 (F__law_entry A) (aCons (fVar 1) aNil)) aNil)))) sNx)
  (sSeq (sIf (fAnd (fNot (fTst (fUse 1 (F__law_tag A) (aCons (fVar 2) aNil)))) (fOr (fTst (fOp gEq (fVar 0) (fC (.str "loose")))) (fTst (fOp gNotN (fVar 2) (fC .non))))) (sRet (fCall gLstD (aCons (fC (.str "tag")) (aCons (fVar 2) aNil)))) sNx)
  (sRet (fCall gTupD (aCons (fCall gTupleOf (aCons (fCall gSortF (aCons (fLc (fItrs true (fVar 1)) (tgN 3) fYes (c__law_due_e1 A) [3]) aNil)) aNil)) (aCons (fVar 2) aNil))))))
def F__law_due (A : Ad) : List O → Dr → Out E := runF ns__law_due.length (b__law_due A)
theorem ok__law_due (T : Txt P K mg A) : FnOk P w K mg base (L2.CX P w) 4 T.d__law_due.f T.d__law_due.fd ["_law_kind", "_law_rooms", "_law_home"] (spF (BB K dr rs cl) 3 (F__law_due A)) :=
  jf_mk (k := 3) T.d__law_due.F sc__law_due fun cdv A1 outer s H E hr => (jb_cons (js_if (jt_cmp op_notN oj_notN (je_call (ok__law_entry T) (hr.mono (by first | omega | decide)) T.d__law_entry.m T.d__law_entry.k T.d__law_entry.b (takes_of rfl rfl rfl rfl) (ja_cons (je_var 1) ja_nil)) je_non) (jb_one (js_ret (je_lst (ja_cons je_str (ja_cons (je_call (ok__law_entry T) (hr.mono (by first | omega | decide)) T.d__law_entry.m T.d__law_entry.k T.d__law_entry.b (takes_of rfl rfl rfl rfl) (ja_cons (je_var 1) ja_nil)) ja_nil))))) jb_nil)
  (jb_cons (js_if (JW.jt (jw_and (jt_not (jt_val (je_call (ok__law_tag T) (hr.mono (by first | omega | decide)) T.d__law_tag.m T.d__law_tag.k T.d__law_tag.b (takes_of rfl rfl rfl rfl) (ja_cons (je_var 2) ja_nil)))) (jw_and1 (JW.jt (jw_or (jt_cmp (op_eqD hr.units) oj_eq (je_var 0) je_str) (jw_or1 (jt_cmp op_notN oj_notN (je_var 2) je_non))))))) (jb_one (js_ret (je_lst (ja_cons je_str (ja_cons (je_var 2) ja_nil))))) jb_nil)
  (jb_one (js_ret (je_tup (ja_cons (je_callTy call_tuple_of cj_tuple T.z_tuple (ja_cons (je_sortedF rfl rfl T.z_sorted (ja_cons (je_lc (own := [("_law_room", 3)]) rfl sc__law_due.nd (ji_seqs rfl (je_var 1)) (blk_of (N := ns__law_due) (sc := defScope s__law_due) rfl rfl ⟨rfl, by decide +kernel, by decide +kernel, by decide +kernel, by decide +kernel⟩) (fun _ _ _ _ _ => (jg_name 3 sc__law_due.nd)) jts_nil (fun _ _ _ _ _ => (je_callTy (CallR.or call_int1 call_int_str) cj_int T.z_int (ja_cons (je_var 3) ja_nil)))) ja_nil)) ja_nil)) (ja_cons (je_var 2) ja_nil)))))))
def b_is_whole (A : Ad) : Env → Dr → SO := (sRet (fAndV (fIsi "int" (fVar 0)) (fNotV (fIsi "bool" (fVar 0)))))
def F_is_whole (A : Ad) : List O → Dr → Out E := runF ns_is_whole.length (b_is_whole A)
theorem ok_is_whole (T : Txt P K mg A) : FnOk P w K mg base (L2.CX P w) 1 T.d_is_whole.f T.d_is_whole.fd ["value"] (spF (BB K dr rs cl) 1 (F_is_whole A)) :=
  jf_mk (k := 0) T.d_is_whole.F sc_is_whole fun cdv A1 outer s H E hr => (jb_one (js_ret (je_and (je_isi rfl T.z_isinstance (je_var 0) T.z_int (by decide +kernel)) (je_one (je_not (je_isi rfl T.z_isinstance (je_var 0) T.z_bool (by decide +kernel)))))))
def b_is_tag (A : Ad) : Env → Dr → SO := (sRet (fAndV (fUse 1 (F_is_whole A) (aCons (fVar 0) aNil)) (fChain gLe gLe (fC (.int 1)) (fVar 0) (fC (.int 4094)))))
def F_is_tag (A : Ad) : List O → Dr → Out E := runF ns_is_tag.length (b_is_tag A)
theorem ok_is_tag (T : Txt P K mg A) : FnOk P w K mg base (L2.CX P w) 2 T.d_is_tag.f T.d_is_tag.fd ["value"] (spF (BB K dr rs cl) 1 (F_is_tag A)) :=
  jf_mk (k := 1) T.d_is_tag.F sc_is_tag fun cdv A1 outer s H E hr => (jb_one (js_ret (je_and (je_call (ok_is_whole T) (hr.mono (by first | omega | decide)) T.d_is_whole.m T.d_is_whole.k T.d_is_whole.b (takes_of rfl rfl rfl rfl) (ja_cons (je_var 0) ja_nil)) (je_one (je_chain op_le op_le on_le oj_le je_int (je_var 0) (je_globI' T.k_MOST_TAG))))))
def b_check_rooms_l1 (A : Ad) : Env → Dr → SO := (sIf (fOr (fNot (fTst (fUse 1 (F_is_tag A) (aCons (fVar 2) aNil)))) (fTst (fOp (gInF false) (fVar 2) (fSl oNone (oSome (fVar 1)) (fVar 0))))) (sRaise A.C_BadEntry ["part", "index"] (aCons (fC (.str "rooms")) (aCons (fVar 1) aNil))) sNx)
def b_check_rooms (A : Ad) : Env → Dr → SO := (sSeq (sIf (fNot (fTst (fIsi2 "list" "tuple" (fVar 0)))) (sRaise A.C_BadEntry ["part", "index"] (aCons (fC (.str "rooms")) (aCons (fUn gNeg (fC (.int 1))) aNil))) sNx)
  (sSeq (sFor (fItC (gEnum false) (aCons (fSl oNone (oSome (fOp gSub (fC (.int 8)) (fC (.int 1)))) (fVar 0)) aNil)) (tgT 2 (tgCons (tgN 1) (tgCons (tgN 2) tgNil))) (b_check_rooms_l1 A))
  (sIf (fTst (fOp gGe (fCall gLen (aCons (fVar 0) aNil)) (fC (.int 8)))) (sRaise A.C_BadEntry ["part", "index"] (aCons (fC (.str "rooms")) (aCons (fOp gSub (fC (.int 8)) (fC (.int 1))) aNil))) sNx)))
def F_check_rooms (A : Ad) : List O → Dr → Out E := runF ns_check_rooms.length (b_check_rooms A)
theorem ok_check_rooms (T : Txt P K mg A) : FnOk P w K mg base (L2.CX P w) 3 T.d_check_rooms.f T.d_check_rooms.fd ["rooms"] (spF (BB K dr rs cl) 1 (F_check_rooms A)) :=
  jf_mk (k := 2) T.d_check_rooms.F sc_check_rooms fun cdv A1 outer s H E hr => (jb_cons (js_if (jt_not (jt_val (je_isi2 rfl T.z_isinstance (je_var 0) T.z_list (by decide +kernel) T.z_tuple (by decide +kernel)))) (jb_one (js_raise T.x_BadEntry.T T.x_BadEntry.iC T.x_BadEntry.tI (ok_x_BadEntry T) (hr.mono (by first | omega | decide)) T.x_BadEntry.b T.x_BadEntry.m rfl (takes_of rfl rfl rfl rfl) (by decide) (ja_cons je_str (ja_cons (je_neg je_int) ja_nil)))) jb_nil)
  (jb_cons (js_for (passes_of rfl) rfl (ji_enum rfl T.z_enumerate (ja_cons (je_slice rfl (je_var 0) jo_none (jo_some (je_sub (je_globI' T.k_MOST_ENTRIES) je_int))) ja_nil)) (jg_tup rfl rfl (jgs_cons (jg_name 1 sc_check_rooms.nd) (jgs_cons (jg_name 2 sc_check_rooms.nd) jgs_nil))) (jb_one (js_if (JW.jt (jw_or (jt_not (jt_val (je_call (ok_is_tag T) (hr.mono (by first | omega | decide)) T.d_is_tag.m T.d_is_tag.k T.d_is_tag.b (takes_of rfl rfl rfl rfl) (ja_cons (je_var 2) ja_nil)))) (jw_or1 (jt_inF rfl (units65 hr) (je_var 2) (je_slice rfl (je_var 0) jo_none (jo_some (je_var 1))))))) (jb_one (js_raise T.x_BadEntry.T T.x_BadEntry.iC T.x_BadEntry.tI (ok_x_BadEntry T) (hr.mono (by first | omega | decide)) T.x_BadEntry.b T.x_BadEntry.m rfl (takes_of rfl rfl rfl rfl) (by decide) (ja_cons je_str (ja_cons (je_var 1) ja_nil)))) jb_nil)))
  (jb_one (js_if (jt_cmp op_ge oj_ge (je_len rfl T.z_len (ja_cons (je_var 0) ja_nil)) (je_globI' T.k_MOST_ENTRIES)) (jb_one (js_raise T.x_BadEntry.T T.x_BadEntry.iC T.x_BadEntry.tI (ok_x_BadEntry T) (hr.mono (by first | omega | decide)) T.x_BadEntry.b T.x_BadEntry.m rfl (takes_of rfl rfl rfl rfl) (by decide) (ja_cons je_str (ja_cons (je_sub (je_globI' T.k_MOST_ENTRIES) je_int) ja_nil)))) jb_nil))))
def b_check_room (A : Ad) : Env → Dr → SO := (sIf (fAnd (fTst (fOp gNotN (fVar 0) (fC .non))) (fNot (fTst (fUse 1 (F_is_tag A) (aCons (fVar 0) aNil))))) (sRaise A.C_BadTag ["value"] (aCons (fVar 0) aNil)) sNx)
def F_check_room (A : Ad) : List O → Dr → Out E := runF ns_check_room.length (b_check_room A)
theorem ok_check_room (T : Txt P K mg A) : FnOk P w K mg base (L2.CX P w) 3 T.d_check_room.f T.d_check_room.fd ["room"] (spF (BB K dr rs cl) 1 (F_check_room A)) :=
  jf_mk (k := 2) T.d_check_room.F sc_check_room fun cdv A1 outer s H E hr => (jb_one (js_if (JW.jt (jw_and (jt_cmp op_notN oj_notN (je_var 0) je_non) (jw_and1 (jt_not (jt_val (je_call (ok_is_tag T) (hr.mono (by first | omega | decide)) T.d_is_tag.m T.d_is_tag.k T.d_is_tag.b (takes_of rfl rfl rfl rfl) (ja_cons (je_var 0) ja_nil))))))) (jb_one (js_raise T.x_BadTag.T T.x_BadTag.iC T.x_BadTag.tI (ok_x_BadTag T) (hr.mono (by first | omega | decide)) T.x_BadTag.b T.x_BadTag.m rfl (takes_of rfl rfl rfl rfl) (by decide) (ja_cons (je_var 0) ja_nil))) jb_nil))
def b_is_arriving (A : Ad) : Env → Dr → SO := (sRet (fAndV (fIsi "tuple" (fVar 0)) (fAndV (fOp gEq (fCall gLen (aCons (fVar 0) aNil)) (fC (.int 3))) (fAndV (fUse 1 (F_is_tag A) (aCons (fOp gIx (fVar 0) (fC (.int 0))) aNil)) (fAndV (fUse 1 (F_is_tag A) (aCons (fOp gIx (fVar 0) (fC (.int 1))) aNil)) (fIsi "bool" (fOp gIx (fVar 0) (fC (.int 2)))))))))
def F_is_arriving (A : Ad) : List O → Dr → Out E := runF ns_is_arriving.length (b_is_arriving A)
theorem ok_is_arriving (T : Txt P K mg A) : FnOk P w K mg base (L2.CX P w) 3 T.d_is_arriving.f T.d_is_arriving.fd ["row"] (spF (BB K dr rs cl) 1 (F_is_arriving A)) :=
  jf_mk (k := 2) T.d_is_arriving.F sc_is_arriving fun cdv A1 outer s H E hr => (jb_one (js_ret (je_and (je_isi rfl T.z_isinstance (je_var 0) T.z_tuple (by decide +kernel)) (je_and (je_cmp (op_eqD hr.units) oj_eq (je_len rfl T.z_len (ja_cons (je_var 0) ja_nil)) je_int) (je_and (je_call (ok_is_tag T) (hr.mono (by first | omega | decide)) T.d_is_tag.m T.d_is_tag.k T.d_is_tag.b (takes_of rfl rfl rfl rfl) (ja_cons (je_ix rfl (je_var 0) je_int) ja_nil)) (je_and (je_call (ok_is_tag T) (hr.mono (by first | omega | decide)) T.d_is_tag.m T.d_is_tag.k T.d_is_tag.b (takes_of rfl rfl rfl rfl) (ja_cons (je_ix rfl (je_var 0) je_int) ja_nil)) (je_one (je_isi rfl T.z_isinstance (je_ix rfl (je_var 0) je_int) T.z_bool (by decide +kernel)))))))))
def b_is_leaving (A : Ad) : Env → Dr → SO := (sRet (fAndV (fIsi "tuple" (fVar 0)) (fAndV (fOp gEq (fCall gLen (aCons (fVar 0) aNil)) (fC (.int 2))) (fAndV (fUse 1 (F_is_tag A) (aCons (fOp gIx (fVar 0) (fC (.int 0))) aNil)) (fOrV (fOp gIsN (fOp gIx (fVar 0) (fC (.int 1))) (fC .non)) (fUse 1 (F_is_tag A) (aCons (fOp gIx (fVar 0) (fC (.int 1))) aNil)))))))
def F_is_leaving (A : Ad) : List O → Dr → Out E := runF ns_is_leaving.length (b_is_leaving A)
theorem ok_is_leaving (T : Txt P K mg A) : FnOk P w K mg base (L2.CX P w) 3 T.d_is_leaving.f T.d_is_leaving.fd ["row"] (spF (BB K dr rs cl) 1 (F_is_leaving A)) :=
  jf_mk (k := 2) T.d_is_leaving.F sc_is_leaving fun cdv A1 outer s H E hr => (jb_one (js_ret (je_and (je_isi rfl T.z_isinstance (je_var 0) T.z_tuple (by decide +kernel)) (je_and (je_cmp (op_eqD hr.units) oj_eq (je_len rfl T.z_len (ja_cons (je_var 0) ja_nil)) je_int) (je_and (je_call (ok_is_tag T) (hr.mono (by first | omega | decide)) T.d_is_tag.m T.d_is_tag.k T.d_is_tag.b (takes_of rfl rfl rfl rfl) (ja_cons (je_ix rfl (je_var 0) je_int) ja_nil)) (je_one (je_or (je_cmp op_isN oj_isN (je_ix rfl (je_var 0) je_int) je_non) (je_one (je_call (ok_is_tag T) (hr.mono (by first | omega | decide)) T.d_is_tag.m T.d_is_tag.k T.d_is_tag.b (takes_of rfl rfl rfl rfl) (ja_cons (je_ix rfl (je_var 0) je_int) ja_nil))))))))))
def tf_check_rows_fits (A : Ad) : MTab := tabL [(A.D_is_arriving, F_is_arriving A), (A.D_is_leaving, F_is_leaving A)]
def b_check_rows_l1 (A : Ad) : Env → Dr → SO := (sSeq (sIf (fOr (fNot (fTst (fCallL 2 (tf_check_rows_fits A) 1 (aCons (fVar 5) aNil)))) (fTst (fOp (gInF false) (fOp gIx (fVar 5) (fC (.int 0))) (fVar 3)))) (sRaise A.C_BadEntry ["part", "index"] (aCons (fVar 0) (aCons (fVar 4) aNil))) sNx)
  (sApp 3 (fOp gIx (fVar 5) (fC (.int 0)))))
def b_check_rows (A : Ad) : Env → Dr → SO := (sSeq (sIf (fNot (fTst (fIsi2 "list" "tuple" (fVar 1)))) (sRaise A.C_BadEntry ["part", "index"] (aCons (fVar 0) (aCons (fUn gNeg (fC (.int 1))) aNil))) sNx)
  (sSeq (sSet 3 (fCall gLstD aNil))
  (sSeq (sFor (fItC (gEnum false) (aCons (fSl oNone (oSome (fC (.int 8))) (fVar 1)) aNil)) (tgT 2 (tgCons (tgN 4) (tgCons (tgN 5) tgNil))) (b_check_rows_l1 A))
  (sIf (fTst (fOp gGt (fCall gLen (aCons (fVar 1) aNil)) (fC (.int 8)))) (sRaise A.C_BadEntry ["part", "index"] (aCons (fVar 0) (aCons (fC (.int 8)) aNil))) sNx))))
def F_check_rows (A : Ad) : List O → Dr → Out E := runF ns_check_rows.length (b_check_rows A)
theorem ok_check_rows (T : Txt P K mg A) : FnOk P w K mg base (L2.CX P w) 4 T.d_check_rows.f T.d_check_rows.fd ["part", "rows", "fits"] (spF (BB K dr rs cl) 3 (F_check_rows A)) :=
  jf_mk (k := 3) T.d_check_rows.F sc_check_rows fun cdv A1 outer s H E hr => (jb_cons (js_if (jt_not (jt_val (je_isi2 rfl T.z_isinstance (je_var 1) T.z_list (by decide +kernel) T.z_tuple (by decide +kernel)))) (jb_one (js_raise T.x_BadEntry.T T.x_BadEntry.iC T.x_BadEntry.tI (ok_x_BadEntry T) (hr.mono (by first | omega | decide)) T.x_BadEntry.b T.x_BadEntry.m rfl (takes_of rfl rfl rfl rfl) (by decide) (ja_cons (je_var 0) (ja_cons (je_neg je_int) ja_nil)))) jb_nil)
  (jb_cons (js_set 3 sc_check_rows.nd (je_lst ja_nil))
  (jb_cons (js_for (passes_of rfl) rfl (ji_enum rfl T.z_enumerate (ja_cons (je_slice rfl (je_var 1) jo_none (jo_some (je_globI' T.k_MOST_ENTRIES))) ja_nil)) (jg_tup rfl rfl (jgs_cons (jg_name 4 sc_check_rows.nd) (jgs_cons (jg_name 5 sc_check_rows.nd) jgs_nil))) (jb_cons (js_if (JW.jt (jw_or (jt_not (jt_val (je_callL (tabL_ok (P := fun f F => LOk _ _ 1 f F) (Cs := [(A.D_is_arriving, F_is_arriving A), (A.D_is_leaving, F_is_leaving A)]) ⟨(T.v_is_arriving ▸ ⟨_, _, _, (ok_is_arriving T), (hr.mono (by first | omega | decide)), T.d_is_arriving.k, T.d_is_arriving.b⟩), (T.v_is_leaving ▸ ⟨_, _, _, (ok_is_leaving T), (hr.mono (by first | omega | decide)), T.d_is_leaving.k, T.d_is_leaving.b⟩), trivial⟩) (takes_of rfl rfl rfl rfl) (ja_cons (je_var 5) ja_nil)))) (jw_or1 (jt_inF rfl (units65 hr) (je_ix rfl (je_var 5) je_int) (je_var 3))))) (jb_one (js_raise T.x_BadEntry.T T.x_BadEntry.iC T.x_BadEntry.tI (ok_x_BadEntry T) (hr.mono (by first | omega | decide)) T.x_BadEntry.b T.x_BadEntry.m rfl (takes_of rfl rfl rfl rfl) (by decide) (ja_cons (je_var 0) (ja_cons (je_var 4) ja_nil)))) jb_nil)
  (jb_one (js_app 3 rfl (je_ix rfl (je_var 5) je_int)))))
  (jb_one (js_if (jt_cmp op_gt oj_gt (je_len rfl T.z_len (ja_cons (je_var 1) ja_nil)) (je_globI' T.k_MOST_ENTRIES)) (jb_one (js_raise T.x_BadEntry.T T.x_BadEntry.iC T.x_BadEntry.tI (ok_x_BadEntry T) (hr.mono (by first | omega | decide)) T.x_BadEntry.b T.x_BadEntry.m rfl (takes_of rfl rfl rfl rfl) (by decide) (ja_cons (je_var 0) (ja_cons (je_globI' T.k_MOST_ENTRIES) ja_nil)))) jb_nil)))))
def c_Port___init___e1 (A : Ad) : Env → Dr → Out E := (fCall gTupD (aCons (fVar 6) (aCons (fVar 7) aNil)))
def c_Port___init___e2 (A : Ad) : Env → Dr → Out E := (fVar 5)
def b_Port___init__ (A : Ad) : Env → Dr → SO := (sSeq (sDrop (fUse 3 (F_check_rows A) (aCons (fC (.str "arriving")) (aCons (fVar 1) (aCons (fC (.ref A.D_is_arriving)) aNil)))))
  (sSeq (sDrop (fUse 3 (F_check_rows A) (aCons (fC (.str "leaving")) (aCons (fVar 2) (aCons (fC (.ref A.D_is_leaving)) aNil)))))
  (sSeq (sDrop (fUse 1 (F_check_room A) (aCons (fVar 3) aNil)))
  (sSeq (sDrop (fUse 1 (F_check_room A) (aCons (fVar 4) aNil)))
  (sSeq (sFldI (isL (cs_Port A)) "entries" (fDc (fItrs true (fVar 1)) (tgT 3 (tgCons (tgN 5) (tgCons (tgN 6) (tgCons (tgN 7) tgNil)))) fYes (fVar 5) (c_Port___init___e1 A) [5, 6, 7]))
  (sSeq (sFldI (isL (cs_Port A)) "exits" (fDc (fItrs true (fVar 2)) (tgT 2 (tgCons (tgN 6) (tgCons (tgN 5) tgNil))) fYes (fVar 6) (c_Port___init___e2 A) [6, 5]))
  (sSeq (sFldI (isL (cs_Port A)) "other" (fVar 3))
  (sFldI (isL (cs_Port A)) "bare" (fVar 4)))))))))
def F_Port___init__ (A : Ad) : Addr → List (Str × Dn.D) → List O → Dr → Out (List (Str × Dn.D)) := runI ns_Port___init__.length (b_Port___init__ A)
theorem ok_Port___init__ (T : Txt P K mg A) : FnOk P w K mg base (L2.CX P w) 5 T.d_Port___init__.f T.d_Port___init__.fd ["self", "arriving", "leaving", "other", "bare"] (spI (BB K dr rs cl) 5 (F_Port___init__ A)) :=
  ji_mk (k := 4) T.d_Port___init__.F sc_Port___init__ fun a cdv A1 outer s H E hr => (jb_cons (js_expr (je_call (fn_at a (ok_check_rows T)) (hr.mono (by first | omega | decide)) T.d_check_rows.m T.d_check_rows.k T.d_check_rows.b (takes_of rfl rfl rfl rfl) (ja_cons je_str (ja_cons (je_var 1) (ja_cons (je_globR (T.vm_is_arriving)) ja_nil)))))
  (jb_cons (js_expr (je_call (fn_at a (ok_check_rows T)) (hr.mono (by first | omega | decide)) T.d_check_rows.m T.d_check_rows.k T.d_check_rows.b (takes_of rfl rfl rfl rfl) (ja_cons je_str (ja_cons (je_var 2) (ja_cons (je_globR (T.vm_is_leaving)) ja_nil)))))
  (jb_cons (js_expr (je_call (fn_at a (ok_check_room T)) (hr.mono (by first | omega | decide)) T.d_check_room.m T.d_check_room.k T.d_check_room.b (takes_of rfl rfl rfl rfl) (ja_cons (je_var 3) ja_nil)))
  (jb_cons (js_expr (je_call (fn_at a (ok_check_room T)) (hr.mono (by first | omega | decide)) T.d_check_room.m T.d_check_room.k T.d_check_room.b (takes_of rfl rfl rfl rfl) (ja_cons (je_var 4) ja_nil)))
  (jb_cons (js_fldI (isL_ok (Cs := (cs_Port A)) ⟨⟨T.c_Plain, T.n_Plain_entries⟩, ⟨T.c_Tunnel, T.n_Tunnel_entries⟩, ⟨T.c_Trunk, T.n_Trunk_entries⟩, ⟨T.c_Loose, T.n_Loose_entries⟩, trivial⟩) (je_dc (own := [("tag", 5), ("room", 6), ("kept", 7)]) rfl sc_Port___init__.nd (ji_seqs rfl (je_var 1)) (blk_of (N := ns_Port___init__) (sc := defScope s_Port___init__) rfl rfl ⟨rfl, by decide +kernel, by decide +kernel, by decide +kernel, by decide +kernel⟩) (fun _ _ _ _ _ => (jg_tup rfl rfl (jgs_cons (jg_name 5 sc_Port___init__.nd) (jgs_cons (jg_name 6 sc_Port___init__.nd) (jgs_cons (jg_name 7 sc_Port___init__.nd) jgs_nil))))) jts_nil (fun _ _ _ _ _ => (je_var 5)) (fun _ _ _ _ _ => (je_tup (ja_cons (je_var 6) (ja_cons (je_var 7) ja_nil))))))
  (jb_cons (js_fldI (isL_ok (Cs := (cs_Port A)) ⟨⟨T.c_Plain, T.n_Plain_exits⟩, ⟨T.c_Tunnel, T.n_Tunnel_exits⟩, ⟨T.c_Trunk, T.n_Trunk_exits⟩, ⟨T.c_Loose, T.n_Loose_exits⟩, trivial⟩) (je_dc (own := [("room", 6), ("tag", 5)]) rfl sc_Port___init__.nd (ji_seqs rfl (je_var 2)) (blk_of (N := ns_Port___init__) (sc := defScope s_Port___init__) rfl rfl ⟨rfl, by decide +kernel, by decide +kernel, by decide +kernel, by decide +kernel⟩) (fun _ _ _ _ _ => (jg_tup rfl rfl (jgs_cons (jg_name 6 sc_Port___init__.nd) (jgs_cons (jg_name 5 sc_Port___init__.nd) jgs_nil)))) jts_nil (fun _ _ _ _ _ => (je_var 6)) (fun _ _ _ _ _ => (je_var 5))))
  (jb_cons (js_fldI (isL_ok (Cs := (cs_Port A)) ⟨⟨T.c_Plain, T.n_Plain_other⟩, ⟨T.c_Tunnel, T.n_Tunnel_other⟩, ⟨T.c_Trunk, T.n_Trunk_other⟩, ⟨T.c_Loose, T.n_Loose_other⟩, trivial⟩) (je_var 3))
  (jb_one (js_fldI (isL_ok (Cs := (cs_Port A)) ⟨⟨T.c_Plain, T.n_Plain_bare⟩, ⟨T.c_Tunnel, T.n_Tunnel_bare⟩, ⟨T.c_Trunk, T.n_Trunk_bare⟩, ⟨T.c_Loose, T.n_Loose_bare⟩, trivial⟩) (je_var 4))))))))))
def c_Trunk___init___e1 (A : Ad) : Env → Dr → Out E := (fCall gTupD (aCons (fVar 4) (aCons (fVar 4) aNil)))
def c_Trunk___init___e2 (A : Ad) : Env → Dr → Out E := (fCall gTupD (aCons (fVar 4) (aCons (fVar 4) (aCons (fC (.bl false)) aNil))))
def b_Trunk___init__ (A : Ad) : Env → Dr → SO := (sSeq (sDrop (fUse 1 (F_check_rooms A) (aCons (fVar 1) aNil)))
  (sSeq (sDrop (fUse 1 (F_check_room A) (aCons (fVar 2) aNil)))
  (sSeq (sSet 3 (fLc (fItrs true (fVar 1)) (tgN 4) (fTst (fOp gNe (fVar 4) (fVar 2))) (c_Trunk___init___e1 A) [4]))
  (sSeq (sIf (fTst (fOp gNotN (fVar 2) (fC .non))) (sApp 3 (fCall gTupD (aCons (fVar 2) (aCons (fC .non) aNil)))) sNx)
  (sSeq (sSup (isL (cs_Trunk A)) 2 1 (F_Port___init__ A) (fun os ks => os ++ (.v .non :: ks)) (aCons (fLc (fItrs true (fVar 1)) (tgN 4) fYes (c_Trunk___init___e2 A) [4]) (aCons (fVar 3) aNil)) (aCons (fVar 2) aNil))
  (sSeq (sFldI (isL (cs_Trunk A)) "rooms" (fCall gTupleOf (aCons (fCall gSortF (aCons (fVar 1) aNil)) aNil)))
  (sFldI (isL (cs_Trunk A)) "native" (fVar 2))))))))
def F_Trunk___init__ (A : Ad) : Addr → List (Str × Dn.D) → List O → Dr → Out (List (Str × Dn.D)) := runI ns_Trunk___init__.length (b_Trunk___init__ A)
theorem ok_Trunk___init__ (T : Txt P K mg A) : FnOk P w K mg base (L2.CX P w) 6 T.d_Trunk___init__.f T.d_Trunk___init__.fd ["self", "rooms", "native"] (spI (BB K dr rs cl) 3 (F_Trunk___init__ A)) :=
  ji_mkS' (k := 5) T.d_Trunk___init__ sc_Trunk___init__ fun a A1 outer s H E hr => (jba_cons (JS.at (js_expr (je_call (fn_at a (ok_check_rooms T)) (hr.mono (by first | omega | decide)) T.d_check_rooms.m T.d_check_rooms.k T.d_check_rooms.b (takes_of rfl rfl rfl rfl) (ja_cons (je_var 1) ja_nil))))
  (jba_cons (JS.at (js_expr (je_call (fn_at a (ok_check_room T)) (hr.mono (by first | omega | decide)) T.d_check_room.m T.d_check_room.k T.d_check_room.b (takes_of rfl rfl rfl rfl) (ja_cons (je_var 2) ja_nil))))
  (jba_cons (JS.at (js_setLc 3 false (own := [("room", 4)]) rfl sc_Trunk___init__.nd (ji_seqs rfl (je_var 1)) (blk_of (N := ns_Trunk___init__) (sc := defScope s_Trunk___init__) rfl rfl ⟨rfl, by decide +kernel, by decide +kernel, by decide +kernel, by decide +kernel⟩) (fun _ _ _ _ _ => (jg_name 4 sc_Trunk___init__.nd)) (jts_one fun _ _ _ _ _ => (jt_cmp (op_neD hr.units) oj_ne (je_var 4) (je_var 2))) (fun _ _ _ _ _ => (je_tup (ja_cons (je_var 4) (ja_cons (je_var 4) ja_nil))))))
  (jba_cons (JS.at (js_if (jt_cmp op_notN oj_notN (je_var 2) je_non) (jb_one (js_app 3 rfl (je_tup (ja_cons (je_var 2) (ja_cons je_non ja_nil))))) jb_nil))
  (jba_cons (js_sup T.d_Trunk___init__.sf (isL_ok (Cs := (cs_Trunk A)) ⟨T.u_Trunk_Trunk, T.u_Loose_Trunk, trivial⟩) (in_at a (ok_Port___init__ T)) (hr.mono (by first | omega | decide)) (kb_Port_2_bare T) gvo_non rfl (takes_of rfl rfl rfl rfl) (ja_cons (je_lc (own := [("room", 4)]) rfl sc_Trunk___init__.nd (ji_seqs rfl (je_var 1)) (blk_of (N := ns_Trunk___init__) (sc := defScope s_Trunk___init__) rfl rfl ⟨rfl, by decide +kernel, by decide +kernel, by decide +kernel, by decide +kernel⟩) (fun _ _ _ _ _ => (jg_name 4 sc_Trunk___init__.nd)) jts_nil (fun _ _ _ _ _ => (je_tup (ja_cons (je_var 4) (ja_cons (je_var 4) (ja_cons je_bl ja_nil)))))) (ja_cons (je_var 3) ja_nil)) (jk_cons (je_var 2) jk_nil) cells_cls)
  (JB.at (jb_cons (js_fldI (isL_ok (Cs := (cs_Trunk A)) ⟨⟨T.c_Trunk, T.n_Trunk_rooms⟩, ⟨T.c_Loose, T.n_Loose_rooms⟩, trivial⟩) (je_callTy call_tuple_of cj_tuple T.z_tuple (ja_cons (je_sortedF rfl rfl T.z_sorted (ja_cons (je_var 1) ja_nil)) ja_nil)))
  (jb_one (js_fldI (isL_ok (Cs := (cs_Trunk A)) ⟨⟨T.c_Trunk, T.n_Trunk_native⟩, ⟨T.c_Loose, T.n_Loose_native⟩, trivial⟩) (je_var 2))))))))))
def b_Loose___init__ (A : Ad) : Env → Dr → SO := (sSeq (sDrop (fUse 1 (F_check_rooms A) (aCons (fVar 1) aNil)))
  (sSeq (sIf (fNot (fTst (fUse 1 (F_is_tag A) (aCons (fVar 2) aNil)))) (sRaise A.C_BadTag ["value"] (aCons (fVar 2) aNil)) sNx)
  (sSeq (sSup (isL (cs_Loose A)) 1 1 (F_Trunk___init__ A) (fun os ks => os ++ ks) (aCons (fVar 1) aNil) (aCons (fVar 2) aNil))
  (sSeq (sFldI (isL (cs_Loose A)) "other" (fVar 2))
  (sFldI (isL (cs_Loose A)) "inner" (fVar 2))))))
def F_Loose___init__ (A : Ad) : Addr → List (Str × Dn.D) → List O → Dr → Out (List (Str × Dn.D)) := runI ns_Loose___init__.length (b_Loose___init__ A)
theorem ok_Loose___init__ (T : Txt P K mg A) : FnOk P w K mg base (L2.CX P w) 7 T.d_Loose___init__.f T.d_Loose___init__.fd ["self", "rooms", "native"] (spI (BB K dr rs cl) 3 (F_Loose___init__ A)) :=
  ji_mkS' (k := 6) T.d_Loose___init__ sc_Loose___init__ fun a A1 outer s H E hr => (jba_cons (JS.at (js_expr (je_call (fn_at a (ok_check_rooms T)) (hr.mono (by first | omega | decide)) T.d_check_rooms.m T.d_check_rooms.k T.d_check_rooms.b (takes_of rfl rfl rfl rfl) (ja_cons (je_var 1) ja_nil))))
  (jba_cons (JS.at (js_if (jt_not (jt_val (je_call (fn_at a (ok_is_tag T)) (hr.mono (by first | omega | decide)) T.d_is_tag.m T.d_is_tag.k T.d_is_tag.b (takes_of rfl rfl rfl rfl) (ja_cons (je_var 2) ja_nil)))) (jb_one (js_raise T.x_BadTag.T T.x_BadTag.iC T.x_BadTag.tI (ok_x_BadTag T) (hr.mono (by first | omega | decide)) T.x_BadTag.b T.x_BadTag.m rfl (takes_of rfl rfl rfl rfl) (by decide) (ja_cons (je_var 2) ja_nil))) jb_nil))
  (jba_cons (js_sup T.d_Loose___init__.sf (isL_ok (Cs := (cs_Loose A)) ⟨T.u_Loose_Loose, trivial⟩) (in_at a (ok_Trunk___init__ T)) (hr.mono (by first | omega | decide)) (kb_Trunk_1_native T) gvo_app rfl (takes_of rfl rfl rfl rfl) (ja_cons (je_var 1) ja_nil) (jk_cons (je_var 2) jk_nil) cells_cls)
  (JB.at (jb_cons (js_fldI (isL_ok (Cs := (cs_Loose A)) ⟨⟨T.c_Loose, T.n_Loose_other⟩, trivial⟩) (je_var 2))
  (jb_one (js_fldI (isL_ok (Cs := (cs_Loose A)) ⟨⟨T.c_Loose, T.n_Loose_inner⟩, trivial⟩) (je_var 2))))))))
def b__law_made (A : Ad) : Env → Dr → SO := (sSeq (sIf (fTst (fOp gEq (fVar 0) (fC (.str "loose")))) (sRet (fMakeK A.C_Loose 1 1 (F_Loose___init__ A) (fun os ks => os ++ ks) (aCons (fVar 1) aNil) (aCons (fVar 2) aNil))) sNx)
  (sRet (fMakeK A.C_Trunk 1 1 (F_Trunk___init__ A) (fun os ks => os ++ ks) (aCons (fVar 1) aNil) (aCons (fVar 2) aNil))))
def F__law_made (A : Ad) : List O → Dr → Out E := runF ns__law_made.length (b__law_made A)
theorem ok__law_made (T : Txt P K mg A) : FnOk P w K mg base (L2.CX P w) 9 T.d__law_made.f T.d__law_made.fd ["_law_kind", "_law_rooms", "_law_home"] (spF (BB K dr rs cl) 3 (F__law_made A)) :=
  jf_mk (k := 8) T.d__law_made.F sc__law_made fun cdv A1 outer s H E hr => (jb_cons (js_if (jt_cmp (op_eqD hr.units) oj_eq (je_var 0) je_str) (jb_one (js_ret (je_makeK T.k_Loose (ok_Loose___init__ T) (hr.mono (by first | omega | decide)) T.m_Loose (kb_Loose_1_native T) gvo_app rfl (takes_of rfl rfl rfl rfl) (ja_cons (je_var 1) ja_nil) (jk_cons (je_var 2) jk_nil)))) jb_nil)
  (jb_one (js_ret (je_makeK T.k_Trunk (ok_Trunk___init__ T) (hr.mono (by first | omega | decide)) T.m_Trunk (kb_Trunk_1_native T) gvo_app rfl (takes_of rfl rfl rfl rfl) (ja_cons (je_var 1) ja_nil) (jk_cons (je_var 2) jk_nil)))))
def c__law_equal_e1 (A : Ad) (F : List O → Dr → Out E) : Env → Dr → Out E := (fUse 2 F (aCons (fVar 2) (aCons (fVar 3) aNil)))
def b__law_equal (A : Ad) (F : List O → Dr → Out E) : Env → Dr → SO := (sSeq (sIf (fAnd (fTst (fIsi2 "tuple" "list" (fVar 0))) (fTst (fIsi2 "tuple" "list" (fVar 1)))) (sSeq (sIf (fOr (fTst (fOp gNe (fIsi "tuple" (fVar 0)) (fIsi "tuple" (fVar 1)))) (fTst (fOp gNe (fCall gLen (aCons (fVar 0) aNil)) (fCall gLen (aCons (fVar 1) aNil))))) (sRet (fC (.bl false))) sNx)
  (sRet (fCall gAll (aCons (fLc (fItC (gZip true) (aCons (fVar 0) (aCons (fVar 1) aNil))) (tgT 2 (tgCons (tgN 2) (tgCons (tgN 3) tgNil))) fYes (c__law_equal_e1 A F) [2, 3]) aNil)))) sNx)
  (sSeq (sIf (fOr (fTst (fIsi2 "tuple" "list" (fVar 0))) (fTst (fIsi2 "tuple" "list" (fVar 1)))) (sRet (fC (.bl false))) sNx)
  (sSeq (sIf (fOr (fTst (fIsi "bool" (fVar 0))) (fTst (fIsi "bool" (fVar 1)))) (sRet (fAndV (fIsi "bool" (fVar 0)) (fAndV (fIsi "bool" (fVar 1)) (fOp gEq (fVar 0) (fVar 1))))) sNx)
  (sSeq (sIf (fOr (fTst (fOp gNe (fIsi "int" (fVar 0)) (fIsi "int" (fVar 1)))) (fTst (fOp gNe (fIsi "str" (fVar 0)) (fIsi "str" (fVar 1))))) (sRet (fC (.bl false))) sNx)
  (sRet (fAndV (fOp gEq (fOp gIsN (fVar 0) (fC .non)) (fOp gIsN (fVar 1) (fC .non))) (fOp gEq (fVar 0) (fVar 1))))))))
def F__law_equal (A : Ad) : Nat → List O → Dr → Out E
  | 0 => fun _ _ => .stk
  | n + 1 => runF ns__law_equal.length (b__law_equal A (F__law_equal A n))
theorem ok__law_equal (T : Txt P K mg A) : ∀ n : Nat, FnOk P w K mg base (L2.CX P w) (1 + n) T.d__law_equal.f T.d__law_equal.fd ["_law_one_here", "_law_second"] (spF (BB K dr rs cl) 2 (F__law_equal A n))
  | 0 => (fnok_stk (by decide)).mono (by omega)
  | n + 1 => by
    have G := ok__law_equal T n
    exact jf_mk (k := 1 + n) T.d__law_equal.F sc__law_equal fun cdv A1 outer s H E hr => (jb_cons (js_if (JW.jt (jw_and (jt_val (je_isi2 rfl T.z_isinstance (je_var 0) T.z_tuple (by decide +kernel) T.z_list (by decide +kernel))) (jw_and1 (jt_val (je_isi2 rfl T.z_isinstance (je_var 1) T.z_tuple (by decide +kernel) T.z_list (by decide +kernel)))))) (jb_cons (js_if (JW.jt (jw_or (jt_cmp (op_neD hr.units) oj_ne (je_isi rfl T.z_isinstance (je_var 0) T.z_tuple (by decide +kernel)) (je_isi rfl T.z_isinstance (je_var 1) T.z_tuple (by decide +kernel))) (jw_or1 (jt_cmp (op_neD hr.units) oj_ne (je_len rfl T.z_len (ja_cons (je_var 0) ja_nil)) (je_len rfl T.z_len (ja_cons (je_var 1) ja_nil)))))) (jb_one (js_ret je_bl)) jb_nil)
  (jb_one (js_ret (je_callB (cr_all rfl) cj_all T.z_all (ja_cons (je_lc (own := [("_law_left", 2), ("_law_right", 3)]) rfl sc__law_equal.nd (ji_zip rfl T.z_zip (ja_cons (je_var 0) (ja_cons (je_var 1) ja_nil))) (blk_of (N := ns__law_equal) (sc := defScope s__law_equal) rfl rfl ⟨rfl, by decide +kernel, by decide +kernel, by decide +kernel, by decide +kernel⟩) (fun _ _ _ _ _ => (jg_tup rfl rfl (jgs_cons (jg_name 2 sc__law_equal.nd) (jgs_cons (jg_name 3 sc__law_equal.nd) jgs_nil)))) jts_nil (fun _ _ _ _ _ => (je_call G hr T.d__law_equal.m T.d__law_equal.k T.d__law_equal.b takes0 (ja_cons (je_var 2) (ja_cons (je_var 3) ja_nil))))) ja_nil))))) jb_nil)
  (jb_cons (js_if (JW.jt (jw_or (jt_val (je_isi2 rfl T.z_isinstance (je_var 0) T.z_tuple (by decide +kernel) T.z_list (by decide +kernel))) (jw_or1 (jt_val (je_isi2 rfl T.z_isinstance (je_var 1) T.z_tuple (by decide +kernel) T.z_list (by decide +kernel)))))) (jb_one (js_ret je_bl)) jb_nil)
  (jb_cons (js_if (JW.jt (jw_or (jt_val (je_isi rfl T.z_isinstance (je_var 0) T.z_bool (by decide +kernel))) (jw_or1 (jt_val (je_isi rfl T.z_isinstance (je_var 1) T.z_bool (by decide +kernel)))))) (jb_one (js_ret (je_and (je_isi rfl T.z_isinstance (je_var 0) T.z_bool (by decide +kernel)) (je_and (je_isi rfl T.z_isinstance (je_var 1) T.z_bool (by decide +kernel)) (je_one (je_cmp (op_eqD hr.units) oj_eq (je_var 0) (je_var 1))))))) jb_nil)
  (jb_cons (js_if (JW.jt (jw_or (jt_cmp (op_neD hr.units) oj_ne (je_isi rfl T.z_isinstance (je_var 0) T.z_int (by decide +kernel)) (je_isi rfl T.z_isinstance (je_var 1) T.z_int (by decide +kernel))) (jw_or1 (jt_cmp (op_neD hr.units) oj_ne (je_isi rfl T.z_isinstance (je_var 0) T.z_str (by decide +kernel)) (je_isi rfl T.z_isinstance (je_var 1) T.z_str (by decide +kernel)))))) (jb_one (js_ret je_bl)) jb_nil)
  (jb_one (js_ret (je_and (je_cmp (op_eqD hr.units) oj_eq (je_cmp op_isN oj_isN (je_var 0) je_non) (je_cmp op_isN oj_isN (je_var 1) je_non)) (je_one (je_cmp (op_eqD hr.units) oj_eq (je_var 0) (je_var 1))))))))))
abbrev q__law_equal : Nat := 6
def b__law_told (A : Ad) : Env → Dr → SO := (sTry 5 A.mt_TagError (sSeq (sSet 3 (fIf (fTst (fIsi "list" (fVar 1))) (fCall gListOf (aCons (fVar 1) aNil)) (fVar 1)))
  (sSeq (sSetF 4 (fUse 3 (F__law_made A) (aCons (fVar 0) (aCons (fVar 3) (aCons (fVar 2) aNil)))))
  (sSeq (sIf (fNot (fTst (fUse 2 (F__law_equal A q__law_equal) (aCons (fVar 3) (aCons (fVar 1) aNil))))) (sRet (fCall gLstD (aCons (fC (.str "changed")) aNil))) sNx)
  (sSeq (sIf (fTst (fIsi "list" (fVar 3))) (sApp 3 (fC (.int 9))) sNx)
  (sRet (fCall gTupD (aCons (fFld (isL (cs_Trunk A)) "rooms" (fVar 4)) (aCons (fFld (isL (cs_Trunk A)) "native" (fVar 4)) aNil)))))))) (sSeq (sIf (fTst (fXis 5 A.is_BadEntry)) (sRet (fCall gLstD (aCons (fXf 5 A.has_part "part") (aCons (fXf 5 A.has_index "index") aNil)))) sNx)
  (sRet (fIf (fTst (fXis 5 A.is_BadTag)) (fCall gLstD (aCons (fC (.str "tag")) (aCons (fXf 5 A.has_value "value") aNil))) (fCall gLstD (aCons (fC (.str "another")) aNil))))))
def F__law_told (A : Ad) : List O → Dr → Out E := runF ns__law_told.length (b__law_told A)
theorem ok__law_told (T : Txt P K mg A) : FnOk P w K mg base (L2.CX P w) 10 T.d__law_told.f T.d__law_told.fd ["_law_kind", "_law_rooms", "_law_home"] (spF (BB K dr rs cl) 3 (F__law_told A)) :=
  jf_mk (k := 9) T.d__law_told.F sc__law_told fun cdv A1 outer s H E hr => (jb_one (js_try 5 rfl rfl sc__law_told.nd rfl rfl ⟨rfl, by decide, .inl T.t_TagError⟩ (takes_of rfl rfl rfl rfl) T.mt_TagError (fun W' pn xe tk' hp => (jb_cons (js_set 3 sc__law_told.nd (je_ifExp (jt_val (je_isi rfl T.z_isinstance (je_var 1) T.z_list (by decide +kernel))) (je_callTy call_list_of cj_list T.z_list (ja_cons (je_var 1) ja_nil)) (je_var 1)))
  (jb_cons (js_setF 4 sc__law_told.nd (je_call (ok__law_made T) (hr.mono (by first | omega | decide)) T.d__law_made.m T.d__law_made.k T.d__law_made.b tk' (ja_cons (je_var 0) (ja_cons (je_var 3) (ja_cons (je_var 2) ja_nil)))))
  (jb_cons (js_if (jt_not (jt_val (je_call (ok__law_equal T q__law_equal) (hr.mono (by first | omega | decide)) T.d__law_equal.m T.d__law_equal.k T.d__law_equal.b tk' (ja_cons (je_var 3) (ja_cons (je_var 1) ja_nil))))) (jb_one (js_ret (je_lst (ja_cons je_str ja_nil)))) jb_nil)
  (jb_cons (js_if (jt_val (je_isi rfl T.z_isinstance (je_var 3) T.z_list (by decide +kernel))) (jb_one (js_app 3 rfl je_int)) jb_nil)
  (jb_one (js_ret (je_tup (ja_cons (je_fld (isL_ok (Cs := (cs_Trunk A)) ⟨⟨T.c_Trunk, T.n_Trunk_rooms⟩, ⟨T.c_Loose, T.n_Loose_rooms⟩, trivial⟩) (je_var 4)) (ja_cons (je_fld (isL_ok (Cs := (cs_Trunk A)) ⟨⟨T.c_Trunk, T.n_Trunk_native⟩, ⟨T.c_Loose, T.n_Loose_native⟩, trivial⟩) (je_var 4)) ja_nil)))))))))) (fun a oe dd C pn hz hf => (jb_cons (js_if (jt_val (je_xis 5 T.is_BadEntry T.z_isinstance T.t_BadEntry hz hf)) (jb_one (js_ret (je_lst (ja_cons (je_xf 5 T.has_part hz hf) (ja_cons (je_xf 5 T.has_index hz hf) ja_nil))))) jb_nil)
  (jb_one (js_ret (je_ifExp (jt_val (je_xis 5 T.is_BadTag T.z_isinstance T.t_BadTag hz hf)) (je_lst (ja_cons je_str (ja_cons (je_xf 5 T.has_value hz hf) ja_nil))) (je_lst (ja_cons je_str ja_nil)))))))))
def b_Plain___init__ (A : Ad) : Env → Dr → SO := (sSeq (sIf (fNot (fTst (fUse 1 (F_is_tag A) (aCons (fVar 1) aNil)))) (sRaise A.C_BadTag ["value"] (aCons (fVar 1) aNil)) sNx)
  (sSeq (sSup (isL (cs_Plain A)) 2 1 (F_Port___init__ A) (fun os ks => os ++ (.v .non :: ks)) (aCons (fCall gTupD aNil) (aCons (fCall gTupD (aCons (fCall gTupD (aCons (fVar 1) (aCons (fC .non) aNil))) aNil)) aNil)) (aCons (fVar 1) aNil))
  (sFldI (isL (cs_Plain A)) "room" (fVar 1))))
def F_Plain___init__ (A : Ad) : Addr → List (Str × Dn.D) → List O → Dr → Out (List (Str × Dn.D)) := runI ns_Plain___init__.length (b_Plain___init__ A)
theorem ok_Plain___init__ (T : Txt P K mg A) : FnOk P w K mg base (L2.CX P w) 6 T.d_Plain___init__.f T.d_Plain___init__.fd ["self", "room"] (spI (BB K dr rs cl) 2 (F_Plain___init__ A)) :=
  ji_mkS' (k := 5) T.d_Plain___init__ sc_Plain___init__ fun a A1 outer s H E hr => (jba_cons (JS.at (js_if (jt_not (jt_val (je_call (fn_at a (ok_is_tag T)) (hr.mono (by first | omega | decide)) T.d_is_tag.m T.d_is_tag.k T.d_is_tag.b (takes_of rfl rfl rfl rfl) (ja_cons (je_var 1) ja_nil)))) (jb_one (js_raise T.x_BadTag.T T.x_BadTag.iC T.x_BadTag.tI (ok_x_BadTag T) (hr.mono (by first | omega | decide)) T.x_BadTag.b T.x_BadTag.m rfl (takes_of rfl rfl rfl rfl) (by decide) (ja_cons (je_var 1) ja_nil))) jb_nil))
  (jba_cons (js_sup T.d_Plain___init__.sf (isL_ok (Cs := (cs_Plain A)) ⟨T.u_Plain_Plain, trivial⟩) (in_at a (ok_Port___init__ T)) (hr.mono (by first | omega | decide)) (kb_Port_2_bare T) gvo_non rfl (takes_of rfl rfl rfl rfl) (ja_cons (je_tup ja_nil) (ja_cons (je_tup (ja_cons (je_tup (ja_cons (je_var 1) (ja_cons je_non ja_nil))) ja_nil)) ja_nil)) (jk_cons (je_var 1) jk_nil) cells_cls)
  (JB.at (jb_one (js_fldI (isL_ok (Cs := (cs_Plain A)) ⟨⟨T.c_Plain, T.n_Plain_room⟩, trivial⟩) (je_var 1))))))
def b_Tunnel___init__ (A : Ad) : Env → Dr → SO := (sSeq (sIf (fNot (fTst (fUse 1 (F_is_tag A) (aCons (fVar 1) aNil)))) (sRaise A.C_BadTag ["value"] (aCons (fVar 1) aNil)) sNx)
  (sSeq (sSup (isL (cs_Tunnel A)) 2 2 (F_Port___init__ A) (fun os ks => os ++ ks) (aCons (fCall gTupD aNil) (aCons (fCall gTupD (aCons (fCall gTupD (aCons (fVar 1) (aCons (fC .non) aNil))) aNil)) aNil)) (aCons (fVar 1) (aCons (fVar 1) aNil)))
  (sSeq (sFldI (isL (cs_Tunnel A)) "room" (fVar 1))
  (sFldI (isL (cs_Tunnel A)) "inner" (fVar 1)))))
def F_Tunnel___init__ (A : Ad) : Addr → List (Str × Dn.D) → List O → Dr → Out (List (Str × Dn.D)) := runI ns_Tunnel___init__.length (b_Tunnel___init__ A)
theorem ok_Tunnel___init__ (T : Txt P K mg A) : FnOk P w K mg base (L2.CX P w) 6 T.d_Tunnel___init__.f T.d_Tunnel___init__.fd ["self", "room"] (spI (BB K dr rs cl) 2 (F_Tunnel___init__ A)) :=
  ji_mkS' (k := 5) T.d_Tunnel___init__ sc_Tunnel___init__ fun a A1 outer s H E hr => (jba_cons (JS.at (js_if (jt_not (jt_val (je_call (fn_at a (ok_is_tag T)) (hr.mono (by first | omega | decide)) T.d_is_tag.m T.d_is_tag.k T.d_is_tag.b (takes_of rfl rfl rfl rfl) (ja_cons (je_var 1) ja_nil)))) (jb_one (js_raise T.x_BadTag.T T.x_BadTag.iC T.x_BadTag.tI (ok_x_BadTag T) (hr.mono (by first | omega | decide)) T.x_BadTag.b T.x_BadTag.m rfl (takes_of rfl rfl rfl rfl) (by decide) (ja_cons (je_var 1) ja_nil))) jb_nil))
  (jba_cons (js_sup T.d_Tunnel___init__.sf (isL_ok (Cs := (cs_Tunnel A)) ⟨T.u_Tunnel_Tunnel, trivial⟩) (in_at a (ok_Port___init__ T)) (hr.mono (by first | omega | decide)) (kb_Port_2_other_bare T) gvo_app rfl (takes_of rfl rfl rfl rfl) (ja_cons (je_tup ja_nil) (ja_cons (je_tup (ja_cons (je_tup (ja_cons (je_var 1) (ja_cons je_non ja_nil))) ja_nil)) ja_nil)) (jk_cons (je_var 1) (jk_cons (je_var 1) jk_nil)) cells_cls)
  (JB.at (jb_cons (js_fldI (isL_ok (Cs := (cs_Tunnel A)) ⟨⟨T.c_Tunnel, T.n_Tunnel_room⟩, trivial⟩) (je_var 1))
  (jb_one (js_fldI (isL_ok (Cs := (cs_Tunnel A)) ⟨⟨T.c_Tunnel, T.n_Tunnel_inner⟩, trivial⟩) (je_var 1)))))))
def b__law_single (A : Ad) : Env → Dr → SO := (sTry 2 A.mt_BadTag (sRet (fIf (fTst (fOp gEq (fVar 0) (fC (.str "plain")))) (fFld (isL (cs_Single A)) "room" (fMakeK A.C_Plain 1 0 (F_Plain___init__ A) (fun os ks => os ++ ks) (aCons (fVar 1) aNil) aNil)) (fFld (isL (cs_Single A)) "room" (fMakeK A.C_Tunnel 1 0 (F_Tunnel___init__ A) (fun os ks => os ++ ks) (aCons (fVar 1) aNil) aNil)))) (sRet (fCall gLstD (aCons (fXf 2 A.has_value "value") aNil))))
def F__law_single (A : Ad) : List O → Dr → Out E := runF ns__law_single.length (b__law_single A)
theorem ok__law_single (T : Txt P K mg A) : FnOk P w K mg base (L2.CX P w) 8 T.d__law_single.f T.d__law_single.fd ["_law_kind", "_law_room"] (spF (BB K dr rs cl) 2 (F__law_single A)) :=
  jf_mk (k := 7) T.d__law_single.F sc__law_single fun cdv A1 outer s H E hr => (jb_one (js_try 2 rfl rfl sc__law_single.nd rfl rfl ⟨rfl, by decide, .inl T.t_BadTag⟩ (takes_of rfl rfl rfl rfl) T.mt_BadTag (fun W' pn xe tk' hp => (jb_one (js_ret (je_ifExp (jt_cmp (op_eqD hr.units) oj_eq (je_var 0) je_str) (je_fld (isL_ok (Cs := (cs_Single A)) ⟨⟨T.c_Plain, T.n_Plain_room⟩, ⟨T.c_Tunnel, T.n_Tunnel_room⟩, trivial⟩) (je_makeK T.k_Plain (ok_Plain___init__ T) (hr.mono (by first | omega | decide)) T.m_Plain (kb_Plain_1_ T) gvo_app rfl tk' (ja_cons (je_var 1) ja_nil) jk_nil)) (je_fld (isL_ok (Cs := (cs_Single A)) ⟨⟨T.c_Plain, T.n_Plain_room⟩, ⟨T.c_Tunnel, T.n_Tunnel_room⟩, trivial⟩) (je_makeK T.k_Tunnel (ok_Tunnel___init__ T) (hr.mono (by first | omega | decide)) T.m_Tunnel (kb_Tunnel_1_ T) gvo_app rfl tk' (ja_cons (je_var 1) ja_nil) jk_nil)))))) (fun a oe dd C pn hz hf => (jb_one (js_ret (je_lst (ja_cons (je_xf 2 T.has_value hz hf) ja_nil)))))))
def b_law_t1 (A : Ad) : Env → Dr → SO := (sSeq (sSetF 8 (fIf (fTst (fUse 1 (F__law_tag A) (aCons (fVar 7) aNil))) (fVar 7) (fCall gLstD (aCons (fVar 7) aNil))))
  (sIf (fNot (fTst (fUse 2 (F__law_equal A q__law_equal) (aCons (fCall gLstD (aCons (fUse 2 (F__law_single A) (aCons (fC (.str "plain")) (aCons (fVar 7) aNil))) (aCons (fUse 2 (F__law_single A) (aCons (fC (.str "tunnel")) (aCons (fVar 7) aNil))) aNil))) (aCons (fCall gLstD (aCons (fVar 8) (aCons (fVar 8) aNil))) aNil))))) (sRet (fC (.bl false))) sNx))
def b_law_t2 (A : Ad) : Env → Dr → SO := (sSeq (sSetF 7 (fUse 2 (F__law_one A) (aCons (fVar 1) (aCons (fOp gAdd (fVar 2) (fCall gLstD (aCons (fC (.int 1)) (aCons (fC (.int 4094)) (aCons (fOp gAdd (fC (.int 1)) (fUse 2 nextF (aCons (fVar 1) (aCons (fC (.int 4094)) aNil)))) (aCons (fOp gAdd (fC (.int 1)) (fUse 2 nextF (aCons (fVar 1) (aCons (fC (.int 4094)) aNil)))) aNil)))))) aNil))))
  (b_law_t1 A))
def b_law_t3 (A : Ad) : Env → Dr → SO := (sSeq (sIf (fNot (fTst (fUse 2 (F__law_equal A q__law_equal) (aCons (fUse 3 (F__law_told A) (aCons (fVar 4) (aCons (fVar 5) (aCons (fVar 6) aNil)))) (aCons (fUse 3 (F__law_due A) (aCons (fVar 4) (aCons (fVar 5) (aCons (fVar 6) aNil)))) aNil))))) (sRet (fC (.bl false))) sNx)
  (b_law_t2 A))
def b_law_t4 (A : Ad) : Env → Dr → SO := (sSeq (sIf (fAnd (fTst (fIsi2 "list" "tuple" (fVar 5))) (fAnd (fTst (fOp gGt (fCall gLen (aCons (fVar 5) aNil)) (fC (.int 0)))) (fTst (fOp gEq (fUse 2 nextF (aCons (fVar 1) (aCons (fC (.int 3)) aNil))) (fC (.int 0)))))) (sSetF 6 (fOp gIx (fVar 5) (fUse 2 nextF (aCons (fVar 1) (aCons (fCall gLen (aCons (fVar 5) aNil)) aNil))))) sNx)
  (b_law_t3 A))
def b_law_t5 (A : Ad) : Env → Dr → SO := (sSeq (sSetF 6 (fUse 2 (F__law_one A) (aCons (fVar 1) (aCons (fOp gAdd (fCall gLstD (aCons (fOp gAdd (fC (.int 1)) (fUse 2 nextF (aCons (fVar 1) (aCons (fC (.int 4094)) aNil)))) (aCons (fC (.int 4094)) (aCons (fC (.int 1)) (aCons (fC (.int 5)) aNil))))) (fSl oNone (oSome (fC (.int 6))) (fVar 2))) aNil))))
  (b_law_t4 A))
def b_law_t6 (A : Ad) : Env → Dr → SO := (sSeq (sSetF 5 (fUse 1 (F__law_rooms_drawn A) (aCons (fVar 1) aNil)))
  (b_law_t5 A))
def b_law_l1 (A : Ad) : Env → Dr → SO := (sSeq (sSetF 4 (fOp gIx (fCall gLstD (aCons (fC (.str "trunk")) (aCons (fC (.str "loose")) aNil))) (fOp gMod (fVar 3) (fC (.int 2)))))
  (b_law_t6 A))
def b_law_t7 (A : Ad) : Env → Dr → SO := (sSeq (sFor (fItC gRng1 (aCons (fC (.int 8)) aNil)) (tgN 3) (b_law_l1 A))
  (sRet (fAndV (fUse 2 (F__law_equal A q__law_equal) (aCons (fFld (isL (cs_Trunk A)) "native" (fMakeK A.C_Trunk 1 0 (F_Trunk___init__ A) (fun os ks => os ++ (.v .non :: ks)) (aCons (fCall gTupD (aCons (fC (.int 4094)) (aCons (fC (.int 1)) aNil))) aNil) aNil)) (aCons (fC .non) aNil))) (fUse 2 (F__law_equal A q__law_equal) (aCons (fFld (isL (cs_Trunk A)) "rooms" (fMakeK A.C_Trunk 1 0 (F_Trunk___init__ A) (fun os ks => os ++ (.v .non :: ks)) (aCons (fCall gLstD (aCons (fC (.int 4094)) (aCons (fC (.int 1)) aNil))) aNil) aNil)) (aCons (fCall gTupD (aCons (fC (.int 1)) (aCons (fC (.int 4094)) aNil))) aNil))))))
def b_law (A : Ad) : Env → Dr → SO := (sSeq (sSetF 2 (fCall gLstD (aCons (fC .non) (aCons (fC (.int 0)) (aCons (fC (.int 4095)) (aCons (fC (.bl true)) (aCons (fC (.bl false)) (aCons (fC (.str "5")) (aCons (fCall gTupD (aCons (fC (.int 5)) aNil)) (aCons (fCall gLstD aNil) (aCons (fUn gNeg (fC (.int 1))) (aCons (fOp gPow (fC (.int 10)) (fC (.int 30))) aNil))))))))))))
  (b_law_t7 A))
theorem ok_law {f : Addr} {fd : FuncData} (F : Fun K "law" "law" s_law f fd) (T : Txt P K mg A) (hg : ∀ ns : List Int, ns.length ≤ 63 → ∃ S', b_law A (startL ns_law.length ns) (startS ns) = .rt (.v (.bl true)) S') : FnOk P w K mg base (L2.CX P w) 11 f fd ["_law_script"] (spLaw K) :=
  law_mk (k := 9) F sc_law T.d__law_draws (ok__law_draws T.d__law_draws.F T.z_int T.z_len T.z_list) rfl (by decide)
    (fun cdv A1 outer s H E hr => ps_set (i := 1) sc_law.nd rfl (by first | exact .inl rfl | exact .inr rfl) (pe_call (ok__law_draws T.d__law_draws.F T.z_int T.z_len T.z_list) (hr.mono (by first | omega | decide)) rfl T.d__law_draws.m T.d__law_draws.k T.d__law_draws.b .nil (passes_call (takes_of rfl rfl rfl rfl) fun _ _ _ _ h => h) (pa_cons (pv 0) pa_nil)))
    (fun dr rs cl cdv A1 outer s H E hr => (jb_cons (js_setF 2 sc_law.nd (je_lst (ja_cons je_non (ja_cons je_int (ja_cons je_int (ja_cons je_bl (ja_cons je_bl (ja_cons je_str (ja_cons (je_tup (ja_cons je_int ja_nil)) (ja_cons (je_lst ja_nil) (ja_cons (je_neg je_int) (ja_cons (je_pow je_int je_int) ja_nil))))))))))))
  (jb_cons (js_for (passes_of rfl) rfl (ji_range1 T.z_range (ja_cons je_int ja_nil)) (jg_name 3 sc_law.nd) (jb_cons (js_setF 4 sc_law.nd (je_ix rfl (je_lst (ja_cons je_str (ja_cons je_str ja_nil))) (je_mod (je_var 3) je_int)))
  (jb_cons (js_setF 5 sc_law.nd (je_call (ok__law_rooms_drawn T) (hr.mono (by first | omega | decide)) T.d__law_rooms_drawn.m T.d__law_rooms_drawn.k T.d__law_rooms_drawn.b (takes_of rfl rfl rfl rfl) (ja_cons (je_var 1) ja_nil)))
  (jb_cons (js_setF 6 sc_law.nd (je_call (ok__law_one T) (hr.mono (by first | omega | decide)) T.d__law_one.m T.d__law_one.k T.d__law_one.b (takes_of rfl rfl rfl rfl) (ja_cons (je_var 1) (ja_cons (je_add rfl (je_lst (ja_cons (je_add rfl je_int (je_call (ok__law_next T.d__law_next.F T.z_int T.z_len) (hr.mono (by first | omega | decide)) T.d__law_next.m T.d__law_next.k T.d__law_next.b (takes_of rfl rfl rfl rfl) (ja_cons (je_var 1) (ja_cons je_int ja_nil)))) (ja_cons je_int (ja_cons je_int (ja_cons je_int ja_nil))))) (je_slice rfl (je_var 2) jo_none (jo_some je_int))) ja_nil))))
  (jb_cons (js_if (JW.jt (jw_and (jt_val (je_isi2 rfl T.z_isinstance (je_var 5) T.z_list (by decide +kernel) T.z_tuple (by decide +kernel))) (jw_and (jt_cmp op_gt oj_gt (je_len rfl T.z_len (ja_cons (je_var 5) ja_nil)) je_int) (jw_and1 (jt_cmp (op_eqD hr.units) oj_eq (je_call (ok__law_next T.d__law_next.F T.z_int T.z_len) (hr.mono (by first | omega | decide)) T.d__law_next.m T.d__law_next.k T.d__law_next.b (takes_of rfl rfl rfl rfl) (ja_cons (je_var 1) (ja_cons je_int ja_nil))) je_int))))) (jb_one (js_setF 6 sc_law.nd (je_ix rfl (je_var 5) (je_call (ok__law_next T.d__law_next.F T.z_int T.z_len) (hr.mono (by first | omega | decide)) T.d__law_next.m T.d__law_next.k T.d__law_next.b (takes_of rfl rfl rfl rfl) (ja_cons (je_var 1) (ja_cons (je_len rfl T.z_len (ja_cons (je_var 5) ja_nil)) ja_nil)))))) jb_nil)
  (jb_cons (js_if (jt_not (jt_val (je_call (ok__law_equal T q__law_equal) (hr.mono (by first | omega | decide)) T.d__law_equal.m T.d__law_equal.k T.d__law_equal.b (takes_of rfl rfl rfl rfl) (ja_cons (je_call (ok__law_told T) (hr.mono (by first | omega | decide)) T.d__law_told.m T.d__law_told.k T.d__law_told.b (takes_of rfl rfl rfl rfl) (ja_cons (je_var 4) (ja_cons (je_var 5) (ja_cons (je_var 6) ja_nil)))) (ja_cons (je_call (ok__law_due T) (hr.mono (by first | omega | decide)) T.d__law_due.m T.d__law_due.k T.d__law_due.b (takes_of rfl rfl rfl rfl) (ja_cons (je_var 4) (ja_cons (je_var 5) (ja_cons (je_var 6) ja_nil)))) ja_nil))))) (jb_one (js_ret je_bl)) jb_nil)
  (jb_cons (js_setF 7 sc_law.nd (je_call (ok__law_one T) (hr.mono (by first | omega | decide)) T.d__law_one.m T.d__law_one.k T.d__law_one.b (takes_of rfl rfl rfl rfl) (ja_cons (je_var 1) (ja_cons (je_add rfl (je_var 2) (je_lst (ja_cons je_int (ja_cons je_int (ja_cons (je_add rfl je_int (je_call (ok__law_next T.d__law_next.F T.z_int T.z_len) (hr.mono (by first | omega | decide)) T.d__law_next.m T.d__law_next.k T.d__law_next.b (takes_of rfl rfl rfl rfl) (ja_cons (je_var 1) (ja_cons je_int ja_nil)))) (ja_cons (je_add rfl je_int (je_call (ok__law_next T.d__law_next.F T.z_int T.z_len) (hr.mono (by first | omega | decide)) T.d__law_next.m T.d__law_next.k T.d__law_next.b (takes_of rfl rfl rfl rfl) (ja_cons (je_var 1) (ja_cons je_int ja_nil)))) ja_nil)))))) ja_nil))))
  (jb_cons (js_setF 8 sc_law.nd (je_ifExp (jt_val (je_call (ok__law_tag T) (hr.mono (by first | omega | decide)) T.d__law_tag.m T.d__law_tag.k T.d__law_tag.b (takes_of rfl rfl rfl rfl) (ja_cons (je_var 7) ja_nil))) (je_var 7) (je_lst (ja_cons (je_var 7) ja_nil))))
  (jb_one (js_if (jt_not (jt_val (je_call (ok__law_equal T q__law_equal) (hr.mono (by first | omega | decide)) T.d__law_equal.m T.d__law_equal.k T.d__law_equal.b (takes_of rfl rfl rfl rfl) (ja_cons (je_lst (ja_cons (je_call (ok__law_single T) (hr.mono (by first | omega | decide)) T.d__law_single.m T.d__law_single.k T.d__law_single.b (takes_of rfl rfl rfl rfl) (ja_cons je_str (ja_cons (je_var 7) ja_nil))) (ja_cons (je_call (ok__law_single T) (hr.mono (by first | omega | decide)) T.d__law_single.m T.d__law_single.k T.d__law_single.b (takes_of rfl rfl rfl rfl) (ja_cons je_str (ja_cons (je_var 7) ja_nil))) ja_nil))) (ja_cons (je_lst (ja_cons (je_var 8) (ja_cons (je_var 8) ja_nil))) ja_nil))))) (jb_one (js_ret je_bl)) jb_nil))))))))))
  (jb_one (js_ret (je_and (je_call (ok__law_equal T q__law_equal) (hr.mono (by first | omega | decide)) T.d__law_equal.m T.d__law_equal.k T.d__law_equal.b (takes_of rfl rfl rfl rfl) (ja_cons (je_fld (isL_ok (Cs := (cs_Trunk A)) ⟨⟨T.c_Trunk, T.n_Trunk_native⟩, ⟨T.c_Loose, T.n_Loose_native⟩, trivial⟩) (je_makeK T.k_Trunk (ok_Trunk___init__ T) (hr.mono (by first | omega | decide)) T.m_Trunk (kb_Trunk_1_ T) gvo_non rfl (takes_of rfl rfl rfl rfl) (ja_cons (je_tup (ja_cons je_int (ja_cons je_int ja_nil))) ja_nil) jk_nil)) (ja_cons je_non ja_nil))) (je_one (je_call (ok__law_equal T q__law_equal) (hr.mono (by first | omega | decide)) T.d__law_equal.m T.d__law_equal.k T.d__law_equal.b (takes_of rfl rfl rfl rfl) (ja_cons (je_fld (isL_ok (Cs := (cs_Trunk A)) ⟨⟨T.c_Trunk, T.n_Trunk_rooms⟩, ⟨T.c_Loose, T.n_Loose_rooms⟩, trivial⟩) (je_makeK T.k_Trunk (ok_Trunk___init__ T) (hr.mono (by first | omega | decide)) T.m_Trunk (kb_Trunk_1_ T) gvo_non rfl (takes_of rfl rfl rfl rfl) (ja_cons (je_lst (ja_cons je_int (ja_cons je_int ja_nil))) ja_nil) jk_nil)) (ja_cons (je_tup (ja_cons je_int (ja_cons je_int ja_nil))) ja_nil)))))))))) hg
end
end Dn
set_option Elab.async false
set_option linter.all false
set_option maxRecDepth 100000
set_option maxHeartbeats 4000000
namespace Dn
open PySem PySem.Spec PyProof.Rows L2 TL
/-! ### _law_equal -/
section
variable {A : Ad} {S : Dr}
def asD : O → D
  | .v d => d
  | .lt ds => .lst ds
  | _ => .non
def Ar (o : O) : Prop := (∃ d, o = .v d) ∨ ∃ ds, o = .lt ds
theorem eq_atom {n : Nat} {d1 d2 : D} (h1 : Pl 1 d1) (h2 : Pl 1 d2) (k1 : ∀ ds, d1 ≠ .tup ds ∧ d1 ≠ .lst ds) (k2 : ∀ ds, d2 ≠ .tup ds ∧ d2 ≠ .lst ds) : ∃ b, F__law_equal A (n + 1) [.v d1, .v d2] S = .ok (.v (.bl b)) S ∧ (b = true ↔ d1 = d2) := by
  cases d1 <;> cases d2 <;> first | exact h1.elim | exact h2.elim | exact absurd rfl (k1 _).1 | exact absurd rfl (k1 _).2 | exact absurd rfl (k2 _).1 | exact absurd rfl (k2 _).2 | skip
  case non.non => exact ⟨true, rfl, by simp⟩
  case bl.bl a b => exact ⟨_, rfl, by cases a <;> cases b <;> simp [PyData.eqv]⟩
  case int.int a b => exact ⟨_, rfl, by simp [PyData.eqv]⟩
  case str.str a b =>
    have e : gEq (.v (.str a)) (.v (.str b)) = some (.v (.bl (PyData.eqv (.str a) (.str b)))) := if_pos ⟨h1, h2⟩
    have t : F__law_equal A (n + 1) [.v (.str a), .v (.str b)] S = (runF 4 (sRet (fun _ S => Out.of (gEq (.v (.str a)) (.v (.str b))) S)) [.v (.str a), .v (.str b)] S) := rfl
    refine ⟨PyData.eqv (.str a) (.str b), ?_, by simp [PyData.eqv]⟩
    rw [t]
    unfold runF sRet
    rw [e]
    rfl
  all_goals exact ⟨false, rfl, by simp⟩
abbrev eqTg : D → Env → Option Env := tgT 2 (tgCons (tgN 2) (tgCons (tgN 3) tgNil))
abbrev eqFe (F : List O → Dr → Out E) : Env → Dr → Out E := fUse 2 F (aCons (fVar 2) (aCons (fVar 3) aNil))
theorem eq_lc {n : Nat} {o1 o2 : O} (ih : ∀ d1 d2 S, Pl n d1 → Pl n d2 → ∃ b, F__law_equal A n [.v d1, .v d2] S = .ok (.v (.bl b)) S ∧ (b = true ↔ d1 = d2)) : ∀ xs ys : List D, (∀ x ∈ xs, Pl n x) → (∀ y ∈ ys, Pl n y) → xs.length = ys.length →
    ∃ bs : List Bool, lcD eqTg fYes (eqFe (F__law_equal A n)) [some o1, some o2, none, none] (zipD xs ys) S = .ok (bs.map D.bl) S ∧ (bs.all id = true ↔ xs = ys) ∧ bs.length = xs.length
  | [], [], _, _, _ => ⟨[], rfl, by simp, rfl⟩
  | x :: xs, y :: ys, h1, h2, hl => by
    obtain ⟨b, e, k⟩ := ih x y S (h1 x (by simp)) (h2 y (by simp))
    obtain ⟨bs, e2, k2, l2⟩ := eq_lc ih xs ys (fun z m => h1 z (by simp [m])) (fun z m => h2 z (by simp [m])) (by simpa using hl)
    refine ⟨b :: bs, ?_, by simp [k, ← k2], by simp [l2]⟩
    have t : lcD eqTg fYes (eqFe (F__law_equal A n)) [some o1, some o2, none, none] (zipD (x :: xs) (y :: ys)) S = (F__law_equal A n [.v x, .v y] S).bind fun e S2 => match per e with
      | none => .stk
      | some x => (lcD eqTg fYes (eqFe (F__law_equal A n)) [some o1, some o2, none, none] (zipD xs ys) S2).bind fun xs S3 => .ok (x :: xs) S3 := rfl
    rw [t, e]
    show ((lcD eqTg fYes (eqFe (F__law_equal A n)) [some o1, some o2, none, none] (zipD xs ys) S).bind fun xs S3 => Out.ok (D.bl b :: xs) S3) = _
    rw [e2]
    rfl
theorem Out.eq_of_w {e : E} {o : Out E} {S' : Dr} (h : o.w (fun a S1 => a = e ∧ S1 = S') noX') : o = .ok e S' := by
  cases o with
  | ok a S1 => obtain ⟨rfl, rfl⟩ := h; rfl
  | exc C fs S1 => exact h.elim
  | stk => exact h.elim
theorem eq_seq {n : Nat} {d1 d2 : D} {xs ys : List D} (h : (d1 = .tup xs ∧ d2 = .tup ys) ∨ (d1 = .lst xs ∧ d2 = .lst ys)) (h1 : ∀ x ∈ xs, Pl n x) (h2 : ∀ y ∈ ys, Pl n y) (hl : xs.length ≤ sizeLine)
    (ih : ∀ d1 d2 S, Pl n d1 → Pl n d2 → ∃ b, F__law_equal A n [.v d1, .v d2] S = .ok (.v (.bl b)) S ∧ (b = true ↔ d1 = d2)) : ∃ b, F__law_equal A (n + 1) [.v d1, .v d2] S = .ok (.v (.bl b)) S ∧ (b = true ↔ xs = ys) := by
  by_cases el : xs.length = ys.length
  · obtain ⟨bs, e, k, l⟩ := eq_lc (S := S) (o1 := .v d1) (o2 := .v d2) ih xs ys h1 h2 el
    refine ⟨bs.all id, ?_, k⟩
    apply Out.eq_of_w
    rw [F__law_equal, w_run]
    show (b__law_equal A _ [_, _, none, none] S).w _
    unfold b__law_equal
    rcases h with ⟨rfl, rfl⟩ | ⟨rfl, rfl⟩
    · simp [el]
      exact ⟨_, _, e, by simp [l]; exact hl, by simp⟩
    · simp [el]
      exact ⟨_, _, e, by simp [l]; exact hl, by simp⟩
  · refine ⟨false, ?_, by simp; rintro rfl; exact el rfl⟩
    apply Out.eq_of_w
    rw [F__law_equal, w_run]
    show (b__law_equal A _ [_, _, none, none] S).w _
    unfold b__law_equal
    have el' : ¬ (xs.length : Int) = (ys.length : Int) := by omega
    rcases h with ⟨rfl, rfl⟩ | ⟨rfl, rfl⟩
    · simp [el']
    · simp [el']
theorem eq_all : ∀ (n : Nat) (d1 d2 : D) (S : Dr), Pl n d1 → Pl n d2 → ∃ b, F__law_equal A n [.v d1, .v d2] S = .ok (.v (.bl b)) S ∧ (b = true ↔ d1 = d2)
  | 0, _, _, _, h, _ => h.elim
  | n + 1, d1, d2, S, h1, h2 => by
    by_cases k1 : ∃ ds, d1 = .tup ds ∨ d1 = .lst ds
    · obtain ⟨xs, k1⟩ := k1
      by_cases k2 : ∃ ds, d2 = .tup ds ∨ d2 = .lst ds
      · obtain ⟨ys, k2⟩ := k2
        rcases k1 with rfl | rfl <;> rcases k2 with rfl | rfl
        · obtain ⟨b, e, k⟩ := eq_seq (A := A) (S := S) (.inl ⟨rfl, rfl⟩) h1.1 h2.1 h1.2 (eq_all n)
          exact ⟨b, e, by rw [k]; simp⟩
        · exact ⟨false, rfl, by simp⟩
        · exact ⟨false, rfl, by simp⟩
        · obtain ⟨b, e, k⟩ := eq_seq (A := A) (S := S) (.inr ⟨rfl, rfl⟩) h1.1 h2.1 h1.2 (eq_all n)
          exact ⟨b, e, by rw [k]; simp⟩
      · rcases k1 with rfl | rfl <;> cases d2 <;> first | exact h2.elim | exact absurd ⟨_, .inl rfl⟩ k2 | exact absurd ⟨_, .inr rfl⟩ k2 | exact ⟨false, rfl, by simp⟩
    · by_cases k2 : ∃ ds, d2 = .tup ds ∨ d2 = .lst ds
      · obtain ⟨ys, k2⟩ := k2
        rcases k2 with rfl | rfl <;> cases d1 <;> first | exact h1.elim | exact absurd ⟨_, .inl rfl⟩ k1 | exact absurd ⟨_, .inr rfl⟩ k1 | exact ⟨false, rfl, by simp⟩
      · have a1 : Pl 1 d1 := by cases d1 <;> first | exact h1.elim | exact absurd ⟨_, .inl rfl⟩ k1 | exact absurd ⟨_, .inr rfl⟩ k1 | exact h1 | exact trivial
        have a2 : Pl 1 d2 := by cases d2 <;> first | exact h2.elim | exact absurd ⟨_, .inl rfl⟩ k2 | exact absurd ⟨_, .inr rfl⟩ k2 | exact h2 | exact trivial
        exact eq_atom a1 a2 (fun ds => ⟨fun e => k1 ⟨ds, .inl e⟩, fun e => k1 ⟨ds, .inr e⟩⟩) (fun ds => ⟨fun e => k2 ⟨ds, .inl e⟩, fun e => k2 ⟨ds, .inr e⟩⟩)
end
end Dn
set_option Elab.async false
set_option linter.all false
set_option maxRecDepth 100000
set_option maxHeartbeats 4000000
namespace Dn
open PySem PySem.Spec PyProof.Rows L2 TL
/-! ### _law_one -/
section
variable {A : Ad} {S : Dr} {P : E → Dr → Prop} {X : PX}
theorem w_one {t : Nat} {ds : List D} (h : OkD t S) (ht : t < 33554432) (h0 : 0 < ds.length) (h1 : ds.length < 1073741824) (k : ∀ d ∈ ds, ∀ S', OkD (t + 1) S' → P (.v d) S') : (F__law_one A [.v .drw, .v (.lst ds)] S).w P X := by
  rw [F__law_one, w_run]
  show (b__law_one A [some (.v .drw), some (.v (.lst ds))] S).w _
  unfold b__law_one
  simp
  refine w_next h ht (by omega) (by omega) fun r S' h2 h3 hS => ?_
  obtain ⟨d, hd, e⟩ := gIx_any (ds := ds) (.inl rfl) h2 (by omega)
  exact ⟨_, e, _, rfl, k d hd S' hS⟩
end
end Dn
set_option Elab.async false
set_option linter.all false
set_option maxRecDepth 100000
set_option maxHeartbeats 4000000
namespace Dn
open PySem PySem.Spec PyProof.Rows L2 TL
/-! ### frames -/
section
variable {A : Ad} {S : Dr}
def isInt : D → Bool
  | .int _ => true
  | _ => false
def isTag : D → Bool
  | .int i => decide (1 ≤ i) && decide (i ≤ 4094)
  | _ => false
theorem whole_ok {d : D} (h : Ty1 d) : F_is_whole A [.v d] S = .ok (.v (.bl (isInt d))) S := by
  cases d <;> first | rfl | (obtain ⟨_, h⟩ := h; cases h)
theorem tag_ok {d : D} (h : Ty1 d) : F_is_tag A [.v d] S = .ok (.v (.bl (isTag d))) S := by
  apply Out.eq_of_w
  rw [F_is_tag, w_run]
  show (b_is_tag A [some (.v d)] S).w _
  unfold b_is_tag
  simp [whole_ok h]
  cases d <;> first | (obtain ⟨_, h⟩ := h; cases h; done) | simp [isInt, isTag]
  rename_i i
  by_cases h1 : 1 ≤ i
  · simp [h1]
  · simp [h1]
    omega
theorem ltag_ok {d : D} (h : Ty1 d) : F__law_tag A [.v d] S = .ok (.v (.bl (isTag d))) S := by
  apply Out.eq_of_w
  rw [F__law_tag, w_run]
  show (b__law_tag A [some (.v d)] S).w _
  unfold b__law_tag
  simp
  rw [F__law_whole, w_run]
  show (b__law_whole A [some (.v d), some (.v (.int 1)), some (.v (.int 4094))] S).w _
  unfold b__law_whole
  cases d <;> first | (obtain ⟨_, h⟩ := h; cases h; done) | simp [isTag]
  rename_i i
  by_cases h1 : 1 ≤ i
  · simp [h1]
  · simp [h1]
    omega
theorem cut_from {α : Type} {xs : List α} {k : Nat} : cutD xs (some (k : Int)) none = xs.drop k := by
  unfold cutD
  rw [HT.sIx_none, HT.sIx_nat]
  rcases Nat.le_total k xs.length with h | h
  · rw [Nat.min_eq_left h, List.take_of_length_le (by rw [List.length_drop]; omega)]
  · rw [Nat.min_eq_right h, List.drop_eq_nil_of_le (Nat.le_refl _), List.drop_eq_nil_of_le h]; simp
end
end Dn
set_option Elab.async false
set_option linter.all false
set_option maxRecDepth 100000
set_option maxHeartbeats 4000000
namespace Dn
open PySem PySem.Spec PyProof.Rows L2 TL
/-! ### dicts of tags -/
section
variable {A : Ad} {S : Dr}
theorem dV_cons {k j : Key} {d : D} {r : List (Key × D)} : dV ((j, d) :: r) k = if j = k then some d else dV r k := by
  unfold dV
  rw [List.find?_cons]
  by_cases e : j = k
  · simp [e]
  · simp [e]
theorem dV_snoc {k j : Key} {d : D} : ∀ {kvs : List (Key × D)}, dV kvs j = none → dV (kvs ++ [(j, d)]) k = if j = k then some d else dV kvs k
  | [], _ => by rw [List.nil_append, dV_cons]
  | (a, x) :: r, h => by
    rw [dV_cons] at h
    rw [List.cons_append, dV_cons, dV_cons]
    by_cases e : a = j
    · rw [if_pos e] at h; cases h
    · rw [if_neg e] at h
      rw [dV_snoc h]
      by_cases e1 : a = k
      · have : ¬ j = k := fun q => e (e1.trans q.symm)
        rw [if_pos e1, if_neg this, if_pos e1]
      · rw [if_neg e1, if_neg e1]
theorem dV_map {k j : Key} {d : D} : ∀ {kvs : List (Key × D)}, (kvs.any fun kv => decide (kv.1 = j)) = true → dV (kvs.map fun kv => if kv.1 = j then (kv.1, d) else kv) k = if j = k then some d else dV kvs k
  | (a, x) :: r, h => by
    rw [List.map_cons]
    by_cases e : a = j
    · rw [if_pos e, dV_cons, dV_cons]
      subst e
      by_cases e1 : a = k
      · rw [if_pos e1, if_pos e1]
      · rw [if_neg e1, if_neg e1, if_neg e1]
        by_cases hr : (r.any fun kv => decide (kv.1 = a)) = true
        · rw [dV_map hr, if_neg e1]
        · have hr : ∀ p ∈ r, ¬ p.1 = a := fun p m q => hr (List.any_eq_true.mpr ⟨p, m, by simp [q]⟩)
          have : (r.map fun kv => if kv.1 = a then (kv.1, d) else kv) = r := by
            rw [List.map_congr_left (g := id) fun p m => by simp [hr p m]]; simp
          rw [this]
    · rw [if_neg e, dV_cons, dV_cons]
      have hr : (r.any fun kv => decide (kv.1 = j)) = true := by simpa [e] using h
      by_cases e1 : a = k
      · have : ¬ j = k := fun q => e (e1.trans q.symm)
        rw [if_pos e1, if_neg this, if_pos e1]
      · rw [if_neg e1, if_neg e1, dV_map hr]
theorem dV_none {k : Key} : ∀ {kvs : List (Key × D)}, (kvs.any fun kv => decide (kv.1 = k)) = false → dV kvs k = none
  | [], _ => rfl
  | (a, x) :: r, h => by
    rw [List.any_cons, Bool.or_eq_false_iff] at h
    rw [dV_cons, if_neg (by simpa using h.1), dV_none h.2]
theorem dV_put {kvs : List (Key × D)} {j k : Key} {d : D} : dV (dP kvs j d) k = if j = k then some d else dV kvs k := by
  unfold dP
  split
  · rename_i h; exact dV_map h
  · rename_i h; exact dV_snoc (dV_none (by cases q : kvs.any (fun kv => decide (kv.1 = j)) with | false => rfl | true => exact (h q).elim))
/-- a dict of whole numbers: what each key holds is Q -/
structure Dct (Q : D → Prop) (n : Nat) (kvs : List (Key × D)) : Prop where
  v : ∀ p ∈ kvs, ∃ i : Int, p.1 = .inl i ∧ Q p.2
  l : kvs.length ≤ n
theorem Dct.nil {Q : D → Prop} : Dct Q 0 [] := ⟨by simp, by simp⟩
theorem Dct.put {Q : D → Prop} {n : Nat} {kvs : List (Key × D)} (h : Dct Q n kvs) {i : Int} {d : D} (q : Q d) : Dct Q (n + 1) (dP kvs (.inl i) d) := by
  refine ⟨fun p m => ?_, Nat.le_trans (dP_len _ _ _) (by have := h.l; omega)⟩
  unfold dP at m
  split at m
  · obtain ⟨p', m', rfl⟩ := List.mem_map.mp m
    obtain ⟨j, e, q'⟩ := h.v p' m'
    split
    · exact ⟨j, e, q⟩
    · exact ⟨j, e, q'⟩
  · rcases List.mem_append.mp m with m | m
    · exact h.v p m
    · simp at m; subst m; exact ⟨i, rfl, q⟩
theorem Dct.fold {α : Type} {Q : D → Prop} {ky : α → Int} {vl : α → D} : ∀ (l : List α) (n : Nat) (kvs : List (Key × D)), Dct Q n kvs → (∀ a ∈ l, Q (vl a)) → Dct Q (n + l.length) (l.foldl (fun acc a => dP acc (.inl (ky a)) (vl a)) kvs)
  | [], n, kvs, h, _ => h
  | a :: l, n, kvs, h, q => by
    have := Dct.fold (ky := ky) l (n + 1) _ (h.put (i := ky a) (q a (by simp))) (fun b m => q b (by simp [m]))
    rw [List.foldl_cons, List.length_cons]
    have e : n + (l.length + 1) = n + 1 + l.length := by omega
    rw [e]; exact this
theorem Dct.at {Q : D → Prop} {n : Nat} {kvs : List (Key × D)} (h : Dct Q n kvs) {k : Key} {d : D} (e : dV kvs k = some d) : Q d := by
  unfold dV at e
  rw [Option.map_eq_some_iff] at e
  obtain ⟨p, hp, rfl⟩ := e
  exact (h.v p (List.mem_of_find?_eq_some hp)).elim fun _ z => z.2
def keysI (kvs : List (Key × D)) : List Int := kvs.map fun p => match p.1 with
  | .inl i => i
  | .inr _ => 0
theorem Dct.keys {Q : D → Prop} {n : Nat} : ∀ {kvs : List (Key × D)}, Dct Q n kvs → intsK (kvs.map (·.1)) = some (keysI kvs)
  | [], _ => rfl
  | p :: r, h => by
    obtain ⟨i, e, _⟩ := h.v p (by simp)
    have ih := Dct.keys (Q := Q) (n := n) (kvs := r) ⟨fun p m => h.v p (by simp [m]), by have := h.l; simp at this; omega⟩
    rw [List.map_cons, e]
    show (intsK (r.map (·.1))).map (i :: ·) = _
    rw [ih]
    simp [keysI, e]
theorem Dct.keysD {Q : D → Prop} {n : Nat} {kvs : List (Key × D)} (h : Dct Q n kvs) : (kvs.map (·.1)).map keyD = (keysI kvs).map D.int := by
  unfold keysI
  rw [List.map_map, List.map_map]
  apply List.map_congr_left
  intro p m
  obtain ⟨i, e, _⟩ := h.v p m
  simp [e, Dn.keyD]
theorem intsD_map (ns : List Int) : intsD (ns.map D.int) = some ns := by
  induction ns with
  | nil => rfl
  | cons a r ih => show (intsD (r.map D.int)).map (a :: ·) = _; rw [ih]; rfl
theorem keysI_len {kvs : List (Key × D)} : (keysI kvs).length = kvs.length := by unfold keysI; simp
theorem srtI_len (l : List Int) : (srtI l).length = l.length := (srtI_perm l).length_eq
theorem Dct.has {Q : D → Prop} {n : Nat} {kvs : List (Key × D)} (h : Dct Q n kvs) {i : Int} (m : i ∈ srtI (keysI kvs)) : ∃ d, dV kvs (.inl i) = some d ∧ Q d := by
  have m := (srtI_perm _).mem_iff.mp m
  unfold keysI at m
  obtain ⟨p, mp, e⟩ := List.mem_map.mp m
  obtain ⟨j, e2, q⟩ := h.v p mp
  rw [e2] at e
  dsimp only at e
  subst e
  cases hd : dV kvs (.inl j) with
  | some d => exact ⟨d, rfl, h.at hd⟩
  | none =>
    unfold dV at hd
    rw [Option.map_eq_none_iff, List.find?_eq_none] at hd
    exact (hd p mp (by simp [e2])).elim
/-- sorted(d), sorted(list(d)) -/
theorem Dct.srt {Q : D → Prop} {n : Nat} {kvs : List (Key × D)} (h : Dct Q n kvs) (hn : n < 64) : gSort [.v (.dct kvs)] = some (.n ((srtI (keysI kvs)).map D.int)) := by
  have e1 : gSortI [.v (.dct kvs)] = none := rfl
  unfold gSort
  rw [e1]
  show (match intsK (kvs.map (·.1)) with | some ns => if ns.length < 64 then some (E.n ((srtI ns).map D.int)) else none | none => none) = _
  rw [h.keys]
  dsimp only
  rw [if_pos (by rw [keysI_len]; have := h.l; omega)]
theorem Dct.lst {Q : D → Prop} {n : Nat} {kvs : List (Key × D)} (h : Dct Q n kvs) : gListA [.v (.dct kvs)] = some (.n ((keysI kvs).map D.int)) := by
  have e1 : gListOf [.v (.dct kvs)] = none := rfl
  unfold gListA
  rw [e1]
  show some (E.n ((kvs.map (·.1)).map keyD)) = _
  rw [h.keysD]
theorem gSort_l (ns : List Int) : gSort [.v (.lst (ns.map D.int))] = some (.n ((srtI ns).map D.int)) := by
  have e1 : gSortI [.v (.lst (ns.map D.int))] = some (.n ((srtI ns).map D.int)) := by
    show (match intsD (ns.map D.int) with | some ns => some (E.n ((srtI ns).map D.int)) | none => none) = _
    rw [intsD_map]
  unfold gSort
  rw [e1]
end
end Dn
set_option Elab.async false
set_option linter.all false
set_option maxRecDepth 100000
set_option maxHeartbeats 4000000
namespace Dn
open PySem PySem.Spec PyProof.Rows L2 TL
/-! ### ports of good tables -/
section
variable {A : Ad} {S : Dr}
theorem gInA_ints {neg : Bool} {i : Int} {sn : List Int} : gInA neg (.v (.int i)) (.b (sn.map D.int)) = some (.v (.bl (if neg then !decide (i ∈ sn) else decide (i ∈ sn)))) := by
  rw [gInA_pl (n := 1) (d := .int i) (ds := sn.map D.int) rfl rfl trivial (fun z m => by obtain ⟨j, _, rfl⟩ := List.mem_map.mp m; exact trivial) (by omega)]
  have e : (sn.map D.int).any (fun z => eqD z (.int i)) = decide (i ∈ sn) := by
    rw [Bool.eq_iff_iff, List.any_eq_true, decide_eq_true_iff]
    constructor
    · rintro ⟨z, m, q⟩
      obtain ⟨j, mj, rfl⟩ := List.mem_map.mp m
      have := (eqD_iff (n := 1) (d1 := .int j) (d2 := .int i) trivial trivial).mp q
      cases this
      exact mj
    · intro m
      exact ⟨.int i, List.mem_map.mpr ⟨i, m, rfl⟩, (eqD_iff (n := 1) (d1 := .int i) (d2 := .int i) trivial trivial).mpr rfl⟩
  rw [e]
theorem gInF_ints {neg : Bool} {i : Int} {sn : List Int} : gInF neg (.v (.int i)) (.b (sn.map D.int)) = some (.v (.bl (if neg then !decide (i ∈ sn) else decide (i ∈ sn)))) := gInF_A gInA_ints
abbrev rowD (p : Int × List D) : D := .tup (.int p.1 :: p.2)
abbrev dtab (A : Ad) : MTab := tf_check_rows_fits A
theorem cr_body {K : Kt} {part o : O} {f : Addr} {F : List O → Dr → Out E} (hF : dtab A f = some F) {p : Int × List D} {i : Int} {sn : List Int} (hp : p.1 ∉ sn) (hf : F [.v (rowD p)] S = .ok (.v (.bl true)) S) (hl : sn.length ≤ 100)
    (hn : K.nx [some part, some o, some (.v (.ref f)), some (.l ((sn ++ [p.1]).map D.int)), some (.v (.int i)), some (.v (rowD p))] S) :
    (b_check_rows_l1 A [some part, some o, some (.v (.ref f)), some (.l (sn.map D.int)), some (.v (.int i)), some (.v (rowD p))] S).w K := by
  have e0 : gIx (.v (rowD p)) (.v (.int 0)) = some (.v (.int p.1)) := by show (atI _ _).map _ = _; unfold atI ixN; simp
  unfold b_check_rows_l1
  rw [w_seq, w_ifS, w_or, w_not, w_tst]
  rw [w_callL (a := f) (F := F) rfl hF]
  simp only [w_cons, w_nil, w_v5, w_rv, toO_v, List.length_singleton, if_true, hf, w_ok]
  refine ⟨true, rfl, ?_⟩
  simp only [Bool.not_true, Bool.false_eq_true, if_false, w_tst, w_op, w_v5, w_rv, w_C, w_v3, w_rl, e0, Option.some.injEq, exists_eq_left', gInF_ints, hp, decide_false]
  refine ⟨false, rfl, ?_⟩
  simp only [Bool.false_eq_true, if_false, w_nx]
  rw [w_app rfl]
  simp only [w_op, w_v5, w_rv, w_C, e0, Option.some.injEq, exists_eq_left']
  refine ⟨_, rfl, by simp; omega, ?_⟩
  simpa using hn
theorem cr_loop {K : Kt} {part o : O} {f : Addr} {F : List O → Dr → Out E} (hF : dtab A f = some F) : ∀ (fs : List (Int × List D)) (i : Nat) (sn : List Int) (a b : Option O), (∀ p ∈ fs, p.1 ∉ sn) → (fs.map (·.1)).Nodup →
    (∀ p ∈ fs, F [.v (rowD p)] S = .ok (.v (.bl true)) S) → sn.length + fs.length ≤ 100 → (∀ sn a b, K.nx [some part, some o, some (.v (.ref f)), some (.l sn), a, b] S) →
    (forD (tgT 2 (tgCons (tgN 4) (tgCons (tgN 5) tgNil))) (b_check_rows_l1 A) (enF i (fs.map rowD)) [some part, some o, some (.v (.ref f)), some (.l (sn.map D.int)), a, b] S).w K
  | [], i, sn, a, b, _, _, _, _, hn => by
    show (forD _ _ (enF i []) _ S).w K
    rw [enF, w_fnil]
    exact hn _ a b
  | p :: fs, i, sn, a, b, hd, hnd, hf, hl, hn => by
    show (forD _ _ (enF i (rowD p :: fs.map rowD)) _ S).w K
    rw [enF, w_fcons]
    have hnd' : p.1 ∉ fs.map (·.1) ∧ (fs.map (·.1)).Nodup := by simpa using hnd
    refine ⟨_, rfl, cr_body hF (hd p (by simp)) (hf p (by simp)) (by simp at hl; omega) ?_⟩
    exact cr_loop hF fs (i + 1) (sn ++ [p.1]) _ _ (fun q m => by
      simp
      exact ⟨hd q (by simp [m]), fun e => hnd'.1 (e ▸ List.mem_map.mpr ⟨q, m, rfl⟩)⟩) hnd'.2 (fun q m => hf q (by simp [m])) (by simp at hl ⊢; omega) hn
end
end Dn
set_option Elab.async false
set_option linter.all false
set_option maxRecDepth 100000
set_option maxHeartbeats 4000000
namespace Dn
open PySem PySem.Spec PyProof.Rows L2 TL
section
variable {A : Ad} {S : Dr}
theorem gSl_t8 {ds : List D} : gSl none (some 8) (.v (.tup ds)) = some (.v (.tup (ds.take 8))) := by
  rw [← cut_up]
  rfl
theorem gSl_l8 {ds : List D} : gSl none (some 8) (.v (.lst ds)) = some (.n (ds.take 8)) := by
  rw [← cut_up]
  rfl
theorem gSl_b8 {ds : List D} : gSl none (some 8) (.b ds) = some (.n (ds.take 8)) := by
  rw [← cut_up]
  rfl
/-- rows that are right: nothing is raised -/
theorem check_rows_ok {part : Str} {f : Addr} {F : List O → Dr → Out E} (hF : dtab A f = some F) {fs : List (Int × List D)} {o : O} (ho : o = .lt (fs.map rowD) ∨ o = .v (.tup (fs.map rowD)) ∨ o = .v (.lst (fs.map rowD))) (hnd : (fs.map (·.1)).Nodup) (hf : ∀ p ∈ fs, F [.v (rowD p)] S = .ok (.v (.bl true)) S) (hl : fs.length ≤ 8) :
    F_check_rows A [.v (.str part), o, .v (.ref f)] S = .ok (.v .non) S := by
  apply Out.eq_of_w
  rw [F_check_rows, w_run]
  show (b_check_rows A [some (.v (.str part)), some o, some (.v (.ref f)), none, none, none] S).w _
  unfold b_check_rows
  have hcut : (fs.map rowD).take 8 = fs.map rowD := List.take_of_length_le (by simp; omega)
  have key : ∀ K : Kt, K.nx = (fun ρ S1 => ∃ sn a b, ρ = [some (.v (.str part)), some o, some (.v (.ref f)), some (.l sn), a, b] ∧ S1 = S) → (forD (tgT 2 (tgCons (tgN 4) (tgCons (tgN 5) tgNil))) (b_check_rows_l1 A) (enF 0 (fs.map rowD)) [some (.v (.str part)), some o, some (.v (.ref f)), some (.l []), none, none] S).w K := fun K hK =>
    cr_loop hF fs 0 [] none none (by simp) hnd hf (by simp; omega) fun sn a b => by rw [hK]; exact ⟨sn, a, b, rfl, rfl⟩
  rcases ho with rfl | rfl | rfl
  · simp [gSl_b8, hcut]
    refine SO.w.mono (key ⟨fun ρ S1 => ∃ sn a b, ρ = [some (.v (.str part)), some (.lt (fs.map rowD)), some (.v (.ref f)), some (.l sn), a, b] ∧ S1 = S, fun _ _ => False, fun _ _ => False, fun _ _ => False, fun _ _ _ _ => False⟩ rfl) (fun ρ S1 ⟨sn, a, b, e, es⟩ => ?_) (fun _ _ z => z.elim) (fun _ _ z => z.elim) (fun _ _ z => z.elim) (fun _ _ _ _ z => z.elim)
    subst e; subst es
    simp
    omega
  · simp [gSl_t8, hcut]
    refine SO.w.mono (key ⟨fun ρ S1 => ∃ sn a b, ρ = [some (.v (.str part)), some (.v (.tup (fs.map rowD))), some (.v (.ref f)), some (.l sn), a, b] ∧ S1 = S, fun _ _ => False, fun _ _ => False, fun _ _ => False, fun _ _ _ _ => False⟩ rfl) (fun ρ S1 ⟨sn, a, b, e, es⟩ => ?_) (fun _ _ z => z.elim) (fun _ _ z => z.elim) (fun _ _ z => z.elim) (fun _ _ _ _ z => z.elim)
    subst e; subst es
    simp
    omega
  · simp [gSl_l8, hcut]
    refine SO.w.mono (key ⟨fun ρ S1 => ∃ sn a b, ρ = [some (.v (.str part)), some (.v (.lst (fs.map rowD))), some (.v (.ref f)), some (.l sn), a, b] ∧ S1 = S, fun _ _ => False, fun _ _ => False, fun _ _ => False, fun _ _ _ _ => False⟩ rfl) (fun ρ S1 ⟨sn, a, b, e, es⟩ => ?_) (fun _ _ z => z.elim) (fun _ _ z => z.elim) (fun _ _ z => z.elim) (fun _ _ _ _ z => z.elim)
    subst e; subst es
    simp
    omega
end
end Dn
set_option Elab.async false
set_option linter.all false
set_option maxRecDepth 100000
set_option maxHeartbeats 4000000
namespace Dn
open PySem PySem.Spec PyProof.Rows L2 TL
section
variable {A : Ad} {S : Dr}
theorem gIx_tt {ds : List D} {i : Int} : gIx (.v (.tup ds)) (.v (.int i)) = (atI ds i).map E.v := rfl
abbrev Tg (i : Int) : Prop := 1 ≤ i ∧ i ≤ 4094
theorem tag_int {i : Int} (h : Tg i) : F_is_tag A [.v (.int i)] S = .ok (.v (.bl true)) S := by
  rw [tag_ok ⟨_, rfl⟩]
  simp [isTag, h.1, h.2]
abbrev ARow := Int × Int × Bool
abbrev LRow := Int × Option Int
def opD : Option Int → D
  | some i => .int i
  | none => .non
def valA (r : ARow) : D := .tup [.int r.2.1, .bl r.2.2]
def rowA (r : ARow) : D := .tup [.int r.1, .int r.2.1, .bl r.2.2]
def rowL (r : LRow) : D := .tup [.int r.1, opD r.2]
def OkO (o : Option Int) : Prop := ∀ i, o = some i → Tg i
theorem arr_ok {r : ARow} (h1 : Tg r.1) (h2 : Tg r.2.1) : F_is_arriving A [.v (rowA r)] S = .ok (.v (.bl true)) S := by
  apply Out.eq_of_w
  rw [F_is_arriving, w_run]
  show (b_is_arriving A [some (.v (rowA r))] S).w _
  unfold b_is_arriving
  have e0 : gIx (.v (rowA r)) (.v (.int 0)) = some (.v (.int r.1)) := by unfold rowA; rw [gIx_tt]; unfold atI ixN; simp
  have e1 : gIx (.v (rowA r)) (.v (.int 1)) = some (.v (.int r.2.1)) := by unfold rowA; rw [gIx_tt]; unfold atI ixN; simp
  have e2 : gIx (.v (rowA r)) (.v (.int 2)) = some (.v (.bl r.2.2)) := by unfold rowA; rw [gIx_tt]; unfold atI ixN; simp
  have e3 : gLen [.v (rowA r)] = some (.v (.int 3)) := rfl
  have e4 : tyE (.v (rowA r)) = some "tuple" := rfl
  simp [e0, e1, e2, e3, e4, tag_int h1, tag_int h2]
theorem lea_ok {r : LRow} (h1 : Tg r.1) (h2 : OkO r.2) : F_is_leaving A [.v (rowL r)] S = .ok (.v (.bl true)) S := by
  apply Out.eq_of_w
  rw [F_is_leaving, w_run]
  show (b_is_leaving A [some (.v (rowL r))] S).w _
  unfold b_is_leaving
  have e0 : gIx (.v (rowL r)) (.v (.int 0)) = some (.v (.int r.1)) := by unfold rowL; rw [gIx_tt]; unfold atI ixN; simp
  have e1 : gIx (.v (rowL r)) (.v (.int 1)) = some (.v (opD r.2)) := by unfold rowL; rw [gIx_tt]; unfold atI ixN; simp
  have e3 : gLen [.v (rowL r)] = some (.v (.int 2)) := rfl
  have e4 : tyE (.v (rowL r)) = some "tuple" := rfl
  cases q : r.2 with
  | none => simp [e0, e1, e3, e4, tag_int h1, q, opD]
  | some i => simp [e0, e1, e3, e4, tag_int h1, q, opD, tag_int (h2 i q)]
theorem room_ok {o : Option Int} (h : OkO o) : F_check_room A [.v (opD o)] S = .ok (.v .non) S := by
  apply Out.eq_of_w
  rw [F_check_room, w_run]
  show (b_check_room A [some (.v (opD o))] S).w _
  unfold b_check_room
  cases o with
  | none => simp [opD]
  | some i => simp [opD, tag_int (h i rfl)]
/-- a port as the law speaks of it -/
structure Sp where
  ar : List ARow
  lv : List LRow
  ot : Option Int
  ba : Option Int
structure OkP (p : Sp) : Prop where
  a : ∀ r ∈ p.ar, Tg r.1 ∧ Tg r.2.1
  an : (p.ar.map (·.1)).Nodup
  al : p.ar.length ≤ 8
  l : ∀ r ∈ p.lv, Tg r.1 ∧ OkO r.2
  ln : (p.lv.map (·.1)).Nodup
  ll : p.lv.length ≤ 8
  o : OkO p.ot
  b : OkO p.ba
def entD (p : Sp) : List (Key × D) := p.ar.foldl (fun acc r => dP acc (.inl r.1) (valA r)) []
def extD (p : Sp) : List (Key × D) := p.lv.foldl (fun acc r => dP acc (.inl r.1) (opD r.2)) []
def fldsP (p : Sp) : List (Str × D) := [("entries", .dct (entD p)), ("exits", .dct (extD p)), ("other", opD p.ot), ("bare", opD p.ba)]
abbrev portC (C : Addr) (p : Sp) : D := .obj C (fldsP p)
/-- a port's class -/
abbrev PC (A : Ad) (C : Addr) : Prop := isL (cs_Port A) C = true
theorem tf_a : tf_check_rows_fits A A.D_is_arriving = some (F_is_arriving A) := by simp [tf_check_rows_fits]
theorem tf_l : tf_check_rows_fits A A.D_is_leaving = some (F_is_leaving A) := by simp [tf_check_rows_fits]
theorem init_ok {C : Addr} (hC : PC A C) {p : Sp} (h : OkP p) {o1 o2 : O} (h1 : o1 = .lt (p.ar.map rowA) ∨ o1 = .v (.tup (p.ar.map rowA)) ∨ o1 = .v (.lst (p.ar.map rowA))) (h2 : o2 = .lt (p.lv.map rowL) ∨ o2 = .v (.tup (p.lv.map rowL)) ∨ o2 = .v (.lst (p.lv.map rowL))) :
    F_Port___init__ A C [] [o1, o2, .v (opD p.ot), .v (opD p.ba)] S = .ok (fldsP p) S := by
  have wt : ∀ {α : Type} {e : α} {o : Out α} {S' : Dr}, o.w (fun a S1 => a = e ∧ S1 = S') noX' → o = .ok e S' := fun {α e o S'} h => by
    cases o with
    | ok a S1 => obtain ⟨rfl, rfl⟩ := h; rfl
    | exc C fs S1 => exact h.elim
    | stk => exact h.elim
  apply wt
  unfold F_Port___init__
  refine w_runI ?_
  show (b_Port___init__ A [some (.ob C []), some o1, some o2, some (.v (opD p.ot)), some (.v (opD p.ba)), none, none, none] S).w _
  unfold b_Port___init__
  have ea : p.ar.map rowA = (p.ar.map fun r => (r.1, [D.int r.2.1, D.bl r.2.2])).map rowD := by rw [List.map_map]; rfl
  have el : p.lv.map rowL = (p.lv.map fun r => (r.1, [opD r.2])).map rowD := by rw [List.map_map]; rfl
  have r1 : F_check_rows A [.v (.str "arriving"), o1, .v (.ref A.D_is_arriving)] S = .ok (.v .non) S := check_rows_ok (F := F_is_arriving A) tf_a (fs := p.ar.map fun r => (r.1, [D.int r.2.1, D.bl r.2.2])) (by rw [← ea]; exact h1) (by simpa [List.map_map, Function.comp_def] using h.an)
    (fun q m => by obtain ⟨r, mr, rfl⟩ := List.mem_map.mp m; exact arr_ok (h.a r mr).1 (h.a r mr).2) (by simpa using h.al)
  have r2 : F_check_rows A [.v (.str "leaving"), o2, .v (.ref A.D_is_leaving)] S = .ok (.v .non) S := check_rows_ok (F := F_is_leaving A) tf_l (fs := p.lv.map fun r => (r.1, [opD r.2])) (by rw [← el]; exact h2) (by simpa [List.map_map, Function.comp_def] using h.ln)
    (fun q m => by obtain ⟨r, mr, rfl⟩ := List.mem_map.mp m; exact lea_ok (h.l r mr).1 (h.l r mr).2) (by simpa using h.ll)
  have i1 : ∀ ρ : Env, ρ[1]? = some (some o1) → fItrs true (fVar 1) ρ S = .ok (p.ar.map rowA) S := fun ρ e => by
    unfold fItrs fVar; rw [e]; rcases h1 with rfl | rfl | rfl <;> rfl
  have i2 : ∀ ρ : Env, ρ[2]? = some (some o2) → fItrs true (fVar 2) ρ S = .ok (p.lv.map rowL) S := fun ρ e => by
    unfold fItrs fVar; rw [e]; rcases h2 with rfl | rfl | rfl <;> rfl
  have d1 : dcD (tgT 3 (tgCons (tgN 5) (tgCons (tgN 6) (tgCons (tgN 7) tgNil)))) fYes (fVar 5) (c_Port___init___e1 A) [some (.ob C []), some o1, some o2, some (.v (opD p.ot)), some (.v (opD p.ba)), none, none, none] (p.ar.map rowA) [] S = .ok (entD p) S :=
    dc_fold rowA (fun r => .inl r.1) valA p.ar [] (by have := h.al; simp; omega) fun r m => ⟨_, rfl, ⟨rfl, rfl⟩, by unfold c_Port___init___e1; simp [valA]⟩
  have d2 : dcD (tgT 2 (tgCons (tgN 6) (tgCons (tgN 5) tgNil))) fYes (fVar 6) (c_Port___init___e2 A) [some (.ob C [("entries", .dct (entD p))]), some o1, some o2, some (.v (opD p.ot)), some (.v (opD p.ba)), none, none, none] (p.lv.map rowL) [] S = .ok (extD p) S :=
    dc_fold rowL (fun r => .inl r.1) (fun r => opD r.2) p.lv [] (by have := h.ll; simp; omega) fun r m => ⟨_, rfl, ⟨rfl, rfl⟩, by unfold c_Port___init___e2; simp⟩
  have g1 : ∀ K : Kt, K.nx [some (.ob C (fldsP p)), some o1, some o2, some (.v (opD p.ot)), some (.v (opD p.ba)), none, none, none] S →
      ((sSeq (sFldI (isL (cs_Port A)) "entries" (fDc (fItrs true (fVar 1)) (tgT 3 (tgCons (tgN 5) (tgCons (tgN 6) (tgCons (tgN 7) tgNil)))) fYes (fVar 5) (c_Port___init___e1 A) [5, 6, 7]))
  (sSeq (sFldI (isL (cs_Port A)) "exits" (fDc (fItrs true (fVar 2)) (tgT 2 (tgCons (tgN 6) (tgCons (tgN 5) tgNil))) fYes (fVar 6) (c_Port___init___e2 A) [6, 5]))
  (sSeq (sFldI (isL (cs_Port A)) "other" (fVar 3)) (sFldI (isL (cs_Port A)) "bare" (fVar 4))))) [some (.ob C []), some o1, some o2, some (.v (opD p.ot)), some (.v (opD p.ba)), none, none, none] S).w K := fun K hK => by
    rw [w_seq, w_fldI hC (by simp), w_dc]
    refine .of_eq (i1 _ rfl) ?_
    refine .of_eq d1 ?_
    refine ⟨_, rfl, ?_⟩
    show ((sSeq _ _) [some (.ob C [("entries", .dct (entD p))]), some o1, some o2, some (.v (opD p.ot)), some (.v (opD p.ba)), none, none, none] S).w K
    rw [w_seq, w_fldI hC (by simp), w_dc]
    refine .of_eq (i2 _ rfl) ?_
    refine .of_eq d2 ?_
    refine ⟨_, rfl, ?_⟩
    show ((sSeq _ _) [some (.ob C [("entries", .dct (entD p)), ("exits", .dct (extD p))]), some o1, some o2, some (.v (opD p.ot)), some (.v (opD p.ba)), none, none, none] S).w K
    rw [w_seq, w_fldI hC (by simp)]
    simp only [w_v3, w_rv]
    refine ⟨_, rfl, ?_⟩
    show ((sFldI _ _ _) [some (.ob C [("entries", .dct (entD p)), ("exits", .dct (extD p)), ("other", opD p.ot)]), some o1, some o2, some (.v (opD p.ot)), some (.v (opD p.ba)), none, none, none] S).w K
    rw [w_fldI hC (by simp)]
    simp only [w_v4, w_rv]
    exact ⟨_, rfl, hK⟩
  have c1 := room_ok (A := A) (S := S) h.o
  have c2 := room_ok (A := A) (S := S) h.b
  rcases h1 with rfl | rfl | rfl <;> rcases h2 with rfl | rfl | rfl <;>
  · simp only [w_seq, w_drop, w_use, w_cons, w_nil, w_C, w_v1, w_v2, w_v3, w_v4, w_rv, w_rlt, toO, r1, r2, c1, c2, w_ok, List.length_cons, List.length_nil, if_true]
    have g2 := g1 ⟨fun ρ S1 => ∃ fs' r, ρ = some (.ob C fs') :: r ∧ fs' = fldsP p ∧ S1 = S, fun _ _ => False, fun _ _ => False, fun _ _ => False, fun _ _ _ _ => False⟩ ⟨_, _, rfl, rfl, rfl⟩
    simpa only [w_seq] using g2
end
end Dn
set_option Elab.async false
set_option linter.all false
set_option maxRecDepth 100000
set_option maxHeartbeats 4000000
namespace Dn
open PySem PySem.Spec PyProof.Rows L2 TL
/-! ### rooms -/
section
variable {A : Ad} {S : Dr}
def intOf : D → Int
  | .int i => i
  | _ => 0
theorem tag_iff {x : D} (h : isTag x = true) : ∃ n, x = .int n ∧ Tg n := by
  cases x <;> first | (cases h; done) | skip
  rename_i n
  simp [isTag] at h
  exact ⟨n, rfl, h⟩
/-- the first wrong of some rooms, behind those that were seen -/
def badRoom : List D → List Int → Option Nat
  | [], _ => none
  | x :: r, sn => if isTag x = true ∧ intOf x ∉ sn then (badRoom r (sn ++ [intOf x])).map (· + 1) else some 0
def roomsL (ds : List D) : Option Int := match badRoom (ds.take 7) [] with
  | some j => some (j : Int)
  | none => if 7 < ds.length then some 7 else none
def roomsV : D → Option Int
  | .lst ds => roomsL ds
  | .tup ds => roomsL ds
  | _ => some (-1)
/-- what may be given as rooms -/
structure Rd (d : D) : Prop where
  t : Ty1 d
  r : ∀ ds, d = .lst ds ∨ d = .tup ds → (∀ x ∈ ds, Ty1 x) ∧ ds.length ≤ 20
/-- an argument that is this value -/
def ArgD (o : O) (d : D) : Prop := o = .v d ∨ ∃ ds, o = .lt ds ∧ d = .lst ds
/-- a list or a tuple of these -/
def Sq (e : E) (ds : List D) : Prop := e = .v (.lst ds) ∨ e = .v (.tup ds) ∨ e = .b ds ∨ e = .n ds
/-- .. that nobody else holds -/
def Sn (e : E) (ds : List D) : Prop := e = .v (.tup ds) ∨ e = .n ds
theorem Sn.sq {e : E} {ds : List D} (h : Sn e ds) : Sq e ds := by
  rcases h with rfl | rfl
  · exact .inr (.inl rfl)
  · exact .inr (.inr (.inr rfl))
theorem slE {e : E} {ds : List D} {i : Nat} (h : Sq e ds) : ∃ e', gSl none (some (i : Int)) e = some e' ∧ Sn e' (ds.take i) := by
  rcases h with rfl | rfl | rfl | rfl
  · exact ⟨.n (ds.take i), by rw [← cut_up]; rfl, .inr rfl⟩
  · exact ⟨.v (.tup (ds.take i)), by rw [← cut_up]; rfl, .inl rfl⟩
  · exact ⟨.n (ds.take i), by rw [← cut_up]; rfl, .inr rfl⟩
  · exact ⟨.n (ds.take i), by rw [← cut_up]; rfl, .inr rfl⟩
theorem lenE {e : E} {ds : List D} (h : Sq e ds) : gLen [toO e] = some (.v (.int (ds.length : Int))) := by rcases h with rfl | rfl | rfl | rfl <;> rfl
theorem enumE {e : E} {ds : List D} (h : Sn e ds) : gEnum false [toO e] = some (enF 0 ds) := by rw [← enumD_eq]; rcases h with rfl | rfl <;> rfl
theorem any_ints {i : Int} {sn : List Int} : (sn.map D.int).any (fun z => eqD z (.int i)) = decide (i ∈ sn) := by
  rw [Bool.eq_iff_iff, List.any_eq_true, decide_eq_true_iff]
  constructor
  · rintro ⟨z, m, q⟩
    obtain ⟨j, mj, rfl⟩ := List.mem_map.mp m
    have := (eqD_iff (n := 1) (d1 := .int j) (d2 := .int i) trivial trivial).mp q
    cases this
    exact mj
  · intro m
    exact ⟨.int i, List.mem_map.mpr ⟨i, m, rfl⟩, (eqD_iff (n := 1) (d1 := .int i) (d2 := .int i) trivial trivial).mpr rfl⟩
theorem gInF_seq {neg : Bool} {n : Nat} {d : D} {y : E} {ds : List D} (hy : Sq y ds) (h1 : Pl n d) (h2 : ∀ z ∈ ds, Pl n z) (hn : n < 64) : gInF neg (.v d) y = some (.v (.bl (if neg then !ds.any (fun z => eqD z d) else ds.any (fun z => eqD z d)))) := by
  rcases hy with rfl | rfl | rfl | rfl
  · exact gInF_A (gInA_pl rfl rfl h1 h2 hn)
  · exact gInF_pl rfl h1 h2 hn
  · exact gInF_A (gInA_pl rfl rfl h1 h2 hn)
  · exact gInF_A (gInA_pl rfl rfl h1 h2 hn)
theorem gInF_intsE {neg : Bool} {i : Int} {y : E} {sn : List Int} (hy : Sq y (sn.map D.int)) : gInF neg (.v (.int i)) y = some (.v (.bl (if neg then !decide (i ∈ sn) else decide (i ∈ sn)))) := by
  rw [gInF_seq (n := 1) (d := .int i) hy trivial (fun z m => by obtain ⟨j, _, rfl⟩ := List.mem_map.mp m; exact trivial) (by omega), any_ints]
theorem crm_loop {K : Kt} {o : O} {e : E} {ds : List D} (ho : readO o = some e) (he : Sq e ds) : ∀ (xs rest : List D) (i : Nat) (sn : List Int) (a b : Option O), ds = sn.map D.int ++ (xs ++ rest) → sn.length = i → (∀ x ∈ xs, Ty1 x) →
    (badRoom xs sn = none → ∀ a b, K.nx [some o, a, b] S) → (∀ j, badRoom xs sn = some j → ∀ ρ, K.ex A.C_BadEntry [(("index" : Str), D.int ((i + j : Nat) : Int)), (("part" : Str), D.str "rooms")] ρ S) →
    (forD (tgT 2 (tgCons (tgN 1) (tgCons (tgN 2) tgNil))) (b_check_rooms_l1 A) (enF i xs) [some o, a, b] S).w K
  | [], rest, i, sn, a, b, _, _, _, hn, _ => by
    rw [enF, w_fnil]
    exact hn rfl a b
  | x :: xs, rest, i, sn, a, b, hd, hl, ht, hn, hx => by
    rw [enF, w_fcons]
    refine ⟨[some o, some (.v (.int (i : Int))), some (.v x)], rfl, ?_⟩
    unfold badRoom at hn hx
    unfold b_check_rooms_l1
    rw [w_ifS, w_or, w_not, w_tst]
    simp only [w_use, w_cons, w_nil, w_v2, w_rv, toO_v, List.length_singleton, if_true, tag_ok (ht x (by simp)), w_ok]
    refine ⟨isTag x, rfl, ?_⟩
    cases hf : isTag x with
    | false =>
      rw [hf] at hx
      have := hx 0 (by simp)
      simp [vals]
      exact this _
    | true =>
      obtain ⟨n, rfl, hn4⟩ := tag_iff hf
      obtain ⟨e', e1, e2⟩ := slE (i := i) he
      have et : ds.take i = sn.map D.int := by rw [hd, List.take_append_of_le_length (by simp [hl]), List.take_of_length_le (by simp [hl])]
      rw [et] at e2
      simp only [Bool.not_true, Bool.false_eq_true, if_false, w_tst, w_op, w_sl, w_none, w_some, w_v0, w_v1, w_v2, w_rv, ho]
      refine ⟨(i : Int), rfl, e', e1, _, gInF_intsE e2.sq, _, rfl, ?_⟩
      simp only [Bool.false_eq_true, if_false]
      by_cases hin : n ∈ sn
      · have := hx 0 (by simp [hin, intOf])
        simp [hin, vals]
        exact this _
      · simp only [hin, decide_false, Bool.false_eq_true, if_false, w_nx]
        have := crm_loop (K := K) ho he xs rest (i + 1) (sn ++ [n]) (some (.v (.int (i : Int)))) (some (.v (.int n))) (by rw [hd]; simp) (by simp [hl]) (fun y m => ht y (by simp [m])) (fun q => hn (by simp [hin, intOf, hf, q])) (fun j q ρ => by
          have := hx (j + 1) (by simp [hin, intOf, hf, q]) ρ
          rw [show i + 1 + j = i + (j + 1) by omega]
          exact this)
        exact this
theorem argE {o : O} {d : D} (h : ArgD o d) : ∃ e, readO o = some e ∧ ((∀ ds, d = .lst ds ∨ d = .tup ds → Sq e ds) ∧ tyE e = tyE (.v d)) := by
  rcases h with rfl | ⟨ds, rfl, rfl⟩
  · refine ⟨.v d, rfl, fun ds h => ?_, rfl⟩
    rcases h with rfl | rfl
    · exact .inl rfl
    · exact .inr (.inl rfl)
  · refine ⟨.b ds, rfl, fun es h => ?_, rfl⟩
    rcases h with h | h
    · cases h; exact .inr (.inr (.inl rfl))
    · cases h
theorem chk_rooms {o : O} {d : D} (ho : ArgD o d) (h : Rd d) : (F_check_rooms A [o] S).w (fun e S1 => e = .v .non ∧ S1 = S ∧ roomsV d = none)
    (fun C fs S1 => C = A.C_BadEntry ∧ S1 = S ∧ ∃ k, roomsV d = some k ∧ fs = [(("index" : Str), D.int k), (("part" : Str), D.str "rooms")]) := by
  rw [F_check_rooms, w_run]
  show (b_check_rooms A [some o, none, none] S).w _
  unfold b_check_rooms
  obtain ⟨e, re, se, te⟩ := argE ho
  obtain ⟨t, ht⟩ := h.t
  have seq : ∀ ds : List D, (d = .lst ds ∨ d = .tup ds) → (t = "list" ∨ t = "tuple") ∧ roomsV d = roomsL ds := fun ds hd => by
    rcases hd with rfl | rfl
    · cases ht; exact ⟨.inl rfl, rfl⟩
    · cases ht; exact ⟨.inr rfl, rfl⟩
  simp only [w_seq, w_ifS, w_not, w_tst, w_isi2, w_v0, re]
  refine ⟨t, by rw [te]; exact ht, _, rfl, ?_⟩
  by_cases hs : ∃ ds, d = .lst ds ∨ d = .tup ds
  · obtain ⟨ds, hd⟩ := hs
    obtain ⟨ht2, hv⟩ := seq ds hd
    have hsq := se ds hd
    have hb : (isB t "list" || isB t "tuple") = true := by rcases ht2 with rfl | rfl <;> rfl
    obtain ⟨e7, s7, q7⟩ := slE (i := 7) hsq
    rw [hb]
    simp only [Bool.not_true, Bool.false_eq_true, if_false, w_nx, w_for, w_itC, w_cons, w_nil, w_sl, w_none, w_some, w_op, w_C, w_v0, re]
    refine ⟨_, rfl, 7, rfl, e7, s7, _, enumE q7, ?_⟩
    have hr := h.r ds hd
    refine crm_loop re hsq (ds.take 7) (ds.drop 7) 0 [] none none (by simp) rfl (fun x m => hr.1 x (List.mem_of_mem_take m)) (fun q a b => ?_) (fun j q ρ => ?_)
    · simp only [w_ifS, w_tst, w_op, w_call, w_cons, w_nil, w_v0, w_C, re]
      refine ⟨_, lenE hsq, _, rfl, _, rfl, ?_⟩
      by_cases hl : 7 < ds.length
      · rw [if_pos (by simp; omega)]
        simp [vals]
        rw [hv]; unfold roomsL; rw [q]; simp [hl]
      · rw [if_neg (by simp; omega)]
        simp
        rw [hv]; unfold roomsL; rw [q]; simp [hl]
    · refine ⟨rfl, rfl, (j : Int), ?_, by simp⟩
      rw [hv]; unfold roomsL; rw [q]
  · have hb : (isB t "list" || isB t "tuple") = false := by
      cases d <;> first | (cases ht; done) | exact absurd ⟨_, .inl rfl⟩ hs | exact absurd ⟨_, .inr rfl⟩ hs | (cases ht; rfl)
    have hv : roomsV d = some (-1) := by
      cases d <;> first | exact absurd ⟨_, .inl rfl⟩ hs | exact absurd ⟨_, .inr rfl⟩ hs | rfl
    rw [hb]
    simp [vals]
    exact hv
end
end Dn
set_option Elab.async false
set_option linter.all false
set_option maxRecDepth 100000
set_option maxHeartbeats 4000000
namespace Dn
open PySem PySem.Spec PyProof.Rows L2 TL
/-! ### trunks, plain ports, tunnels: what their __init__ leaves -/
section
variable {A : Ad} {S : Dr}
structure Rooms (ns : List Int) : Prop where
  nd : ns.Nodup
  tg : ∀ n ∈ ns, Tg n
  l : ns.length ≤ 7
theorem badRoom_none : ∀ {xs : List D} {sn : List Int}, badRoom xs sn = none → ∃ ns : List Int, xs = ns.map D.int ∧ ns.Nodup ∧ ∀ n ∈ ns, Tg n ∧ n ∉ sn
  | [], _, _ => ⟨[], rfl, List.nodup_nil, by simp⟩
  | x :: xs, sn, h => by
    unfold badRoom at h
    split at h
    · rename_i c
      obtain ⟨n, rfl, hn⟩ := tag_iff c.1
      have c2 : n ∉ sn := c.2
      cases q : badRoom xs (sn ++ [intOf (.int n)]) with
      | some j => rw [q] at h; cases h
      | none =>
        obtain ⟨ns, rfl, h1, h2⟩ := badRoom_none q
        refine ⟨n :: ns, rfl, List.nodup_cons.mpr ⟨fun m => ?_, h1⟩, fun m hm => ?_⟩
        · exact (h2 n m).2 (by simp [intOf])
        · rcases List.mem_cons.mp hm with rfl | hm
          · exact ⟨hn, c2⟩
          · exact ⟨(h2 m hm).1, fun z => (h2 m hm).2 (by simp [z])⟩
    · cases h
theorem roomsL_none {ds : List D} (h : roomsL ds = none) : ∃ ns, ds = ns.map D.int ∧ Rooms ns := by
  unfold roomsL at h
  cases q : badRoom (ds.take 7) [] with
  | some j => rw [q] at h; cases h
  | none =>
    rw [q] at h
    dsimp only at h
    split at h
    · cases h
    · rename_i hl
      have e : ds.take 7 = ds := List.take_of_length_le (by omega)
      obtain ⟨ns, e2, h1, h2⟩ := badRoom_none q
      rw [e] at e2
      exact ⟨ns, e2, h1, fun n m => (h2 n m).1, by have := congrArg List.length e2; simp at this; omega⟩
theorem roomsV_none {d : D} (h : roomsV d = none) : ∃ ns, (d = .lst (ns.map D.int) ∨ d = .tup (ns.map D.int)) ∧ Rooms ns := by
  cases d <;> first | (cases h; done) | skip
  · obtain ⟨ns, e, r⟩ := roomsL_none h
    exact ⟨ns, .inr (by rw [e]), r⟩
  · obtain ⟨ns, e, r⟩ := roomsL_none h
    exact ⟨ns, .inl (by rw [e]), r⟩
def isNo : D → Bool
  | .non => true
  | _ => false
def roomOk (v : D) : Bool := isNo v || isTag v
theorem isNone_no {d : D} : isNone (.v d) = isNo d := by cases d <;> rfl
theorem no_op {v : D} (h : roomOk v = true) : ∃ o, v = opD o ∧ OkO o := by
  unfold roomOk at h
  cases v <;> first | (cases h; done) | skip
  · exact ⟨none, rfl, fun i z => by cases z⟩
  · obtain ⟨n, e, hn⟩ := tag_iff (x := .int _) (by simpa [isNo] using h)
    cases e
    exact ⟨some _, rfl, fun i z => by cases z; exact hn⟩
theorem chk_room {v : D} (h : Ty1 v) : (F_check_room A [.v v] S).w (fun e S1 => e = .v .non ∧ S1 = S ∧ roomOk v = true) (fun C fs S1 => C = A.C_BadTag ∧ S1 = S ∧ roomOk v = false ∧ fs = [(("value" : Str), v)]) := by
  rw [F_check_room, w_run]
  show (b_check_room A [some (.v v)] S).w _
  unfold b_check_room
  simp [isNone_no, tag_ok h, roomOk, gNotN, vals]
  cases isNo v <;> cases isTag v <;> simp
def trunkSp (ns : List Int) (o : Option Int) : Sp := ⟨ns.map fun r => (r, r, false), (ns.filter fun r => decide (some r ≠ o)).map (fun r => (r, some r)) ++ (match o with
  | some n => [(n, none)]
  | none => []), none, o⟩
theorem trunk_okp {ns : List Int} {o : Option Int} (h : Rooms ns) (ho : OkO o) : OkP (trunkSp ns o) where
  a := fun r m => by
    obtain ⟨n, mn, rfl⟩ := List.mem_map.mp (show r ∈ ns.map fun r => (r, r, false) from m)
    exact ⟨h.tg n mn, h.tg n mn⟩
  an := by
    show ((ns.map fun r => ((r, r, false) : ARow)).map (·.1)).Nodup
    rw [List.map_map]
    simpa [Function.comp_def] using h.nd
  al := by
    show (ns.map fun r => ((r, r, false) : ARow)).length ≤ 8
    have := h.l
    simp; omega
  l := fun r m => by
    rcases List.mem_append.mp (show r ∈ (ns.filter fun r => decide (some r ≠ o)).map (fun r => ((r, some r) : LRow)) ++ _ from m) with m | m
    · obtain ⟨n, mn, rfl⟩ := List.mem_map.mp m
      have t := h.tg n (List.mem_filter.mp mn).1
      exact ⟨t, fun i z => by cases z; exact t⟩
    · cases o with
      | none => cases m
      | some n =>
        simp at m
        subst m
        exact ⟨ho n rfl, fun i z => by cases z⟩
  ln := by
    show (((ns.filter fun r => decide (some r ≠ o)).map (fun r => ((r, some r) : LRow)) ++ _).map (·.1)).Nodup
    rw [List.map_append, List.map_map]
    have e : (List.map ((fun x => x.1) ∘ fun r => ((r, some r) : LRow)) (ns.filter fun r => decide (some r ≠ o))) = ns.filter fun r => decide (some r ≠ o) := by simp [Function.comp_def]
    rw [e]
    cases o with
    | none => exact (List.append_nil (ns.filter fun r => decide (some r ≠ (none : Option Int)))).symm ▸ h.nd.filter _
    | some n =>
      refine List.nodup_append.mpr ⟨h.nd.filter _, by simp, fun a ma b mb => ?_⟩
      simp at mb
      subst mb
      have := (List.mem_filter.mp ma).2
      simpa using this
  ll := by
    show ((ns.filter fun r => decide (some r ≠ o)).map (fun r => ((r, some r) : LRow)) ++ _).length ≤ 8
    have := h.l
    have h2 := List.length_filter_le (fun r => decide (some r ≠ o)) ns
    rw [List.length_append, List.length_map]
    cases o with
    | none => simp at h2 ⊢; omega
    | some n => simp at h2 ⊢; omega
  o := fun i z => by cases z
  b := ho
def trunkF (ns : List Int) (o : Option Int) : List (Str × D) := fldsP (trunkSp ns o) ++ [(("rooms" : Str), .tup ((srtI ns).map D.int)), (("native" : Str), opD o)]
theorem pc_trunk {C : Addr} : isL (cs_Trunk A) C = true → PC A C := by
  intro h
  simp at h
  rcases h with rfl | rfl <;> (unfold PC cs_Port; simp)
theorem gSort_sq {e : E} {ns : List Int} (h : Sq e (ns.map D.int)) : gSortF [toO e] = some (.n ((srtI ns).map D.int)) := by
  rcases h with rfl | rfl | rfl | rfl
  · exact gSort_l ns
  · show (match (match intsD (ns.map D.int) with | some ns => some (E.n ((srtI ns).map D.int)) | none => none) with | some e => some e | none => gSort [O.v (.tup (ns.map D.int))]) = _
    rw [intsD_map]
  · show gSort [O.lt (ns.map D.int)] = _
    have e1 : gSortI [.lt (ns.map D.int)] = some (.n ((srtI ns).map D.int)) := by
      show (match intsD (ns.map D.int) with | some ns => some (E.n ((srtI ns).map D.int)) | none => none) = _
      rw [intsD_map]
    unfold gSort
    rw [e1]
  · exact gSort_l ns
end
end Dn
set_option Elab.async false
set_option linter.all false
set_option maxRecDepth 100000
set_option maxHeartbeats 4000000
namespace Dn
open PySem PySem.Spec PyProof.Rows L2 TL
/-! ### the inits -/
section
variable {A : Ad} {S : Dr}
theorem putG_len {f : Str} {v : D} : ∀ {l : List (Str × D)}, (putG f v l).length ≤ l.length + 1
  | [] => Nat.le_refl _
  | (g, x) :: r => by
    unfold putG
    split
    · simp
    · have := putG_len (f := f) (v := v) (l := r)
      simp; omega
def plainSp (r : Int) : Sp := ⟨[], [(r, none)], none, some r⟩
def tunnelSp (r : Int) : Sp := ⟨[], [(r, none)], some r, some r⟩
theorem plain_okp {r : Int} (h : Tg r) : OkP (plainSp r) where
  a := fun r m => by cases m
  an := List.nodup_nil
  al := Nat.zero_le _
  l := fun q m => by
    cases List.mem_singleton.mp (show q ∈ [((r, none) : LRow)] from m)
    exact ⟨h, fun i z => by cases z⟩
  ln := by show ([r] : List Int).Nodup; simp
  ll := by show 1 ≤ 8; omega
  o := fun i z => by cases z
  b := fun i z => by cases z; exact h
theorem tunnel_okp {r : Int} (h : Tg r) : OkP (tunnelSp r) where
  a := fun r m => by cases m
  an := List.nodup_nil
  al := Nat.zero_le _
  l := fun q m => by
    cases List.mem_singleton.mp (show q ∈ [((r, none) : LRow)] from m)
    exact ⟨h, fun i z => by cases z⟩
  ln := by show ([r] : List Int).Nodup; simp
  ll := by show 1 ≤ 8; omega
  o := fun i z => by cases z; exact h
  b := fun i z => by cases z; exact h
def plainF (r : Int) : List (Str × D) := fldsP (plainSp r) ++ [(("room" : Str), .int r)]
def tunnelF (r : Int) : List (Str × D) := fldsP (tunnelSp r) ++ [(("room" : Str), .int r), (("inner" : Str), .int r)]
def looseSp (ns : List Int) (n : Int) : Sp := { trunkSp ns (some n) with ot := some n }
def looseF (ns : List Int) (n : Int) : List (Str × D) := fldsP (looseSp ns n) ++ [(("rooms" : Str), .tup ((srtI ns).map D.int)), (("native" : Str), .int n), (("inner" : Str), .int n)]
theorem plain_w {v : D} (h : Ty1 v) : (F_Plain___init__ A A.C_Plain [] [.v v] S).w (fun fs S1 => S1 = S ∧ ∃ r, v = .int r ∧ Tg r ∧ fs = plainF r) (fun C fs S1 => C = A.C_BadTag ∧ S1 = S ∧ isTag v = false ∧ fs = [(("value" : Str), v)]) := by
  unfold F_Plain___init__
  refine w_runI ?_
  show (b_Plain___init__ A [some (.ob A.C_Plain []), some (.v v)] S).w _
  unfold b_Plain___init__
  simp only [w_seq, w_ifS, w_not, w_tst, w_use, w_cons, w_nil, w_v1, w_rv, toO_v, List.length_singleton, if_true, tag_ok h, w_ok]
  refine ⟨isTag v, rfl, ?_⟩
  cases hf : isTag v with
  | false => simp [vals]
  | true =>
    obtain ⟨r, rfl, ht⟩ := tag_iff hf
    have hi := init_ok (A := A) (S := S) (C := A.C_Plain) (by unfold PC cs_Port; simp) (p := plainSp r) (plain_okp ht) (o1 := .v (.tup [])) (o2 := .v (.tup [.tup [.int r, .non]])) (.inr (.inl rfl)) (.inr (.inl rfl))
    simp only [Bool.not_true, Bool.false_eq_true, if_false, w_nx]
    rw [w_sup (by simp)]
    simp only [w_cons, w_nil, w_call, w_C, w_v1, w_rv, toO_v]
    refine ⟨_, rfl, _, rfl, _, rfl, rfl, rfl, ?_⟩
    show (F_Port___init__ A A.C_Plain [] [.v (.tup []), .v (.tup [.tup [.int r, .non]]), .v .non, .v (.int r)] S).w _ _
    refine .of_eq hi ?_
    rw [w_fldI (by simp) (by unfold fldsP; simp)]
    simp only [w_v1, w_rv]
    exact ⟨_, rfl, _, _, rfl, trivial, r, rfl, ht, rfl⟩
theorem tunnel_w {v : D} (h : Ty1 v) : (F_Tunnel___init__ A A.C_Tunnel [] [.v v] S).w (fun fs S1 => S1 = S ∧ ∃ r, v = .int r ∧ Tg r ∧ fs = tunnelF r) (fun C fs S1 => C = A.C_BadTag ∧ S1 = S ∧ isTag v = false ∧ fs = [(("value" : Str), v)]) := by
  unfold F_Tunnel___init__
  refine w_runI ?_
  show (b_Tunnel___init__ A [some (.ob A.C_Tunnel []), some (.v v)] S).w _
  unfold b_Tunnel___init__
  simp only [w_seq, w_ifS, w_not, w_tst, w_use, w_cons, w_nil, w_v1, w_rv, toO_v, List.length_singleton, if_true, tag_ok h, w_ok]
  refine ⟨isTag v, rfl, ?_⟩
  cases hf : isTag v with
  | false => simp [vals]
  | true =>
    obtain ⟨r, rfl, ht⟩ := tag_iff hf
    have hi := init_ok (A := A) (S := S) (C := A.C_Tunnel) (by unfold PC cs_Port; simp) (p := tunnelSp r) (tunnel_okp ht) (o1 := .v (.tup [])) (o2 := .v (.tup [.tup [.int r, .non]])) (.inr (.inl rfl)) (.inr (.inl rfl))
    simp only [Bool.not_true, Bool.false_eq_true, if_false, w_nx]
    rw [w_sup (by simp)]
    simp only [w_cons, w_nil, w_call, w_C, w_v1, w_rv, toO_v]
    refine ⟨_, rfl, _, rfl, _, rfl, rfl, rfl, ?_⟩
    show (F_Port___init__ A A.C_Tunnel [] [.v (.tup []), .v (.tup [.tup [.int r, .non]]), .v (.int r), .v (.int r)] S).w _ _
    refine .of_eq hi ?_
    rw [w_fldI (by simp) (by unfold fldsP; simp)]
    simp only [w_v1, w_rv]
    refine ⟨_, rfl, ?_⟩
    rw [w_fldI (by simp) (Nat.lt_of_le_of_lt putG_len (by unfold fldsP; simp))]
    simp only [w_v1, w_rv]
    exact ⟨_, rfl, _, _, rfl, trivial, r, rfl, ht, rfl⟩
/-- what a trunk's __init__ tells of its arguments -/
def trunkV (d v : D) : Option (List D) := match roomsV d with
  | some k => some [.str "rooms", .int k]
  | none => if roomOk v = true then none else some [.str "tag", v]
def looseV (d v : D) : Option (List D) := match roomsV d with
  | some k => some [.str "rooms", .int k]
  | none => if isTag v = true then none else some [.str "tag", v]
/-- an error of the ports', as the law tells it -/
def ErrP (A : Ad) (C : Addr) (fs : List (Str × D)) (x : List D) : Prop :=
  (C = A.C_BadEntry ∧ ∃ (pn : Str) (k : Int), fs = [(("index" : Str), D.int k), (("part" : Str), D.str pn)] ∧ x = [.str pn, .int k]) ∨ (C = A.C_BadTag ∧ ∃ v, fs = [(("value" : Str), v)] ∧ x = [.str "tag", v])
theorem itE_sq {o : O} {d : D} {ns : List Int} {ρ : Env} {i : Nat} (ho : ArgD o d) (hd : d = .lst (ns.map D.int) ∨ d = .tup (ns.map D.int)) (e : ρ[i]? = some (some o)) : fItrs true (fVar i) ρ S = .ok (ns.map D.int) S := by
  unfold fItrs fVar
  rw [e]
  rcases ho with rfl | ⟨ds, rfl, hds⟩
  · rcases hd with rfl | rfl <;> rfl
  · rcases hd with h | h
    · rw [h] at hds; cases hds; rfl
    · rw [h] at hds; cases hds
theorem exits_lc {a0 a1 : Option O} {o : Option Int} {a3 a4 : Option O} : ∀ ns : List Int, lcD (tgN 4) (fTst (fOp gNe (fVar 4) (fVar 2))) (c_Trunk___init___e1 A) [a0, a1, some (.v (opD o)), a3, a4] (ns.map D.int) S = .ok ((ns.filter fun r => decide (some r ≠ o)).map fun r => .tup [.int r, .int r]) S := fun ns => by
  refine lc_filterL (fun r => decide (some r ≠ o)) D.int (fun r => .tup [.int r, .int r]) ns fun r m => ⟨_, rfl, ?_, fun _ => ?_⟩
  · have e : gNe (.v (.int r)) (.v (opD o)) = some (.v (.bl (decide (some r ≠ o)))) := by
      cases o with
      | none => rfl
      | some n => simp [opD]; rw [Bool.eq_iff_iff]; simp
    simp [e]
    exact Classical.em _
  · unfold c_Trunk___init___e1
    simp
theorem arr_lc {a0 a1 a2 a3 a4 : Option O} : ∀ ns : List Int, lcD (tgN 4) fYes (c_Trunk___init___e2 A) [a0, a1, a2, a3, a4] (ns.map D.int) S = .ok ((ns.map fun r => ((r, r, false) : ARow)).map rowA) S := fun ns => by
  rw [List.map_map]
  refine lc_mapL D.int (rowA ∘ fun r => (r, r, false)) ns fun r m => ⟨_, rfl, ?_⟩
  unfold c_Trunk___init___e2
  simp [rowA]
theorem trunk_w {C : Addr} (hC : isL (cs_Trunk A) C = true) {o : O} {d v : D} (ho : ArgD o d) (h : Rd d) (hv : Ty1 v) : (F_Trunk___init__ A C [] [o, .v v] S).w
    (fun fs S1 => S1 = S ∧ trunkV d v = none ∧ ∃ ns w, (d = .lst (ns.map D.int) ∨ d = .tup (ns.map D.int)) ∧ Rooms ns ∧ v = opD w ∧ OkO w ∧ fs = trunkF ns w)
    (fun C' fs S1 => S1 = S ∧ ∃ x, trunkV d v = some x ∧ ErrP A C' fs x) := by
  unfold F_Trunk___init__
  refine w_runI ?_
  show (b_Trunk___init__ A [some (.ob C []), some o, some (.v v), none, none] S).w _
  unfold b_Trunk___init__
  obtain ⟨e, re, se, te⟩ := argE ho
  have tu : toO e = o ∨ ∃ ds, e = .b ds ∧ toO e = .lt ds := by
    rcases ho with rfl | ⟨ds, rfl, rfl⟩
    · cases re; exact .inl rfl
    · cases re; exact .inl rfl
  have to : toO e = o := by
    rcases ho with rfl | ⟨ds, rfl, rfl⟩ <;> (cases re; rfl)
  simp only [w_seq, w_drop, w_use, w_cons, w_nil, w_v1, w_rv, re, to, Out.of, w_ok, List.length_singleton, if_true]
  refine (chk_rooms ho h).mono (fun e0 S1 ⟨_, hS, q1⟩ => ?_) (fun C' fs S1 ⟨hC', hS, k, q1, hfs⟩ => ?_)
  · subst hS
    simp only [w_v2, w_rv, toO_v, List.length_singleton, if_true]
    refine (chk_room hv).mono (fun e0 S2 ⟨_, hS, q2⟩ => ?_) (fun C' fs S2 ⟨hC', hS, q2, hfs⟩ => ?_)
    · subst hS
      obtain ⟨ns, hd, hr⟩ := roomsV_none q1
      obtain ⟨w, rfl, hw⟩ := no_op q2
      have hsq := se (ns.map D.int) hd
      have hl := hr.l
      have hlf := List.length_filter_le (fun r => decide (some r ≠ w)) ns
      rw [w_sS3, w_lc]
      refine .of_eq (itE_sq ho hd rfl) ⟨_, _, exits_lc ns, by rw [List.length_map]; exact Nat.le_trans (List.length_filter_le _ _) (Nat.le_trans hl (by decide)), _, rfl, ?_⟩
      have rest : ∀ K : Kt, K.nx [some (.ob C (trunkF ns w)), some o, some (.v (opD w)), some (.l ((trunkSp ns w).lv.map rowL)), none] S2 → ((sSeq (sSup (isL (cs_Trunk A)) 2 1 (F_Port___init__ A) (fun os ks => os ++ (.v .non :: ks)) (aCons (fLc (fItrs true (fVar 1)) (tgN 4) fYes (c_Trunk___init___e2 A) [4]) (aCons (fVar 3) aNil)) (aCons (fVar 2) aNil))
  (sSeq (sFldI (isL (cs_Trunk A)) "rooms" (fCall gTupleOf (aCons (fCall gSortF (aCons (fVar 1) aNil)) aNil)))
  (sFldI (isL (cs_Trunk A)) "native" (fVar 2)))) [some (.ob C []), some o, some (.v (opD w)), some (.l ((trunkSp ns w).lv.map rowL)), none] S2).w K := fun K hK => by
        rw [w_seq, w_sup hC]
        simp only [w_cons, w_nil, w_lc]
        refine .of_eq (itE_sq ho hd rfl) ⟨_, _, arr_lc ns, by simp; omega, ?_⟩
        simp only [w_v3, w_v2, w_rl, w_rv, toO_v]
        refine ⟨rfl, rfl, ?_⟩
        refine .of_eq (init_ok (pc_trunk hC) (p := trunkSp ns w) (trunk_okp hr hw) (o1 := .v (.lst ((trunkSp ns w).ar.map rowA))) (o2 := .lt ((trunkSp ns w).lv.map rowL)) (.inr (.inr rfl)) (.inl rfl)) ?_
        rw [w_seq, w_fldI hC (by unfold fldsP; simp)]
        simp only [w_call, w_cons, w_nil, w_v1, re, Out.of, w_ok]
        refine ⟨_, gSort_sq hsq, _, rfl, _, rfl, ?_⟩
        rw [w_fldI hC (Nat.lt_of_le_of_lt putG_len (by unfold fldsP; simp))]
        simp only [w_v2, w_rv]
        exact ⟨_, rfl, hK⟩
      have eL : ((ns.filter fun r => decide (some r ≠ w)).map fun r => D.tup [.int r, .int r]) = ((ns.filter fun r => decide (some r ≠ w)).map (fun r => ((r, some r) : LRow))).map rowL := by
        rw [List.map_map]; rfl
      have fin : trunkV d (opD w) = none := by unfold trunkV; rw [q1]; dsimp only; rw [if_pos q2]
      cases w with
      | none =>
        simp only [w_ifS, w_tst, w_op, w_v2, w_rv, w_C, opD, gNotN]
        refine ⟨_, rfl, false, rfl, ?_⟩
        simp only [Bool.false_eq_true, if_false, w_nx]
        have := rest ⟨fun ρ S1 => ∃ fs' r, ρ = some (.ob C fs') :: r ∧ S1 = S2 ∧ trunkV d (opD none) = none ∧ ∃ ns w, (d = .lst (ns.map D.int) ∨ d = .tup (ns.map D.int)) ∧ Rooms ns ∧ opD none = opD w ∧ OkO w ∧ fs' = trunkF ns w, fun _ _ => False, fun _ _ => False, fun _ _ => False, fun D fs _ S1 => S1 = S2 ∧ ∃ x, trunkV d (opD none) = some x ∧ ErrP A D fs x⟩ ⟨_, _, rfl, rfl, fin, ns, none, hd, hr, rfl, hw, rfl⟩
        have e5 : (trunkSp ns none).lv.map rowL = ((ns.filter fun r => decide (some r ≠ (none : Option Int))).map fun r => D.tup [.int r, .int r]) := by
          unfold trunkSp
          dsimp only
          rw [List.append_nil, eL]
        rw [e5] at this
        simp only [w_seq] at this
        exact this
      | some n =>
        simp only [w_ifS, w_tst, w_op, w_v2, w_rv, w_C, opD, gNotN]
        refine ⟨_, rfl, true, rfl, ?_⟩
        simp only [if_true]
        rw [w_app rfl]
        simp only [w_call, w_cons, w_nil, w_v2, w_rv, w_C, toO_v]
        refine ⟨_, rfl, _, rfl, by rw [List.length_map]; exact Nat.lt_of_le_of_lt (Nat.le_trans (List.length_filter_le _ _) hl) (by decide), ?_⟩
        have := rest ⟨fun ρ S1 => ∃ fs' r, ρ = some (.ob C fs') :: r ∧ S1 = S2 ∧ trunkV d (opD (some n)) = none ∧ ∃ ns w, (d = .lst (ns.map D.int) ∨ d = .tup (ns.map D.int)) ∧ Rooms ns ∧ opD (some n) = opD w ∧ OkO w ∧ fs' = trunkF ns w, fun _ _ => False, fun _ _ => False, fun _ _ => False, fun D fs _ S1 => S1 = S2 ∧ ∃ x, trunkV d (opD (some n)) = some x ∧ ErrP A D fs x⟩ ⟨_, _, rfl, rfl, fin, ns, some n, hd, hr, rfl, hw, rfl⟩
        have e5 : (trunkSp ns (some n)).lv.map rowL = ((ns.filter fun r => decide (some r ≠ some n)).map fun r => D.tup [.int r, .int r]) ++ [.tup [.int n, .non]] := by
          unfold trunkSp
          dsimp only
          rw [List.map_append, eL]
          rfl
        rw [e5] at this
        simp only [w_seq] at this
        exact this
    · refine ⟨hS, _, ?_, .inr ⟨hC', _, hfs, rfl⟩⟩
      unfold trunkV
      rw [q1]
      dsimp only
      rw [if_neg (by rw [q2]; simp)]
  · refine ⟨hS, _, ?_, .inl ⟨hC', _, _, hfs, rfl⟩⟩
    unfold trunkV
    rw [q1]
end
end Dn
set_option Elab.async false
set_option linter.all false
set_option maxRecDepth 100000
set_option maxHeartbeats 4000000
namespace Dn
open PySem PySem.Spec PyProof.Rows L2 TL
section
variable {A : Ad} {S : Dr}
theorem loose_w {o : O} {d v : D} (ho : ArgD o d) (h : Rd d) (hv : Ty1 v) : (F_Loose___init__ A A.C_Loose [] [o, .v v] S).w
    (fun fs S1 => S1 = S ∧ looseV d v = none ∧ ∃ ns n, (d = .lst (ns.map D.int) ∨ d = .tup (ns.map D.int)) ∧ Rooms ns ∧ v = .int n ∧ Tg n ∧ fs = looseF ns n)
    (fun C' fs S1 => S1 = S ∧ ∃ x, looseV d v = some x ∧ ErrP A C' fs x) := by
  unfold F_Loose___init__
  refine w_runI ?_
  show (b_Loose___init__ A [some (.ob A.C_Loose []), some o, some (.v v)] S).w _
  unfold b_Loose___init__
  obtain ⟨e, re, se, te⟩ := argE ho
  have to : toO e = o := by
    rcases ho with rfl | ⟨ds, rfl, rfl⟩ <;> (cases re; rfl)
  simp only [w_seq, w_drop, w_use, w_cons, w_nil, w_v1, re, to, Out.of, w_ok, List.length_singleton, if_true]
  refine (chk_rooms ho h).mono (fun e0 S1 ⟨_, hS, q1⟩ => ?_) (fun C' fs S1 ⟨hC', hS, k, q1, hfs⟩ => ?_)
  · subst hS
    simp only [w_ifS, w_not, w_tst, w_use, w_cons, w_nil, w_v2, w_rv, toO_v, List.length_singleton, if_true, tag_ok hv, w_ok]
    refine ⟨isTag v, rfl, ?_⟩
    cases hf : isTag v with
    | false =>
      simp [vals]
      refine ⟨_, ?_, .inr ⟨rfl, _, rfl, rfl⟩⟩
      unfold looseV
      rw [q1]
      dsimp only
      rw [if_neg (by rw [hf]; simp)]
    | true =>
      obtain ⟨n, rfl, hn⟩ := tag_iff hf
      have hV : looseV d (.int n) = none := by unfold looseV; rw [q1]; dsimp only; rw [if_pos hf]
      have hT : trunkV d (.int n) = none := by unfold trunkV roomOk; rw [q1]; dsimp only; rw [if_pos (by rw [hf]; simp)]
      simp only [Bool.not_true, Bool.false_eq_true, if_false, w_nx]
      rw [w_sup (by simp)]
      simp only [w_cons, w_nil, w_v1, w_v2, w_rv, re, to, Out.of, w_ok, toO_v]
      refine ⟨rfl, rfl, ?_⟩
      show (F_Trunk___init__ A A.C_Loose [] [o, .v (.int n)] S1).w _ _
      refine (trunk_w (C := A.C_Loose) (by simp) ho h ⟨_, rfl⟩).mono (fun fs S2 ⟨hS, _, ns, w, hd, hr, hw, _, hfs⟩ => ?_) (fun C' fs S2 ⟨hS, x, hx, he⟩ => ?_)
      · subst hS; subst hfs
        have : w = some n := by cases w <;> simp [opD] at hw; rw [hw]
        subst this
        rw [w_fldI (by simp) (by unfold trunkF fldsP; simp)]
        simp only [w_v2, w_rv]
        refine ⟨_, rfl, ?_⟩
        rw [w_fldI (by simp) (Nat.lt_of_le_of_lt putG_len (by unfold trunkF fldsP; simp))]
        simp only [w_v2, w_rv]
        exact ⟨_, rfl, _, _, rfl, trivial, hV, ns, n, hd, hr, rfl, hn, rfl⟩
      · rw [hT] at hx; cases hx
  · refine ⟨hS, _, ?_, .inl ⟨hC', _, _, hfs, rfl⟩⟩
    unfold looseV
    rw [q1]
end
end Dn
set_option Elab.async false
set_option linter.all false
set_option maxRecDepth 100000
set_option maxHeartbeats 4000000
namespace Dn
open PySem PySem.Spec PyProof.Rows L2 TL
/-! ### what the law expects -/
section
variable {A : Ad} {S : Dr}
def fltE (o : Option Int) : D := match o with
  | some k => .int k
  | none => .non
theorem gIx_sq {d : D} {ds : List D} (h : d = .lst ds ∨ d = .tup ds) {i : Nat} {x : D} (e : ds[i]? = some x) : gIx (.v d) (.v (.int (i : Int))) = some (.v x) := by
  rcases h with rfl | rfl
  · exact gIx_l e
  · exact gIx_t e
theorem sq_of {d : D} {ds : List D} (h : d = .lst ds ∨ d = .tup ds) : Sq (.v d) ds := by
  rcases h with rfl | rfl
  · exact .inl rfl
  · exact .inr (.inl rfl)
theorem lst_sn {e : E} {ds : List D} (h : Sn e ds) : gListOf [toO e] = some (.n ds) := by rcases h with rfl | rfl <;> rfl
theorem le9_loop {K : Kt} {d : D} {ds : List D} (hd : d = .lst ds ∨ d = .tup ds) : ∀ (xs rest : List D) (i : Nat) (sn : List Int) (a : Option O), ds = sn.map D.int ++ (xs ++ rest) → sn.length = i → (∀ x ∈ xs, Ty1 x) →
    (badRoom xs sn = none → ∀ a, K.nx [some (.v d), a] S) → (∀ j, badRoom xs sn = some j → K.rt (.v (.int ((i + j : Nat) : Int))) S) →
    (forD (tgN 1) (b__law_entry_l1 A) (rngD (i : Int) xs.length) [some (.v d), a] S).w K
  | [], rest, i, sn, a, _, _, _, hn, _ => by
    rw [List.length_nil, rng_zero, w_fnil]
    exact hn rfl a
  | x :: xs, rest, i, sn, a, hds, hl, ht, hn, hx => by
    rw [List.length_cons, rng_succ, w_fcons]
    refine ⟨[some (.v d), some (.v (.int (i : Int)))], rfl, ?_⟩
    unfold badRoom at hn hx
    have hg : ds[i]? = some x := by rw [hds, List.getElem?_append_right (by simp [hl])]; simp [hl]
    have eg := gIx_sq hd hg
    unfold b__law_entry_l1
    rw [w_ifS, w_or, w_not, w_tst]
    simp only [w_use, w_cons, w_nil, w_op, w_v0, w_v1, w_rv, toO_v, eg, Option.some.injEq, exists_eq_left', List.length_singleton, if_true, ltag_ok (ht x (by simp)), w_ok]
    refine ⟨isTag x, rfl, ?_⟩
    cases hf : isTag x with
    | false =>
      rw [hf] at hx
      have := hx 0 (by simp)
      simp
      simpa using this
    | true =>
      obtain ⟨n, rfl, hn4⟩ := tag_iff hf
      obtain ⟨e', e1, e2⟩ := slE (i := i) (sq_of hd)
      have et : ds.take i = sn.map D.int := by rw [hds, List.take_append_of_le_length (by simp [hl]), List.take_of_length_le (by simp [hl])]
      rw [et] at e2
      simp only [Bool.not_true, Bool.false_eq_true, if_false, w_tst, w_op, w_sl, w_call, w_cons, w_nil, w_none, w_some, w_v0, w_v1, w_rv, eg, Option.some.injEq, exists_eq_left']
      refine ⟨(i : Int), rfl, e', e1, _, lst_sn e2, _, gInF_intsE (sn := sn) (.inr (.inr (.inr rfl))), _, rfl, ?_⟩
      simp only [Bool.false_eq_true, if_false]
      by_cases hin : n ∈ sn
      · have := hx 0 (by simp [hin, intOf])
        simp [hin]
        simpa using this
      · simp only [hin, decide_false, Bool.false_eq_true, if_false, w_nx]
        have := le9_loop (K := K) hd xs rest (i + 1) (sn ++ [n]) (some (.v (.int (i : Int)))) (by rw [hds]; simp) (by simp [hl]) (fun y m => ht y (by simp [m])) (fun q => hn (by simp [hin, intOf, hf, q])) (fun j q => by
          have := hx (j + 1) (by simp [hin, intOf, hf, q])
          rw [show i + 1 + j = i + (j + 1) by omega]
          exact this)
        have c : ((i + 1 : Nat) : Int) = (i : Int) + 1 := by omega
        rw [c] at this
        exact this
theorem entry9 {d : D} (h : Rd d) : F__law_entry A [.v d] S = .ok (.v (fltE (roomsV d))) S := by
  apply Out.eq_of_w
  rw [F__law_entry, w_run]
  show (b__law_entry A [some (.v d), none] S).w _
  unfold b__law_entry
  obtain ⟨t, ht⟩ := h.t
  simp only [w_seq, w_ifS, w_not, w_tst, w_isi2, w_v0, w_rv]
  refine ⟨t, ht, _, rfl, ?_⟩
  by_cases hs : ∃ ds, d = .lst ds ∨ d = .tup ds
  · obtain ⟨ds, hd⟩ := hs
    have hb : (isB t "list" || isB t "tuple") = true := by rcases hd with rfl | rfl <;> (cases ht; rfl)
    have hv : roomsV d = roomsL ds := by rcases hd with rfl | rfl <;> rfl
    have hr := h.r ds hd
    rw [hb]
    simp only [Bool.not_true, Bool.false_eq_true, if_false, w_nx, w_for, w_itC, w_call, w_cons, w_nil, w_C, w_v0, w_rv]
    refine ⟨_, lenE (sq_of hd), ?_⟩
    have em : gMin2 [O.v (.int (ds.length : Int)), O.v (.int 7)] = some (.v (.int ((ds.take 7).length : Int))) := by
      simp
      split <;> omega
    refine ⟨_, em, _, gRng1_nat (by simp; omega), ?_⟩
    refine le9_loop hd (ds.take 7) (ds.drop 7) 0 [] none (by simp) rfl (fun x m => hr.1 x (List.mem_of_mem_take m)) (fun q a => ?_) (fun j q => ?_)
    · simp only [w_ret, w_if, w_tst, w_op, w_call, w_cons, w_nil, w_v0, w_rv, w_C]
      refine ⟨_, lenE (sq_of hd), _, rfl, _, rfl, ?_⟩
      by_cases hl : 7 < ds.length
      · rw [if_pos (by simp; omega)]
        refine ⟨_, rfl, ?_, trivial⟩
        rw [hv]; unfold roomsL; rw [q]; simp [hl, fltE]
      · rw [if_neg (by simp; omega)]
        refine ⟨_, rfl, ?_, trivial⟩
        rw [hv]; unfold roomsL; rw [q]; simp [hl, fltE]
    · refine ⟨?_, rfl⟩
      rw [hv]; unfold roomsL; rw [q]; simp [fltE]
  · have hb : (isB t "list" || isB t "tuple") = false := by
      cases d <;> first | (cases ht; done) | exact absurd ⟨_, .inl rfl⟩ hs | exact absurd ⟨_, .inr rfl⟩ hs | (cases ht; rfl)
    have hv : roomsV d = some (-1) := by
      cases d <;> first | exact absurd ⟨_, .inl rfl⟩ hs | exact absurd ⟨_, .inr rfl⟩ hs | rfl
    rw [hb, hv]
    simp [fltE]
def V9 (loose : Bool) (d v : D) : Option (List D) := if loose = true then looseV d v else trunkV d v
def kd9 (loose : Bool) : Str := if loose = true then "loose" else "trunk"
def ans9 (loose : Bool) (d v : D) (e : E) : Prop := (∃ x, V9 loose d v = some x ∧ e = .n x) ∨ (V9 loose d v = none ∧ ∃ ns, (d = .lst (ns.map D.int) ∨ d = .tup (ns.map D.int)) ∧ Rooms ns ∧ e = .v (.tup [.tup ((srtI ns).map D.int), v]))
theorem sh_lit0 {x : Str} (h : ((sg x).all fun c => decide (c < 1114112)) = true) : Sh x := sh_iff.mpr fun c m => by simpa using List.all_eq_true.mp h c m
theorem kd_eq {loose : Bool} : gEq (.v (.str (kd9 loose))) (.v (.str "loose")) = some (.v (.bl loose)) := by
  cases loose
  · rw [gEq_str (sh_lit0 rfl) (sh_lit0 rfl)]; rfl
  · rw [gEq_str (sh_lit0 rfl) (sh_lit0 rfl)]; rfl
theorem due9 {loose : Bool} {d v : D} (h : Rd d) (hv : Ty1 v) : (F__law_due A [.v (.str (kd9 loose)), .v d, .v v] S).w (fun e S1 => S1 = S ∧ ans9 loose d v e) noX' := by
  rw [F__law_due, w_run]
  show (b__law_due A [some (.v (.str (kd9 loose))), some (.v d), some (.v v), none] S).w _
  unfold b__law_due
  rw [w_seq, w_ifS, w_tst]
  simp only [w_op, w_use, w_cons, w_nil, w_v1, w_rv, w_C, toO_v, List.length_singleton, if_true, entry9 h, w_ok]
  cases q : roomsV d with
  | some k =>
    simp [fltE, gNotN, entry9 h, q]
    refine .inl ⟨_, ?_, rfl⟩
    unfold V9 looseV trunkV
    rw [q]
    cases loose <;> rfl
  | none =>
    obtain ⟨ns, hd, hr⟩ := roomsV_none q
    simp only [fltE, gNotN]
    refine ⟨_, rfl, false, rfl, ?_⟩
    simp only [Bool.false_eq_true, if_false, w_nx]
    have hV : V9 loose d v = if (isTag v || (!loose && isNo v)) = true then none else some [.str "tag", v] := by
      unfold V9 looseV trunkV roomOk
      rw [q]
      cases loose <;> simp [Bool.or_comm]
    have key : ∀ K : Kt, (V9 loose d v = none → K.nx [some (.v (.str (kd9 loose))), some (.v d), some (.v v), none] S) → (V9 loose d v = some [.str "tag", v] → K.rt (.n [.str "tag", v]) S) →
        ((sIf (fAnd (fNot (fTst (fUse 1 (F__law_tag A) (aCons (fVar 2) aNil)))) (fOr (fTst (fOp gEq (fVar 0) (fC (.str "loose")))) (fTst (fOp gNotN (fVar 2) (fC .non))))) (sRet (fCall gLstD (aCons (fC (.str "tag")) (aCons (fVar 2) aNil)))) sNx) [some (.v (.str (kd9 loose))), some (.v d), some (.v v), none] S).w K := fun K k1 k2 => by
      simp [ltag_ok hv, kd_eq, isNone_no, gNotN]
      rw [hV] at k1 k2
      cases h1 : isTag v <;> cases h2 : isNo v <;> cases loose <;> simp [h1, h2] at k1 k2 ⊢ <;> first | exact k1 | exact k2
    rw [w_seq]
    refine key _ (fun hn => ?_) fun hs => ?_
    · simp only [w_ret, w_call, w_cons, w_nil, w_lc, w_v2, w_rv]
      have hl := hr.l
      refine .of_eq (itE_sq (.inl rfl) hd rfl) ⟨_, _, lc_mapL D.int D.int ns fun r m => ⟨_, rfl, by unfold c__law_due_e1; simp⟩, by simp; omega, ?_⟩
      refine ⟨_, gSort_sq (.inr (.inr (.inr rfl))), _, rfl, _, rfl, _, rfl, rfl, .inr ⟨hn, ns, hd, hr, rfl⟩⟩
    · exact ⟨rfl, .inl ⟨_, hs, rfl⟩⟩
end
end Dn
set_option Elab.async false
set_option linter.all false
set_option maxRecDepth 100000
set_option maxHeartbeats 4000000
namespace Dn
open PySem PySem.Spec PyProof.Rows L2 TL
section
variable {A : Ad} {S : Dr}
theorem lk_ro {p : Sp} {a b : D} {r : List (Str × D)} : List.lookup ("rooms" : Str) (fldsP p ++ ((("rooms" : Str), a) :: (("native" : Str), b) :: r)) = some a := rfl
theorem lk_na {p : Sp} {a b : D} {r : List (Str × D)} : List.lookup ("native" : Str) (fldsP p ++ ((("rooms" : Str), a) :: (("native" : Str), b) :: r)) = some b := rfl
/-- a port with rooms, as the law asks of it -/
def Port9 (A : Ad) (ns : List Int) (v : D) (e : E) : Prop := ∃ C fs, e = .v (.obj C fs) ∧ isL (cs_Trunk A) C = true ∧ fs.lookup ("rooms" : Str) = some (.tup ((srtI ns).map D.int)) ∧ fs.lookup ("native" : Str) = some v
theorem made9 {loose : Bool} {o : O} {d v : D} (ho : ArgD o d) (h : Rd d) (hv : Ty1 v) : (F__law_made A [.v (.str (kd9 loose)), o, .v v] S).w
    (fun e S1 => S1 = S ∧ V9 loose d v = none ∧ ∃ ns, (d = .lst (ns.map D.int) ∨ d = .tup (ns.map D.int)) ∧ Rooms ns ∧ Port9 A ns v e) (fun C fs S1 => S1 = S ∧ ∃ x, V9 loose d v = some x ∧ ErrP A C fs x) := by
  rw [F__law_made, w_run]
  show (b__law_made A [some (.v (.str (kd9 loose))), some o, some (.v v)] S).w _
  unfold b__law_made
  obtain ⟨e, re, se, te⟩ := argE ho
  have to : toO e = o := by
    rcases ho with rfl | ⟨ds, rfl, rfl⟩ <;> (cases re; rfl)
  simp only [w_seq, w_ifS, w_tst, w_op, w_v0, w_rv, w_C, kd_eq, Option.some.injEq, exists_eq_left']
  refine ⟨loose, rfl, ?_⟩
  cases loose with
  | true =>
    simp only [if_true, w_ret, w_makeK, w_cons, w_nil, w_v1, w_v2, w_rv, re, to, Out.of, w_ok, toO_v]
    refine ⟨rfl, rfl, ?_⟩
    show (F_Loose___init__ A A.C_Loose [] [o, .v v] S).w _ _
    refine (loose_w ho h hv).mono (fun fs S1 ⟨hS, hV, ns, n, hd, hr, hn, _, hfs⟩ => ?_) (fun C fs S1 ⟨hS, x, hx, he⟩ => ⟨hS, x, hx, he⟩)
    subst hfs; subst hn
    exact ⟨_, rfl, hS, hV, ns, hd, hr, _, _, rfl, by simp, lk_ro, lk_na⟩
  | false =>
    simp only [Bool.false_eq_true, if_false, w_nx, w_ret, w_makeK, w_cons, w_nil, w_v1, w_v2, w_rv, re, to, Out.of, w_ok, toO_v]
    refine ⟨rfl, rfl, ?_⟩
    show (F_Trunk___init__ A A.C_Trunk [] [o, .v v] S).w _ _
    refine (trunk_w (C := A.C_Trunk) (by simp) ho h hv).mono (fun fs S1 ⟨hS, hV, ns, w, hd, hr, hw, _, hfs⟩ => ?_) (fun C fs S1 ⟨hS, x, hx, he⟩ => ⟨hS, x, hx, he⟩)
    subst hfs; subst hw
    exact ⟨_, rfl, hS, hV, ns, hd, hr, _, _, rfl, by simp, lk_ro, lk_na⟩
theorem pl_seq {d : D} {ns : List Int} (hd : d = .lst (ns.map D.int) ∨ d = .tup (ns.map D.int)) (h : ns.length ≤ 7) : Pl 2 d := by
  rcases hd with rfl | rfl <;> exact ⟨fun x m => by obtain ⟨i, _, rfl⟩ := List.mem_map.mp m; exact trivial, by simp; omega⟩
theorem zip_lt {xs ys : List D} : gZip true [.lt xs, .v (.lst ys)] = some (zipD xs ys) := rfl
/-- a lent list and a list -/
theorem eq_lent {n : Nat} {xs : List D} (h1 : ∀ x ∈ xs, Pl n x) (hl : xs.length ≤ sizeLine) : F__law_equal A (n + 1) [.lt xs, .v (.lst xs)] S = .ok (.v (.bl true)) S := by
  obtain ⟨bs, e, k, l⟩ := eq_lc (A := A) (S := S) (o1 := .lt xs) (o2 := .v (.lst xs)) (eq_all n) xs xs h1 h1 rfl
  apply Out.eq_of_w
  rw [F__law_equal, w_run]
  show (b__law_equal A _ [_, _, none, none] S).w _
  unfold b__law_equal
  simp
  refine ⟨_, zip_lt, _, _, e, by simp [l]; exact hl, ?_⟩
  have hb : bs.all id = true := k.mpr rfl
  simp
  intro m
  have := List.all_eq_true.mp hb _ m
  simp at this
theorem wXf5 {ρ : Env} {P : E → Dr → Prop} {X : PX} {a0 a1 a2 a3 a4 : Option O} {ok : Addr → Bool} {f : Str} {C : Addr} {fs : List (Str × D)} : (fXf 5 ok f (a0 :: a1 :: a2 :: a3 :: a4 :: some (.x C fs) :: ρ) S).w P X = (ok C = true ∧ ∃ d, fs.lookup f = some d ∧ P (.v d) S) := w_xf rfl
theorem wXis5 {tab : Addr → Option Bool} {C : Addr} {fs : List (Str × D)} {a0 a1 a2 a3 a4 : Option O} {ρ : Env} {P : E → Dr → Prop} {X : PX} : (fXis 5 tab (a0 :: a1 :: a2 :: a3 :: a4 :: some (.x C fs) :: ρ) S).w P X = ∃ b, tab C = some b ∧ P (.v (.bl b)) S := by
  unfold fXis
  show (match tab C with | some b => Out.ok (E.v (.bl b)) S | none => .stk).w P X = _
  cases tab C with
  | some b => simp
  | none => simp
theorem told9 {loose : Bool} {d v : D} (h : Rd d) (hv : Ty1 v) : (F__law_told A [.v (.str (kd9 loose)), .v d, .v v] S).w (fun e S1 => S1 = S ∧ ans9 loose d v e) noX' := by
  rw [F__law_told, w_run]
  show (b__law_told A [some (.v (.str (kd9 loose))), some (.v d), some (.v v), none, none, none] S).w _
  unfold b__law_told
  obtain ⟨t, ht⟩ := h.t
  rw [w_try, w_seq, w_sS3, w_if, w_tst, w_isi]
  simp only [w_v1, w_rv]
  refine ⟨t, ht, _, rfl, ?_⟩
  by_cases hs : ∃ ds, d = .lst ds
  · obtain ⟨ds, rfl⟩ := hs
    cases ht
    rw [if_pos (by decide)]
    simp only [w_call, w_cons, w_nil, w_v1, w_rv, toO_v]
    refine ⟨_, rfl, _, rfl, ?_⟩
    rw [w_seq, w_sF4]
    simp only [w_use, w_cons, w_nil, w_v0, w_v2, w_v3, w_rv, w_rl, toO_v, List.length_cons, List.length_nil, if_true]
    show (F__law_made A [.v (.str (kd9 loose)), .lt ds, .v v] S).w _ _
    refine (made9 (o := .lt ds) (.inr ⟨ds, rfl, rfl⟩) h hv).mono (fun e S1 ⟨hS, hV, ns, hd, hr, C, fs, he, hC, lr, ln⟩ => ?_) (fun C fs S1 ⟨hS, x, hV, he⟩ => ?_)
    · subst hS; subst he
      have hds : ds = ns.map D.int := by rcases hd with e | e <;> cases e; rfl
      have p2 := pl_seq hd hr.l
      refine ⟨_, rfl, ?_⟩
      have e6 : F__law_equal A q__law_equal [.lt ds, .v (.lst ds)] S1 = .ok (.v (.bl true)) S1 := eq_lent (n := 5) (fun x m => pl_mono (p2.1 x m) (by decide)) p2.2
      simp only [w_seq, w_ifS, w_not, w_tst, w_use, w_cons, w_nil, w_v1, w_v3, w_rv, w_rl, toO_v, List.length_cons, List.length_nil, if_true]
      show (F__law_equal A q__law_equal [.lt ds, .v (.lst ds)] S1).w _ _
      rw [e6]
      refine ⟨true, rfl, ?_⟩
      simp only [Bool.not_true, Bool.false_eq_true, if_false, w_nx, w_isi, w_v3, w_rl]
      refine ⟨_, rfl, _, rfl, ?_⟩
      rw [if_pos (by decide), w_app rfl]
      simp only [w_C]
      refine ⟨_, rfl, by have := hr.l; rw [hds]; simp; omega, ?_⟩
      show ((sRet _) [some (.v (.str (kd9 loose))), some (.v (.lst ds)), some (.v v), some (.l (ds ++ [.int 9])), some (.v (.obj C fs)), none] S1).w _
      simp only [w_ret, w_call, w_cons, w_nil, w_fld, w_v4, w_rv, toO_v]
      exact ⟨C, fs, _, rfl, hC, lr, C, fs, _, rfl, hC, ln, _, rfl, _, rfl, trivial, .inr ⟨hV, ns, hd, hr, rfl⟩⟩
    · subst hS
      rcases he with ⟨rfl, pn, k, rfl, rfl⟩ | ⟨rfl, w, rfl, rfl⟩
      · simp [Ad.mt_TagError, Ad.is_BadEntry, Ad.has_index, Ad.has_part, noX, wXf5, wXis5]
        exact ⟨_, rfl, .inl ⟨_, hV, rfl⟩⟩
      · simp [Ad.mt_TagError, Ad.is_BadEntry, Ad.is_BadTag, Ad.has_value, noX, wXf5, wXis5]
        exact .inl ⟨_, hV, rfl⟩
  · have hb : isB t "list" = false := by
      cases d <;> first | (cases ht; done) | exact absurd ⟨_, rfl⟩ hs | (cases ht; rfl)
    rw [hb]
    simp only [Bool.false_eq_true, if_false, w_v1, w_rv]
    refine ⟨_, rfl, ?_⟩
    rw [w_seq, w_sF4]
    simp only [w_use, w_cons, w_nil, w_v0, w_v2, w_v3, w_rv, toO_v, List.length_cons, List.length_nil, if_true]
    show (F__law_made A [.v (.str (kd9 loose)), .v d, .v v] S).w _ _
    refine (made9 (o := .v d) (.inl rfl) h hv).mono (fun e S1 ⟨hS, hV, ns, hd, hr, C, fs, he, hC, lr, ln⟩ => ?_) (fun C fs S1 ⟨hS, x, hV, he⟩ => ?_)
    · subst hS; subst he
      have p2 := pl_seq hd hr.l
      refine ⟨_, rfl, ?_⟩
      obtain ⟨b, e5, hb5⟩ := eq_all (A := A) q__law_equal d d S1 (pl_mono p2 (by decide)) (pl_mono p2 (by decide))
      have e6 : F__law_equal A q__law_equal [.v d, .v d] S1 = .ok (.v (.bl true)) S1 := by rw [e5, hb5.mpr rfl]
      simp only [w_seq, w_ifS, w_not, w_tst, w_use, w_cons, w_nil, w_v1, w_v3, w_rv, toO_v, List.length_cons, List.length_nil, if_true]
      show (F__law_equal A q__law_equal [.v d, .v d] S1).w _ _
      rw [e6]
      refine ⟨true, rfl, ?_⟩
      simp only [Bool.not_true, Bool.false_eq_true, if_false, w_nx, w_isi, w_v3, w_rv]
      refine ⟨_, ht, _, rfl, ?_⟩
      rw [hb]
      simp only [Bool.false_eq_true, if_false, w_nx, w_ret, w_call, w_cons, w_nil, w_fld, w_v4, w_rv, toO_v]
      exact ⟨C, fs, _, rfl, hC, lr, C, fs, _, rfl, hC, ln, _, rfl, _, rfl, trivial, .inr ⟨hV, ns, hd, hr, rfl⟩⟩
    · subst hS
      rcases he with ⟨rfl, pn, k, rfl, rfl⟩ | ⟨rfl, w, rfl, rfl⟩
      · simp [Ad.mt_TagError, Ad.is_BadEntry, Ad.has_index, Ad.has_part, noX, wXf5, wXis5]
        exact ⟨_, rfl, .inl ⟨_, hV, rfl⟩⟩
      · simp [Ad.mt_TagError, Ad.is_BadEntry, Ad.is_BadTag, Ad.has_value, noX, wXf5, wXis5]
        exact .inl ⟨_, hV, rfl⟩
theorem wXf2 {ρ : Env} {P : E → Dr → Prop} {X : PX} {a0 a1 : Option O} {ok : Addr → Bool} {f : Str} {C : Addr} {fs : List (Str × D)} : (fXf 2 ok f (a0 :: a1 :: some (.x C fs) :: ρ) S).w P X = (ok C = true ∧ ∃ d, fs.lookup f = some d ∧ P (.v d) S) := w_xf rfl
theorem single9 {plain : Bool} {v : D} (hv : Ty1 v) : (F__law_single A [.v (.str (if plain = true then "plain" else "tunnel")), .v v] S).w (fun e S1 => S1 = S ∧ e = if isTag v = true then .v v else .n [v]) noX' := by
  rw [F__law_single, w_run]
  show (b__law_single A [some (.v (.str (if plain = true then "plain" else "tunnel"))), some (.v v), none] S).w _
  unfold b__law_single
  have ek : gEq (.v (.str (if plain = true then "plain" else "tunnel"))) (.v (.str "plain")) = some (.v (.bl plain)) := by
    cases plain
    · rw [gEq_str (sh_lit0 rfl) (sh_lit0 rfl)]; rfl
    · rw [gEq_str (sh_lit0 rfl) (sh_lit0 rfl)]; rfl
  rw [w_try, w_ret, w_if, w_tst, w_op]
  simp only [w_v0, w_rv, w_C, ek, Option.some.injEq, exists_eq_left']
  refine ⟨plain, rfl, ?_⟩
  cases plain with
  | true =>
    simp only [if_true, w_fld, w_makeK, w_cons, w_nil, w_v1, w_rv, toO_v]
    refine ⟨rfl, rfl, ?_⟩
    show (F_Plain___init__ A A.C_Plain [] [.v v] S).w _ _
    refine (plain_w hv).mono (fun fs S1 ⟨hS, r, hr, ht, hfs⟩ => ?_) (fun C fs S1 ⟨hC, hS, hf, hfs⟩ => ?_)
    · subst hS; subst hr; subst hfs
      refine ⟨A.C_Plain, _, _, rfl, by simp, rfl, _, rfl, rfl, ?_⟩
      rw [if_pos (by simp [isTag, ht.1, ht.2])]
    · subst hS; subst hC; subst hfs
      simp [Ad.mt_BadTag, Ad.has_value, noX, wXf2, hf]
  | false =>
    simp only [Bool.false_eq_true, if_false, w_fld, w_makeK, w_cons, w_nil, w_v1, w_rv, toO_v]
    refine ⟨rfl, rfl, ?_⟩
    show (F_Tunnel___init__ A A.C_Tunnel [] [.v v] S).w _ _
    refine (tunnel_w hv).mono (fun fs S1 ⟨hS, r, hr, ht, hfs⟩ => ?_) (fun C fs S1 ⟨hC, hS, hf, hfs⟩ => ?_)
    · subst hS; subst hr; subst hfs
      refine ⟨A.C_Tunnel, _, _, rfl, by simp, rfl, _, rfl, rfl, ?_⟩
      rw [if_pos (by simp [isTag, ht.1, ht.2])]
    · subst hS; subst hC; subst hfs
      simp [Ad.mt_BadTag, Ad.has_value, noX, wXf2, hf]
end
end Dn
set_option Elab.async false
set_option linter.all false
set_option maxRecDepth 100000
set_option maxHeartbeats 4000000
namespace Dn
open PySem PySem.Spec PyProof.Rows L2 TL
/-! ### rooms, drawn -/
section
variable {A : Ad} {S : Dr}
def Vl9 (x : D) : Prop := Ty1 x ∧ Pl 2 x
theorem vl_i {i : Int} : Vl9 (.int i) := ⟨⟨_, rfl⟩, trivial⟩
theorem vl_b {b : Bool} : Vl9 (.bl b) := ⟨⟨_, rfl⟩, trivial⟩
theorem vl_n : Vl9 .non := ⟨⟨_, rfl⟩, trivial⟩
theorem vl_s {x : Str} (h : Sh x) : Vl9 (.str x) := ⟨⟨_, rfl⟩, h⟩
theorem vl_t {i : Int} : Vl9 (.tup [.int i]) := ⟨⟨_, rfl⟩, ⟨fun x m => by cases List.mem_singleton.mp m; exact trivial, by simp⟩⟩
theorem vl_l {i : Int} : Vl9 (.lst [.int i]) := ⟨⟨_, rfl⟩, ⟨fun x m => by cases List.mem_singleton.mp m; exact trivial, by simp⟩⟩
theorem vl_l0 : Vl9 (.lst []) := ⟨⟨_, rfl⟩, ⟨fun x m => (nomatch m), by simp⟩⟩
structure Rd9 (d : D) : Prop where
  t : Ty1 d
  r : ∀ ds, d = .lst ds ∨ d = .tup ds → (∀ x ∈ ds, Vl9 x) ∧ ds.length ≤ 20
theorem Rd9.rd {d : D} (h : Rd9 d) : Rd d := ⟨h.t, fun ds e => ⟨fun x m => ((h.r ds e).1 x m).1, (h.r ds e).2⟩⟩
theorem rd_rows {d : D} {ds : List D} (hd : d = .lst ds ∨ d = .tup ds) (hr : ∀ x ∈ ds, Vl9 x) (hl : ds.length ≤ 20) : Rd9 d := by
  rcases hd with rfl | rfl
  · exact ⟨⟨_, rfl⟩, fun es e => by rcases e with e | e <;> cases e; exact ⟨hr, hl⟩⟩
  · exact ⟨⟨_, rfl⟩, fun es e => by rcases e with e | e <;> cases e; exact ⟨hr, hl⟩⟩
theorem gIx_last {ds : List D} (h : ds ≠ []) : ∃ d ∈ ds, gIx (.v (.lst ds)) (.v (.int (-1))) = some (.v d) := by
  have hl : 0 < ds.length := List.length_pos_iff.mpr h
  have hi : ds.length - 1 < ds.length := by omega
  refine ⟨ds[ds.length - 1], List.getElem_mem hi, ?_⟩
  have e : atI ds (-1) = some ds[ds.length - 1] := by
    unfold atI ixN
    rw [if_neg (by omega), if_pos (by omega)]
    have : (-1 + (ds.length : Int)).toNat = ds.length - 1 := by omega
    simp [this, hi]
  show (atI ds (-1)).map E.v = _
  rw [e]; rfl
theorem turn9 {K : Kt} {t n : Nat} {rooms found : List D} {a2 a3 a6 a7 a8 : Option O} (hS : OkD t S) (ht : t ≤ 100000) (hn : 0 < n) (hn2 : n ≤ 9) (hr : rooms.length = n) (gr : ∀ x ∈ rooms, Vl9 x) (hf : found.length = n) (gf : ∀ x ∈ found, Vl9 x)
    (k : ∀ found' a7 S', found'.length = n → (∀ x ∈ found', Vl9 x) → OkD (t + 2) S' → K.nx [some (.v .drw), some (.v (.int (n : Int))), a2, a3, some (.v (.lst rooms)), some (.l found'), a6, a7, a8] S') :
    (b__law_rooms_drawn_l1 A [some (.v .drw), some (.v (.int (n : Int))), a2, a3, some (.v (.lst rooms)), some (.l found), a6, a7, a8] S).w K := by
  have hne : rooms ≠ [] := fun e => by rw [e] at hr; simp at hr; omega
  obtain ⟨x0, m0, e0⟩ := gIx_any (ds := rooms) (x := .v (.lst rooms)) (.inl rfl) (r := 0) (by omega) (by omega)
  obtain ⟨x1, m1, e1⟩ := gIx_last hne
  unfold b__law_rooms_drawn_l1
  simp [e0, e1]
  rw [w_setIx rfl]
  simp
  refine w_one hS (by omega) (by simp) (by simp) fun d hd S1 hS1 => ?_
  refine ⟨_, rfl, ?_⟩
  refine w_next hS1 (by omega) (by omega) (by omega) fun r S2 h0 h1 hS2 => ?_
  refine ⟨_, rfl, _, ixN_ok h0 (by rw [hf]; exact h1), ?_⟩
  refine k (found.set r.toNat d) _ S2 (by rw [List.length_set]; exact hf) (fun y m => ?_) hS2
  rcases List.mem_or_eq_of_mem_set m with m | m
  · exact gf y m
  · rw [m]
    simp at hd
    rcases hd with rfl | rfl | rfl | rfl | rfl | rfl | rfl | rfl | rfl | rfl | rfl | rfl
    · exact vl_n
    · exact vl_i
    · exact vl_i
    · exact vl_b
    · exact vl_s (sh_lit0 rfl)
    · exact vl_t
    · exact vl_i
    · exact vl_i
    · exact vl_l
    · exact gr _ m0
    · exact gr _ m1
    · exact vl_i
def roomI (n : Nat) (T : Nat) (rooms : List D) (r : List D) (ρ : Env) (S : Dr) : Prop := ∃ (found : List D) (a2 a3 a6 a7 a8 : Option O), ρ = [some (.v .drw), some (.v (.int (n : Int))), a2, a3, some (.v (.lst rooms)), some (.l found), a6, a7, a8] ∧ found.length = n ∧ (∀ x ∈ found, Vl9 x) ∧
  r.length ≤ 2 ∧ OkD (T - 2 * r.length) S ∧ (r ≠ [] → 0 < n)
theorem rooms9 {t : Nat} (h : OkD t S) (ht : t ≤ 10000) : (F__law_rooms_drawn A [.v .drw] S).w (fun e S' => ∃ d, e = .v d ∧ Rd9 d ∧ OkD (t + 30) S') noX' := by
  rw [F__law_rooms_drawn, w_run]
  show (b__law_rooms_drawn A [some (.v .drw), none, none, none, none, none, none, none, none] S).w _
  unfold b__law_rooms_drawn
  rw [w_seq, w_sF1]
  simp only [w_use, w_cons, w_nil, w_v0, w_rv, w_call, w_C, toO_v]
  refine ⟨_, rfl, ?_⟩
  simp only [List.length_cons, List.length_nil, if_true]
  refine w_one h (by omega) (by simp) (by simp) fun d hd S1 hS1 => ?_
  obtain ⟨n, rfl, hn⟩ : ∃ n : Nat, d = .int (n : Int) ∧ n ≤ 9 := by
    simp at hd
    rcases hd with rfl | rfl | rfl | rfl | rfl | rfl | rfl | rfl
    · exact ⟨0, rfl, by omega⟩
    · exact ⟨1, rfl, by omega⟩
    · exact ⟨2, rfl, by omega⟩
    · exact ⟨3, rfl, by omega⟩
    · exact ⟨6, rfl, by omega⟩
    · exact ⟨7, rfl, by omega⟩
    · exact ⟨8, rfl, by omega⟩
    · exact ⟨9, rfl, by omega⟩
  refine ⟨_, rfl, ?_⟩
  rw [w_seq, w_asg]
  simp only [w_call, w_cons, w_nil, w_op, w_C, w_use, w_v0, w_rv, toO_v, List.length_cons, List.length_nil, if_true]
  refine w_next hS1 (by omega) (by omega) (by omega) fun r1 S2 h0 h1 hS2 => ?_
  refine ⟨_, rfl, ?_⟩
  refine w_next hS2 (by omega) (by omega) (by omega) fun r2 S3 h2 h3 hS3 => ?_
  refine ⟨_, rfl, _, rfl, _, rfl, _, rfl, ?_⟩
  dsimp only [List.set_cons_succ, List.set_cons_zero]
  rw [w_seq, w_sF4]
  simp only [w_lc, w_itC, w_cons, w_nil, w_v1, w_rv, toO_v]
  refine ⟨_, gRng1_nat (by omega), ?_⟩
  obtain ⟨xs, S4, e2, l2, g2, hS4⟩ := lc_draw1 (tgt := tgN 8) (fe := c__law_rooms_drawn_e1 A)
    (ρ := [some (.v .drw), some (.v (.int (n : Int))), some (.v (.int (1 + r1))), some (.v (.int (1 + r2))), none, none, none, none, none]) (G := Vl9) (k := 0) (rngD 0 n) S3 _ hS3 (fun d m S t' hS' hb => by
      unfold rngD at m
      obtain ⟨j, mj, rfl⟩ := List.mem_map.mp m
      have mj := List.mem_range.mp mj
      refine ⟨_, rfl, ?_⟩
      have em : gMul (.v (.int (1 + r2))) (.v (.int (0 + (j : Int)))) = some (.v (.int ((1 + r2) * (0 + (j : Int))))) := gMul_int (.inl ⟨by omega, by omega⟩)
      unfold c__law_rooms_drawn_e1
      dsimp only [List.set_cons_succ, List.set_cons_zero]
      simp only [w_op, w_v2, w_v3, w_v8, w_rv, em, Option.some.injEq, exists_eq_left', gAdd_int]
      exact ⟨_, rfl, vl_i, hS'⟩)
  simp at l2 hS4
  refine ⟨xs, S4, e2, by simp; omega, _, rfl, ?_⟩
  have key : ∀ (found : List D) (S5 : Dr), found.length = n → (∀ x ∈ found, Vl9 x) → OkD (t + 4) S5 → ∀ K : Kt, (∀ d S', Rd9 d → OkD (t + 30) S' → K.rt (.v d) S') →
      ((sSeq (sFor (fItC gRng1 (aCons (fOp gMul (fUse 2 nextF (aCons (fVar 0) (aCons (fC (.int 3)) aNil))) (fCall gIntOf (aCons (fOp gGt (fVar 1) (fC (.int 0))) aNil))) aNil)) (tgN 6) (b__law_rooms_drawn_l1 A))
  (sFrz 5 (sRet (fUse 2 (F__law_one A) (aCons (fVar 0) (aCons (fCall gLstD (aCons (fVar 5) (aCons (fCall gTupleOf (aCons (fVar 5) aNil)) (aCons (fVar 5) (aCons (fCall gTupleOf (aCons (fVar 5) aNil)) (aCons (fVar 5) (aCons (fun _ S => .ok (.nd []) S) (aCons (fC .non) (aCons (fC (.str "57")) (aCons (fC (.int 5)) aNil)))))))))) aNil)))))) [some (.v .drw), some (.v (.int (n : Int))), some (.v (.int (1 + r1))), some (.v (.int (1 + r2))), some (.v (.lst xs)), some (.l found), none, none, none] S5).w K := fun found S5 hf gf hS5 K kr => by
    simp only [w_seq, w_for, w_itC, w_cons, w_nil, w_op, w_use, w_call, w_v0, w_v1, w_rv, w_C, toO_v, List.length_cons, List.length_nil, if_true]
    refine w_next hS5 (by omega) (by omega) (by omega) fun r S6 h4 h5 hS6 => ?_
    obtain ⟨m, em, hm, hmn⟩ : ∃ m : Nat, gMul (.v (.int r)) (.v (.int (if decide ((0 : Int) < (n : Int)) = true then 1 else 0))) = some (.v (.int (m : Int))) ∧ m ≤ 2 ∧ (0 < m → 0 < n) := by
      rw [gMul_int (.inl ⟨by omega, by omega⟩)]
      by_cases h0 : (0 : Int) < (n : Int)
      · refine ⟨r.toNat, ?_, by omega, fun _ => by omega⟩
        simp only [h0, decide_true, if_true]
        rw [Int.mul_one, Int.toNat_of_nonneg h4]
      · have hn0 : n = 0 := by omega
        refine ⟨0, ?_, by omega, fun q => by omega⟩
        subst hn0
        simp
    refine ⟨_, rfl, _, rfl, _, em, _, gRng1_nat (by omega), ?_⟩
    refine for_inv (roomI n (t + 20) xs) (fun d ds ρ S ⟨fd, b2, b3, b6, b7, b8, er, hf, gf, hl, hS, hne⟩ => ?_) (fun ρ S ⟨fd, b2, b3, b6, b7, b8, er, hf, gf, hl, hS, hne⟩ => ?_) _ _ _ ⟨found, _, _, _, _, _, rfl, hf, gf, by simp; exact hm, hS6.mono (by simp; omega), fun q => hmn (by
        rcases Nat.eq_zero_or_pos m with z | z
        · subst z; exact (q rfl).elim
        · exact z)⟩
    · subst er
      simp at hl
      refine ⟨_, rfl, ?_⟩
      dsimp only [List.set_cons_succ, List.set_cons_zero]
      refine turn9 hS (by simp <;> omega) (hne (by simp)) hn l2 g2 hf gf fun fd' c7 S' hf' gf' hS' => ?_
      exact ⟨fd', _, _, _, _, _, rfl, hf', gf', by omega, hS'.mono (by simp <;> omega), fun _ => hne (by simp)⟩
    · subst er
      dsimp only
      rw [w_frz (o := .l fd) (d := .lst fd) rfl rfl]
      dsimp only [List.set_cons_succ, List.set_cons_zero]
      simp
      refine w_one hS (by simp <;> omega) (by simp) (by simp) fun d hd S7 hS7 => ?_
      refine ⟨_, rfl, kr d S7 ?_ (hS7.mono (by simp <;> omega))⟩
      simp at hd
      rcases hd with rfl | rfl | rfl | rfl | rfl | rfl | rfl | rfl | rfl
      · exact rd_rows (.inl rfl) gf (by omega)
      · exact rd_rows (.inr rfl) gf (by omega)
      · exact rd_rows (.inl rfl) gf (by omega)
      · exact rd_rows (.inr rfl) gf (by omega)
      · exact rd_rows (.inl rfl) gf (by omega)
      · exact ⟨⟨_, rfl⟩, fun es e => by rcases e with e | e <;> cases e⟩
      · exact ⟨⟨_, rfl⟩, fun es e => by rcases e with e | e <;> cases e⟩
      · exact ⟨⟨_, rfl⟩, fun es e => by rcases e with e | e <;> cases e⟩
      · exact ⟨⟨_, rfl⟩, fun es e => by rcases e with e | e <;> cases e⟩
  rw [w_seq, w_sS5]
  simp only [w_if, w_tst, w_op, w_un, w_use, w_call, w_cons, w_nil, w_v0, w_v4, w_rv, w_C, toO_v, List.length_cons, List.length_nil, if_true]
  refine w_next (hS4.mono (by omega : _ ≤ t + 3)) (by omega) (by omega) (by omega) fun r S5 h4 h5 hS5 => ?_
  refine ⟨_, rfl, _, rfl, ?_⟩
  split
  · refine ⟨_, rfl, _, rfl, ?_⟩
    exact key xs.reverse S5 (by simp; exact l2) (fun x m => g2 x (List.mem_reverse.mp m)) (hS5.mono (by omega)) _ fun d S' td hS' => ⟨d, rfl, td, hS'⟩
  · refine ⟨_, rfl, _, rfl, ?_⟩
    exact key xs S5 l2 g2 (hS5.mono (by omega)) _ fun d S' td hS' => ⟨d, rfl, td, hS'⟩
end
end Dn
set_option Elab.async false
set_option linter.all false
set_option maxRecDepth 100000
set_option maxHeartbeats 4000000
namespace Dn
open PySem PySem.Spec PyProof.Rows L2 TL
section
variable {A : Ad} {S : Dr}
theorem rooms_one {ns ms : List Int} {d : D} (h1 : d = .lst (ns.map D.int) ∨ d = .tup (ns.map D.int)) (h2 : d = .lst (ms.map D.int) ∨ d = .tup (ms.map D.int)) : ns = ms := by
  have inj : ∀ {a b : List Int}, a.map D.int = b.map D.int → a = b := fun {a b} e => by
    have := congrArg intsD e
    rw [intsD_map, intsD_map] at this
    cases this; rfl
  rcases h1 with rfl | rfl <;> rcases h2 with h | h <;> first | (cases h; done) | (injection h with h; exact inj h)
theorem ans9_eq {loose : Bool} {d v : D} {e1 e2 : E} (h1 : ans9 loose d v e1) (h2 : ans9 loose d v e2) : e1 = e2 := by
  rcases h1 with ⟨x, q1, rfl⟩ | ⟨q1, ns, d1, r1, rfl⟩
  · rcases h2 with ⟨y, q2, rfl⟩ | ⟨q2, _⟩
    · rw [q1] at q2; cases q2; rfl
    · rw [q1] at q2; cases q2
  · rcases h2 with ⟨y, q2, rfl⟩ | ⟨q2, ms, d2, r2, rfl⟩
    · rw [q1] at q2; cases q2
    · rw [rooms_one d1 d2]
theorem V9_pl {loose : Bool} {d v : D} {x : List D} (hv : Vl9 v) (h : V9 loose d v = some x) : Pl 3 (.lst x) := by
  have : (∃ k, x = [.str "rooms", .int k]) ∨ x = [.str "tag", v] := by
    unfold V9 looseV trunkV at h
    cases q : roomsV d with
    | some k => rw [q] at h; cases loose <;> (simp at h; exact .inl ⟨k, h.symm⟩)
    | none =>
      rw [q] at h
      cases loose <;> simp at h <;> exact .inr h.2.symm
  rcases this with ⟨k, rfl⟩ | rfl
  · exact ⟨fun y m => by simp at m; rcases m with rfl | rfl; exact (sh_lit0 rfl : Sh "rooms"); exact trivial, by simp⟩
  · exact ⟨fun y m => by simp at m; rcases m with rfl | rfl; exact (sh_lit0 rfl : Sh "tag"); exact hv.2, by simp⟩
theorem ans9_arg {loose : Bool} {d v : D} (hv : Vl9 v) {e : E} (h : ans9 loose d v e) : ∃ x, toO e = .v x ∧ Pl 3 x := by
  rcases h with ⟨x, q, rfl⟩ | ⟨q, ns, hd, hr, rfl⟩
  · exact ⟨.lst x, rfl, V9_pl hv q⟩
  · have hl := hr.l
    refine ⟨_, rfl, ⟨fun y m => ?_, by simp⟩⟩
    simp at m
    rcases m with rfl | rfl
    · exact ⟨fun z m => by obtain ⟨i, _, rfl⟩ := List.mem_map.mp m; exact trivial, by rw [List.length_map, srtI_len]; exact Nat.le_trans hl (by decide)⟩
    · exact hv.2
theorem chk9 {loose : Bool} {K : Kt} {ρ : Env} {d v : D} (h : Rd9 d) (hv : Vl9 v) (e4 : ∀ P X, (fVar 4 ρ S).w P X = P (.v (.str (kd9 loose))) S) (e5 : ∀ P X, (fVar 5 ρ S).w P X = P (.v d) S) (e6 : ∀ P X, (fVar 6 ρ S).w P X = P (.v v) S) (hn : K.nx ρ S) :
    (sIf (fNot (fTst (fUse 2 (F__law_equal A q__law_equal) (aCons (fUse 3 (F__law_told A) (aCons (fVar 4) (aCons (fVar 5) (aCons (fVar 6) aNil)))) (aCons (fUse 3 (F__law_due A) (aCons (fVar 4) (aCons (fVar 5) (aCons (fVar 6) aNil)))) aNil))))) (sRet (fC (.bl false))) sNx ρ S).w K := by
  simp only [w_ifS, w_not, w_tst, w_use, w_cons, w_nil, e4, e5, e6, toO_v, List.length_cons, List.length_nil, if_true]
  show (F__law_told A [.v (.str (kd9 loose)), .v d, .v v] S).w _ _
  refine (told9 h.rd hv.1).mono (fun e1 S1 ⟨hS, a1⟩ => ?_) (fun _ _ _ z => z.elim)
  subst hS
  simp only [e4, e5, e6, w_cons, w_nil, toO_v, List.length_cons, List.length_nil, if_true]
  show (F__law_due A [.v (.str (kd9 loose)), .v d, .v v] S1).w _ _
  refine (due9 h.rd hv.1).mono (fun e2 S2 ⟨hS, a2⟩ => ?_) (fun _ _ _ z => z.elim)
  subst hS
  obtain rfl := ans9_eq a1 a2
  obtain ⟨x, ex, px⟩ := ans9_arg hv a1
  rw [ex]
  obtain ⟨b, e5', hb⟩ := eq_all (A := A) q__law_equal x x S2 (pl_mono px (by decide)) (pl_mono px (by decide))
  have e6' : F__law_equal A q__law_equal [.v x, .v x] S2 = .ok (.v (.bl true)) S2 := by rw [e5', hb.mpr rfl]
  refine Out.w.of_eq e6' ⟨true, rfl, ?_⟩
  simpa using hn
theorem chk9b {K : Kt} {ρ : Env} {v : D} (hv : Vl9 v) (e7 : ∀ S P X, (fVar 7 ρ S).w P X = P (.v v) S) (h8 : 8 < ρ.length) (e78 : ∀ d S P X, (fVar 7 (ρ.set 8 (some (.v d))) S).w P X = P (.v v) S) (e8 : ∀ d S P X, (fVar 8 (ρ.set 8 (some (.v d))) S).w P X = P (.v d) S) (hn : ∀ o, K.nx (ρ.set 8 o) S) : (b_law_t1 A ρ S).w K := by
  unfold b_law_t1
  rw [w_seq, w_setF h8]
  simp only [w_if, w_tst, w_use, w_cons, w_nil, e7, toO_v, List.length_cons, List.length_nil, if_true, ltag_ok hv.1, w_ok]
  refine ⟨isTag v, rfl, ?_⟩
  have fin : ∀ x : D, Pl 3 x → (if isTag v = true then E.v v else E.n [v]) = .v x ∨ (if isTag v = true then E.v v else E.n [v]) = (match x with | .lst ds => .n ds | _ => .v x) → per (if isTag v = true then E.v v else E.n [v]) = some x → toO (if isTag v = true then E.v v else E.n [v]) = .v x →
      ((sIf (fNot (fTst (fUse 2 (F__law_equal A q__law_equal) (aCons (fCall gLstD (aCons (fUse 2 (F__law_single A) (aCons (fC (.str "plain")) (aCons (fVar 7) aNil))) (aCons (fUse 2 (F__law_single A) (aCons (fC (.str "tunnel")) (aCons (fVar 7) aNil))) aNil))) (aCons (fCall gLstD (aCons (fVar 8) (aCons (fVar 8) aNil))) aNil))))) (sRet (fC (.bl false))) sNx) (ρ.set 8 (some (.v x))) S).w K := fun x px _ _ hx => by
    have s1 := fun S => single9 (A := A) (S := S) (plain := true) hv.1
    have s2 := fun S => single9 (A := A) (S := S) (plain := false) hv.1
    simp only [w_ifS, w_not, w_tst, w_use, w_call, w_cons, w_nil, w_C, e78, e8, toO_v, List.length_cons, List.length_nil, if_true]
    refine (s1 S).mono (fun y1 S1 ⟨hS, hy1⟩ => ?_) (fun _ _ _ z => z.elim)
    subst hS; subst hy1
    refine (s2 S1).mono (fun y2 S2 ⟨hS, hy2⟩ => ?_) (fun _ _ _ z => z.elim)
    subst hS; subst hy2
    rw [hx]
    refine ⟨_, rfl, _, rfl, ?_⟩
    have p4 : Pl 4 (.lst [x, x]) := ⟨fun y m => by simp at m; rw [m]; exact px, by simp⟩
    obtain ⟨b, e5', hb⟩ := eq_all (A := A) q__law_equal (.lst [x, x]) (.lst [x, x]) S2 (pl_mono p4 (by decide)) (pl_mono p4 (by decide))
    have e6' : F__law_equal A q__law_equal [.v (.lst [x, x]), .v (.lst [x, x])] S2 = .ok (.v (.bl true)) S2 := by rw [e5', hb.mpr rfl]
    refine Out.w.of_eq e6' ⟨true, rfl, ?_⟩
    simpa using hn _
  cases hf : isTag v with
  | true =>
    rw [hf] at fin
    simp only [if_true, e7]
    refine ⟨_, rfl, ?_⟩
    exact fin v (pl_mono hv.2 (by decide)) (.inl rfl) rfl rfl
  | false =>
    rw [hf] at fin
    simp only [Bool.false_eq_true, if_false, w_call, w_cons, w_nil, e7, toO_v]
    refine ⟨_, rfl, _, rfl, ?_⟩
    exact fin (.lst [v]) ⟨fun y m => by cases List.mem_singleton.mp m; exact hv.2, by simp⟩ (.inr rfl) rfl rfl
end
end Dn
set_option Elab.async false
set_option linter.all false
set_option maxRecDepth 100000
set_option maxHeartbeats 4000000
namespace Dn
open PySem PySem.Spec PyProof.Rows L2 TL
/-! ### the law -/
section
variable {A : Ad} {S : Dr}
theorem all_app {P : D → Prop} {a b : List D} (ha : ∀ x ∈ a, P x) (hb : ∀ x ∈ b, P x) : ∀ x ∈ a ++ b, P x := fun x m => (List.mem_append.mp m).elim (ha x) (hb x)
theorem t2_9 {K : Kt} {t : Nat} {WR : List D} {a0 a3 a4 a5 a6 a7 a8 : Option O} (hS : OkD t S) (ht : t ≤ 100000) (hw : ∀ x ∈ WR, Vl9 x) (lw : WR.length = 10)
    (k : ∀ a7 a8 S', OkD (t + 3) S' → K.nx [a0, some (.v .drw), some (.v (.lst WR)), a3, a4, a5, a6, a7, a8] S') :
    (b_law_t2 A [a0, some (.v .drw), some (.v (.lst WR)), a3, a4, a5, a6, a7, a8] S).w K := by
  unfold b_law_t2
  rw [w_seq, w_sF7]
  simp only [w_use, w_op, w_call, w_cons, w_nil, w_v1, w_v2, w_rv, w_C, toO_v, List.length_cons, List.length_nil, if_true]
  refine w_next hS (by omega) (by omega) (by omega) fun r1 S1 h0 h1 hS1 => ?_
  refine ⟨_, rfl, ?_⟩
  refine w_next hS1 (by omega) (by omega) (by omega) fun r2 S2 h2 h3 hS2 => ?_
  refine ⟨_, rfl, _, rfl, _, by rw [gAdd_ln, if_pos (by simp; omega)], ?_⟩
  have hall : ∀ x ∈ WR ++ [D.int 1, .int 4094, .int (1 + r1), .int (1 + r2)], Vl9 x := all_app hw fun x m => by
    simp at m
    rcases m with rfl | rfl | rfl | rfl <;> exact vl_i
  show ((F__law_one A) [.v .drw, .v (.lst (WR ++ [D.int 1, .int 4094, .int (1 + r1), .int (1 + r2)]))] S2).w _ _
  refine w_one hS2 (by omega) (by simp) (by simp; omega) fun d hd S3 hS3 => ?_
  refine ⟨d, rfl, ?_⟩
  exact chk9b (hall d hd) (fun _ _ _ => rfl) (by simp) (fun _ _ _ _ => rfl) (fun _ _ _ _ => rfl) fun o => k _ _ S3 hS3
theorem t4_9 {K : Kt} {t : Nat} {loose : Bool} {WR : List D} {d v : D} {a0 a3 a7 a8 : Option O} (hS : OkD t S) (ht : t ≤ 90000) (hw : ∀ x ∈ WR, Vl9 x) (lw : WR.length = 10) (hd : Rd9 d) (hv : Vl9 v)
    (k : ∀ a6 a7 a8 S', OkD (t + 5) S' → K.nx [a0, some (.v .drw), some (.v (.lst WR)), a3, some (.v (.str (kd9 loose))), some (.v d), a6, a7, a8] S') :
    (b_law_t4 A [a0, some (.v .drw), some (.v (.lst WR)), a3, some (.v (.str (kd9 loose))), some (.v d), some (.v v), a7, a8] S).w K := by
  have rest : ∀ (v : D) (S1 : Dr), Vl9 v → OkD (t + 2) S1 → ∀ K' : Kt, (∀ a6 a7 a8 S', OkD (t + 5) S' → K'.nx [a0, some (.v .drw), some (.v (.lst WR)), a3, some (.v (.str (kd9 loose))), some (.v d), a6, a7, a8] S') →
      (b_law_t3 A [a0, some (.v .drw), some (.v (.lst WR)), a3, some (.v (.str (kd9 loose))), some (.v d), some (.v v), a7, a8] S1).w K' := fun v S1 hv hS1 K' k' => by
    unfold b_law_t3
    rw [w_seq]
    refine chk9 hd hv (fun _ _ => rfl) (fun _ _ => rfl) (fun _ _ => rfl) ?_
    exact t2_9 hS1 (by omega) hw lw fun a7 a8 S' hS' => k' _ _ _ _ hS'
  obtain ⟨ty, hty⟩ := hd.t
  unfold b_law_t4
  rw [w_seq, w_ifS, w_and, w_tst, w_isi2]
  simp only [w_v5, w_rv]
  refine ⟨ty, hty, _, rfl, ?_⟩
  by_cases hs : ∃ ds, d = .lst ds ∨ d = .tup ds
  · obtain ⟨ds, hds⟩ := hs
    have hb : (isB ty "list" || isB ty "tuple") = true := by rcases hds with rfl | rfl <;> (cases hty; rfl)
    have hr := hd.r ds hds
    rw [hb]
    simp only [if_true, w_and, w_tst, w_op, w_call, w_cons, w_nil, w_v5, w_rv, w_C]
    refine ⟨_, lenE (sq_of hds), _, rfl, _, rfl, ?_⟩
    split
    · rename_i h0
      have hpos : 0 < (ds.length : Int) := by simpa using h0
      simp only [w_use, w_cons, w_nil, w_v1, w_rv, w_C, toO_v, List.length_cons, List.length_nil, if_true]
      refine w_next hS (by omega) (by omega) (by omega) fun r1 S1 h0 h1 hS1 => ?_
      refine ⟨_, rfl, _, rfl, ?_⟩
      split
      · rw [w_sF6]
        simp only [w_op, w_use, w_call, w_cons, w_nil, w_v1, w_v5, w_rv, toO_v]
        refine ⟨_, lenE (sq_of hds), ?_⟩
        simp only [List.length_cons, List.length_nil, if_true]
        refine w_next hS1 (by omega) (by omega) (by have := hr.2; omega) fun r2 S2 h2 h3 hS2 => ?_
        obtain ⟨x, mx, ex⟩ := gIx_any (ds := ds) (x := .v d) (by rcases hds with rfl | rfl; exact .inl rfl; exact .inr (.inr (.inr rfl))) h2 h3
        refine ⟨_, ex, _, rfl, ?_⟩
        exact rest x S2 (hr.1 x mx) hS2 _ k
      · rw [w_nx]
        exact rest v S1 hv (hS1.mono (by omega)) _ k
    · rw [if_neg (by decide), w_nx]
      exact rest v S hv (hS.mono (by omega)) _ k
  · have hb : (isB ty "list" || isB ty "tuple") = false := by
      cases d <;> first | (cases hty; done) | exact absurd ⟨_, .inl rfl⟩ hs | exact absurd ⟨_, .inr rfl⟩ hs | (cases hty; rfl)
    rw [hb]
    simp only [Bool.false_eq_true, if_false, w_nx]
    exact rest v S hv (hS.mono (by omega)) _ k
theorem l1_9 {K : Kt} {t : Nat} {j : Int} {WR : List D} {a0 a4 a5 a6 a7 a8 : Option O} (hS : OkD t S) (ht : t ≤ 9000) (hw : ∀ x ∈ WR, Vl9 x) (lw : WR.length = 10)
    (k : ∀ a3 a4 a5 a6 a7 a8 S', OkD (t + 60) S' → K.nx [a0, some (.v .drw), some (.v (.lst WR)), a3, a4, a5, a6, a7, a8] S') :
    (b_law_l1 A [a0, some (.v .drw), some (.v (.lst WR)), some (.v (.int j)), a4, a5, a6, a7, a8] S).w K := by
  unfold b_law_l1
  rw [w_seq, w_sF4]
  simp only [w_op, w_call, w_cons, w_nil, w_C, w_v3, w_rv, toO_v, gMod_int (show (2 : Int) ≠ 0 by decide), Option.some.injEq, exists_eq_left']
  refine ⟨_, rfl, ?_⟩
  obtain ⟨loose, e1⟩ : ∃ loose : Bool, gIx (.n [.str "trunk", .str "loose"]) (.v (.int (j.fmod 2))) = some (.v (.str (kd9 loose))) := by
    have ef : j.fmod 2 = j % 2 := by rw [Int.fmod_eq_emod_of_nonneg j (by decide)]
    rw [ef]
    have h0 := Int.emod_nonneg j (show (2 : Int) ≠ 0 by decide)
    have h1 := Int.emod_lt_of_pos j (show (0 : Int) < 2 by decide)
    generalize j % 2 = m at h0 h1
    have : m = 0 ∨ m = 1 := by omega
    rcases this with rfl | rfl
    · exact ⟨false, rfl⟩
    · exact ⟨true, rfl⟩
  refine ⟨_, e1, _, rfl, ?_⟩
  unfold b_law_t6
  rw [w_seq, w_sF5]
  simp only [w_use, w_cons, w_nil, w_v1, w_rv, toO_v, List.length_cons, List.length_nil, if_true]
  refine (rooms9 hS (by omega)).of fun e S1 ⟨d, he, hd, hS1⟩ => ?_
  subst he
  refine ⟨_, rfl, ?_⟩
  unfold b_law_t5
  rw [w_seq, w_sF6]
  simp only [w_use, w_op, w_call, w_sl, w_none, w_some, w_cons, w_nil, w_v1, w_v2, w_rv, w_C, toO_v, List.length_cons, List.length_nil, if_true]
  refine w_next hS1 (by omega) (by omega) (by omega) fun r1 S2 h0 h1 hS2 => ?_
  refine ⟨_, rfl, _, rfl, 6, rfl, ?_⟩
  have es : gSl none (some 6) (.v (.lst WR)) = some (.n (WR.take 6)) := by rw [← cut_up (k := 6)]; rfl
  have l6 : (WR.take 6).length = 6 := by simp [lw]
  refine ⟨_, es, _, by rw [gAdd_nn, if_pos (by simp; omega)], ?_⟩
  have hall : ∀ x ∈ [D.int (1 + r1), .int 4094, .int 1, .int 5] ++ WR.take 6, Vl9 x := all_app (fun x m => by
    simp at m
    rcases m with rfl | rfl | rfl | rfl <;> exact vl_i) fun x m => hw x (List.mem_of_mem_take m)
  show ((F__law_one A) [.v .drw, .v (.lst ([D.int (1 + r1), .int 4094, .int 1, .int 5] ++ WR.take 6))] S2).w _ _
  refine w_one hS2 (by omega) (by simp) (by rw [List.length_append, l6]; simp) fun v hv S3 hS3 => ?_
  refine ⟨v, rfl, ?_⟩
  exact t4_9 hS3 (by omega) hw lw hd (hall v hv) fun a6 a7 a8 S' hS' => k _ _ _ _ _ _ _ (hS'.mono (by omega))
def turn9I (s : Option O) (WR : List D) (r : List D) (ρ : Env) (S : Dr) : Prop := r.length ≤ 8 ∧ (∀ d ∈ r, ∃ j, d = .int j) ∧ OkD (480 - 60 * r.length) S ∧ ∃ a3 a4 a5 a6 a7 a8, ρ = [s, some (.v .drw), some (.v (.lst WR)), a3, a4, a5, a6, a7, a8]
theorem mk_last {o : O} {d : D} {ds : List Int} (ho : ArgD o d) (hd : d = .lst (ds.map D.int) ∨ d = .tup (ds.map D.int)) (hr : Rooms ds) : ∃ fs, F_Trunk___init__ A A.C_Trunk [] [o, .v .non] S = .ok fs S ∧ fs.lookup ("rooms" : Str) = some (.tup ((srtI ds).map D.int)) ∧ fs.lookup ("native" : Str) = some .non := by
  have hrd : Rd d := by
    rcases hd with rfl | rfl
    · exact ⟨⟨_, rfl⟩, fun es e => by rcases e with e | e <;> cases e; exact ⟨fun x m => by obtain ⟨i, _, rfl⟩ := List.mem_map.mp m; exact ⟨_, rfl⟩, by have := hr.l; simp; omega⟩⟩
    · exact ⟨⟨_, rfl⟩, fun es e => by rcases e with e | e <;> cases e; exact ⟨fun x m => by obtain ⟨i, _, rfl⟩ := List.mem_map.mp m; exact ⟨_, rfl⟩, by have := hr.l; simp; omega⟩⟩
  have hb : ∀ (xs sn : List Int), xs.Nodup → (∀ n ∈ xs, Tg n ∧ n ∉ sn) → badRoom (xs.map D.int) sn = none := fun xs => by
    induction xs with
    | nil => intros; rfl
    | cons n xs ih =>
      intro sn hnd ht
      obtain ⟨h1, h2⟩ := List.nodup_cons.mp hnd
      rw [List.map_cons]
      unfold badRoom
      rw [if_pos ⟨by have := (ht n (by simp)).1; simp [isTag, this.1, this.2], (ht n (by simp)).2⟩]
      rw [ih (sn ++ [intOf (.int n)]) h2 fun m hm => ⟨(ht m (by simp [hm])).1, fun q => by
        rcases List.mem_append.mp q with q | q
        · exact (ht m (by simp [hm])).2 q
        · have : m = n := List.mem_singleton.mp q
          exact h1 (this ▸ hm)⟩]
      rfl
  have hV : trunkV d .non = none := by
    have q : roomsV d = none := by
      have e : roomsV d = roomsL (ds.map D.int) := by rcases hd with rfl | rfl <;> rfl
      rw [e]
      unfold roomsL
      have hl := hr.l
      rw [List.take_of_length_le (by simp; omega), hb ds [] hr.nd fun n m => ⟨hr.tg n m, by simp⟩]
      dsimp only
      rw [if_neg (by simp; omega)]
    unfold trunkV
    rw [q]
    rfl
  have := trunk_w (A := A) (S := S) (C := A.C_Trunk) (by simp) ho hrd (v := .non) ⟨_, rfl⟩
  cases e : F_Trunk___init__ A A.C_Trunk [] [o, .v .non] S with
  | ok fs S' =>
    rw [e] at this
    obtain ⟨rfl, _, ns, w, hd', hr', hw, _, rfl⟩ := this
    obtain rfl := rooms_one hd hd'
    refine ⟨_, rfl, lk_ro, ?_⟩
    rw [hw]; exact lk_na
  | exc C fs S' => rw [e] at this; obtain ⟨_, x, hx, _⟩ := this; rw [hV] at hx; cases hx
  | stk => rw [e] at this; exact this.elim
theorem law_true (A : Ad) : ∀ ns : List Int, ns.length ≤ 63 → ∃ S', b_law A (startL ns_law.length ns) (startS ns) = .rt (.v (.bl true)) S' := by
  intro ns hn
  refine so_true ?_
  show (b_law A [some (.v (.scr ns)), some (.v .drw), none, none, none, none, none, none, none] (startS ns)).w _
  unfold b_law
  rw [w_seq, w_sF2]
  simp only [w_call, w_cons, w_nil, w_un, w_op, w_C, toO_v]
  refine ⟨_, rfl, _, rfl, _, rfl, _, gPow_int (by decide), _, rfl, _, rfl, ?_⟩
  have hw : ∀ x ∈ ([.non, .int 0, .int 4095, .bl true, .bl false, .str "5", .tup [.int 5], .lst [], .int (-1), .int (10 ^ 30)] : List D), Vl9 x := fun x m => by
    simp at m
    rcases m with rfl | rfl | rfl | rfl | rfl | rfl | rfl | rfl | rfl | rfl
    · exact vl_n
    · exact vl_i
    · exact vl_i
    · exact vl_b
    · exact vl_b
    · exact vl_s (sh_lit0 rfl)
    · exact vl_t
    · exact vl_l0
    · exact vl_i
    · exact vl_i
  show (b_law_t7 A [some (.v (.scr ns)), some (.v .drw), some (.v (.lst [.non, .int 0, .int 4095, .bl true, .bl false, .str "5", .tup [.int 5], .lst [], .int (-1), .int (10 ^ 30)])), none, none, none, none, none, none] (startS ns)).w _
  generalize hWR : ([.non, .int 0, .int 4095, .bl true, .bl false, .str "5", .tup [.int 5], .lst [], .int (-1), .int (10 ^ 30)] : List D) = WR at hw
  have lw : WR.length = 10 := by rw [← hWR]; rfl
  unfold b_law_t7
  simp only [w_seq, w_for, w_itC, w_cons, w_nil, w_C, toO_v, gRng1_int]
  refine ⟨_, rfl, ?_⟩
  refine for_inv (turn9I (some (.v (.scr ns))) WR) (fun d ds ρ S ⟨hr, hj, hS, b3, b4, b5, b6, b7, b8, er⟩ => ?_) (fun ρ S ⟨hr, hj, hS, b3, b4, b5, b6, b7, b8, er⟩ => ?_) _ _ _ ⟨by simp, fun d m => ?_, (startS_ok hn).mono (by simp), _, _, _, _, _, _, rfl⟩
  · subst er
    obtain ⟨j, rfl⟩ := hj d (by simp)
    simp at hr
    refine ⟨_, rfl, ?_⟩
    refine l1_9 hS (by simp <;> omega) hw lw fun a3 a4 a5 a6 a7 a8 S' hS' => ?_
    exact ⟨by omega, fun d m => hj d (by simp [m]), hS'.mono (by simp <;> omega), _, _, _, _, _, _, rfl⟩
  · subst er
    have hrm : Rooms [4094, 1] := ⟨by decide, fun n m => by simp at m; rcases m with rfl | rfl <;> (constructor <;> decide), by decide⟩
    obtain ⟨f1, e1, _, n1⟩ := mk_last (A := A) (S := S) (o := .v (.tup [.int 4094, .int 1])) (d := .tup [.int 4094, .int 1]) (ds := [4094, 1]) (.inl rfl) (.inr rfl) hrm
    obtain ⟨f2, e2, r2, _⟩ := mk_last (A := A) (S := S) (o := .v (.lst [.int 4094, .int 1])) (d := .lst [.int 4094, .int 1]) (ds := [4094, 1]) (.inl rfl) (.inl rfl) hrm
    simp only [w_ret, w_andV, w_tst, w_use, w_fld, w_makeK, w_call, w_cons, w_nil, w_C, toO_v, List.length_cons, List.length_nil, if_true]
    refine ⟨_, rfl, trivial, trivial, ?_⟩
    refine Out.w.of_eq e1 ⟨A.C_Trunk, f1, _, rfl, by simp, n1, ?_⟩
    obtain ⟨b, e5, hb⟩ := eq_all (A := A) q__law_equal .non .non S trivial trivial
    have e6 : F__law_equal A q__law_equal [.v .non, .v .non] S = .ok (.v (.bl true)) S := by rw [e5, hb.mpr rfl]
    refine Out.w.of_eq e6 ⟨true, rfl, ?_⟩
    simp only [if_true]
    refine ⟨_, rfl, trivial, trivial, ?_⟩
    refine Out.w.of_eq e2 ⟨A.C_Trunk, f2, _, rfl, by simp, r2, _, rfl, ?_⟩
    have es : srtI [4094, 1] = [1, 4094] := by
      first
        | exact (srtI_eq (by decide) (by decide)).symm
        | exact srtI_eq (by decide) (by decide)
    rw [es]
    have pt : Pl 2 (.tup [.int 1, .int 4094]) := ⟨fun x m => by simp at m; rcases m with rfl | rfl <;> exact trivial, by simp⟩
    obtain ⟨b, e5, hb⟩ := eq_all (A := A) q__law_equal (.tup [.int 1, .int 4094]) (.tup [.int 1, .int 4094]) S (pl_mono pt (by decide)) (pl_mono pt (by decide))
    have e6 : F__law_equal A q__law_equal [.v (.tup [.int 1, .int 4094]), .v (.tup [.int 1, .int 4094])] S = .ok (.v (.bl true)) S := by rw [e5, hb.mpr rfl]
    exact Out.w.of_eq e6 ⟨_, rfl, rfl⟩
  · unfold rngD at m
    obtain ⟨i, _, rfl⟩ := List.mem_map.mp m
    exact ⟨_, rfl⟩
end
end Dn
set_option Elab.async false
set_option linter.all false
set_option maxRecDepth 100000
set_option maxHeartbeats 4000000
namespace Dn
open PySem PySem.Spec PyProof.Rows L2
theorem all_mk {l : PySem.W.OpenLaw} {w : World} {K : PySem.W.Frag} {h : Heap} {mg : Str → Option Value} {fa : Addr} (X : K.In h) (G : h.Ns mainGlobals mg) (hfa : mg "law" = some (.ref fa))
    {K_Plain : Addr}
    {K_Tunnel : Addr}
    {K_Trunk : Addr}
    {K_Loose : Addr}
    {f0 : Addr} {oc0 kV0 cd0 dc0 pm0 ct0 : Value} {od0 an0 : Option Addr} {sl0 : Array (Option Value)}
    {f1 : Addr} {oc1 kV1 cd1 dc1 pm1 ct1 : Value} {od1 an1 : Option Addr} {sl1 : Array (Option Value)}
    {f2 : Addr} {oc2 kV2 cd2 dc2 pm2 ct2 : Value} {od2 an2 : Option Addr} {sl2 : Array (Option Value)}
    {f3 : Addr} {oc3 kV3 cd3 dc3 pm3 ct3 : Value} {od3 an3 : Option Addr} {sl3 : Array (Option Value)}
    {f4 : Addr} {oc4 kV4 cd4 dc4 pm4 ct4 : Value} {od4 an4 : Option Addr} {sl4 : Array (Option Value)}
    {f5 : Addr} {oc5 kV5 cd5 dc5 pm5 ct5 : Value} {od5 an5 : Option Addr} {sl5 : Array (Option Value)}
    {f6 : Addr} {oc6 kV6 cd6 dc6 pm6 ct6 : Value} {od6 an6 : Option Addr} {sl6 : Array (Option Value)}
    {f7 : Addr} {oc7 kV7 cd7 dc7 pm7 ct7 : Value} {od7 an7 : Option Addr} {sl7 : Array (Option Value)}
    {f8 : Addr} {oc8 kV8 cd8 dc8 pm8 ct8 : Value} {od8 an8 : Option Addr} {sl8 : Array (Option Value)}
    {f9 : Addr} {oc9 kV9 cd9 dc9 pm9 ct9 : Value} {od9 an9 : Option Addr} {sl9 : Array (Option Value)}
    {f10 : Addr} {oc10 kV10 cd10 dc10 pm10 ct10 : Value} {od10 an10 : Option Addr} {sl10 : Array (Option Value)}
    {f11 : Addr} {oc11 kV11 cd11 dc11 pm11 ct11 : Value} {od11 an11 : Option Addr} {sl11 : Array (Option Value)}
    {f12 : Addr} {oc12 kV12 cd12 dc12 pm12 ct12 : Value} {od12 an12 : Option Addr} {sl12 : Array (Option Value)}
    {f13 : Addr} {oc13 kV13 cd13 dc13 pm13 ct13 : Value} {od13 an13 : Option Addr} {sl13 : Array (Option Value)}
    {f14 : Addr} {oc14 kV14 cd14 dc14 pm14 ct14 : Value} {od14 an14 : Option Addr} {sl14 : Array (Option Value)}
    {f15 : Addr} {oc15 cd15 dc15 pm15 ct15 : Value} {od15 an15 : Option Addr} {sl15 : Array (Option Value)}
    {kD15 : Addr}
    {f16 : Addr} {oc16 dc16 pm16 ct16 : Value} {od16 an16 : Option Addr} {sl16 : Array (Option Value)}
    {kD16 : Addr}
    {cc16 cda16 : Addr} {ccl16 cel16 : Value} {cdd16 ced16 : Option Addr} {ccs16 ces16 : Array (Option Value)} {cvs16 : Array Value} {cfi16 : Str} {ctf16 : Tok} {car16 : Arg}
    {f17 : Addr} {oc17 kV17 dc17 pm17 ct17 : Value} {od17 an17 : Option Addr} {sl17 : Array (Option Value)}
    {cc17 cda17 : Addr} {ccl17 cel17 : Value} {cdd17 ced17 : Option Addr} {ccs17 ces17 : Array (Option Value)} {cvs17 : Array Value} {cfi17 : Str} {ctf17 : Tok} {car17 : Arg}
    {f18 : Addr} {oc18 kV18 cd18 dc18 pm18 ct18 : Value} {od18 an18 : Option Addr} {sl18 : Array (Option Value)}
    {f19 : Addr} {oc19 kV19 cd19 dc19 pm19 ct19 : Value} {od19 an19 : Option Addr} {sl19 : Array (Option Value)}
    {f20 : Addr} {oc20 kV20 cd20 dc20 pm20 ct20 : Value} {od20 an20 : Option Addr} {sl20 : Array (Option Value)}
    {f21 : Addr} {oc21 kV21 dc21 pm21 ct21 : Value} {od21 an21 : Option Addr} {sl21 : Array (Option Value)}
    {cc21 cda21 : Addr} {ccl21 cel21 : Value} {cdd21 ced21 : Option Addr} {ccs21 ces21 : Array (Option Value)} {cvs21 : Array Value} {cfi21 : Str} {ctf21 : Tok} {car21 : Arg}
    {f22 : Addr} {oc22 kV22 dc22 pm22 ct22 : Value} {od22 an22 : Option Addr} {sl22 : Array (Option Value)}
    {cc22 cda22 : Addr} {ccl22 cel22 : Value} {cdd22 ced22 : Option Addr} {ccs22 ces22 : Array (Option Value)} {cvs22 : Array Value} {cfi22 : Str} {ctf22 : Tok} {car22 : Arg}
    {f23 : Addr} {oc23 kV23 cd23 dc23 pm23 ct23 : Value} {od23 an23 : Option Addr} {sl23 : Array (Option Value)}
    {f24 : Addr} {oc24 kV24 cd24 dc24 pm24 ct24 : Value} {od24 an24 : Option Addr} {sl24 : Array (Option Value)}
    {C0 g0 N0 : Addr} {xoc0 xkV0 xdc0 xpm0 xcd0 xct0 : Value} {xod0 xan0 : Option Addr} {xsl0 : Array (Option Value)} {nm0 qn0 : Str} {bs0 bm0 sub0 : List Value} {sn0 : List Str} {ab0 : Bool} {col0 : Option Bool} {dd0 : Option Addr} {m00 m10 m20 m30 m50 : Option Value}
    {C1 g1 N1 : Addr} {xoc1 xkV1 xdc1 xpm1 xcd1 xct1 : Value} {xod1 xan1 : Option Addr} {xsl1 : Array (Option Value)} {nm1 qn1 : Str} {bs1 bm1 sub1 : List Value} {sn1 : List Str} {ab1 : Bool} {col1 : Option Bool} {dd1 : Option Addr} {m01 m11 m21 m31 m51 : Option Value}
    {tk_MOST_ENTRIES : Tok}
    {tk_MOST_TAG : Tok}
    {B_TagError : Addr}
    (oc_Plain : PySem.W.nsIn K mainGlobals "Plain" = some (some (.ref K_Plain)))
    (op_Plain : PySem.W.plainGet K K_Plain Str.empty = true)
    (oh_Plain : PySem.W.hasDictIn K K_Plain = true)
    (oo_Plain : PySem.W.plainOver K K_Plain = true)
    (os_Plain : PySem.W.findIn K (.ref K_Plain) "__setattr__" = some (some (.builtin "object.__setattr__")))
    (oc_Tunnel : PySem.W.nsIn K mainGlobals "Tunnel" = some (some (.ref K_Tunnel)))
    (op_Tunnel : PySem.W.plainGet K K_Tunnel Str.empty = true)
    (oh_Tunnel : PySem.W.hasDictIn K K_Tunnel = true)
    (oo_Tunnel : PySem.W.plainOver K K_Tunnel = true)
    (os_Tunnel : PySem.W.findIn K (.ref K_Tunnel) "__setattr__" = some (some (.builtin "object.__setattr__")))
    (oc_Trunk : PySem.W.nsIn K mainGlobals "Trunk" = some (some (.ref K_Trunk)))
    (op_Trunk : PySem.W.plainGet K K_Trunk Str.empty = true)
    (oh_Trunk : PySem.W.hasDictIn K K_Trunk = true)
    (oo_Trunk : PySem.W.plainOver K K_Trunk = true)
    (os_Trunk : PySem.W.findIn K (.ref K_Trunk) "__setattr__" = some (some (.builtin "object.__setattr__")))
    (oc_Loose : PySem.W.nsIn K mainGlobals "Loose" = some (some (.ref K_Loose)))
    (op_Loose : PySem.W.plainGet K K_Loose Str.empty = true)
    (oh_Loose : PySem.W.hasDictIn K K_Loose = true)
    (oo_Loose : PySem.W.plainOver K K_Loose = true)
    (os_Loose : PySem.W.findIn K (.ref K_Loose) "__setattr__" = some (some (.builtin "object.__setattr__")))
    (a0 : PySem.W.nsIn K mainGlobals "_law_draws" = some (some (.ref f0)))
    (l0 : K.lookup f0 = some ⟨oc0, od0, .func (PySem.W.fnOf "_law_draws" "_law_draws" (defArgs s__law_draws) (defBody s__law_draws) (defScope s__law_draws) .none kV0 dc0 pm0 an0 cd0 ct0), sl0⟩)
    (c0 : PySem.W.codeIn K cd0 "_law_draws" = true)
    (k0 : PySem.W.keepIn K (.ref f0) = true)
    (a1 : PySem.W.nsIn K mainGlobals "_law_next" = some (some (.ref f1)))
    (l1 : K.lookup f1 = some ⟨oc1, od1, .func (PySem.W.fnOf "_law_next" "_law_next" (defArgs s__law_next) (defBody s__law_next) (defScope s__law_next) .none kV1 dc1 pm1 an1 cd1 ct1), sl1⟩)
    (c1 : PySem.W.codeIn K cd1 "_law_next" = true)
    (k1 : PySem.W.keepIn K (.ref f1) = true)
    (a2 : PySem.W.nsIn K mainGlobals "_law_one" = some (some (.ref f2)))
    (l2 : K.lookup f2 = some ⟨oc2, od2, .func (PySem.W.fnOf "_law_one" "_law_one" (defArgs s__law_one) (defBody s__law_one) (defScope s__law_one) .none kV2 dc2 pm2 an2 cd2 ct2), sl2⟩)
    (c2 : PySem.W.codeIn K cd2 "_law_one" = true)
    (k2 : PySem.W.keepIn K (.ref f2) = true)
    (a3 : PySem.W.nsIn K mainGlobals "_law_rooms_drawn" = some (some (.ref f3)))
    (l3 : K.lookup f3 = some ⟨oc3, od3, .func (PySem.W.fnOf "_law_rooms_drawn" "_law_rooms_drawn" (defArgs s__law_rooms_drawn) (defBody s__law_rooms_drawn) (defScope s__law_rooms_drawn) .none kV3 dc3 pm3 an3 cd3 ct3), sl3⟩)
    (c3 : PySem.W.codeIn K cd3 "_law_rooms_drawn" = true)
    (k3 : PySem.W.keepIn K (.ref f3) = true)
    (a4 : PySem.W.nsIn K mainGlobals "_law_whole" = some (some (.ref f4)))
    (l4 : K.lookup f4 = some ⟨oc4, od4, .func (PySem.W.fnOf "_law_whole" "_law_whole" (defArgs s__law_whole) (defBody s__law_whole) (defScope s__law_whole) .none kV4 dc4 pm4 an4 cd4 ct4), sl4⟩)
    (c4 : PySem.W.codeIn K cd4 "_law_whole" = true)
    (k4 : PySem.W.keepIn K (.ref f4) = true)
    (a5 : PySem.W.nsIn K mainGlobals "_law_tag" = some (some (.ref f5)))
    (l5 : K.lookup f5 = some ⟨oc5, od5, .func (PySem.W.fnOf "_law_tag" "_law_tag" (defArgs s__law_tag) (defBody s__law_tag) (defScope s__law_tag) .none kV5 dc5 pm5 an5 cd5 ct5), sl5⟩)
    (c5 : PySem.W.codeIn K cd5 "_law_tag" = true)
    (k5 : PySem.W.keepIn K (.ref f5) = true)
    (a6 : PySem.W.nsIn K mainGlobals "_law_entry" = some (some (.ref f6)))
    (l6 : K.lookup f6 = some ⟨oc6, od6, .func (PySem.W.fnOf "_law_entry" "_law_entry" (defArgs s__law_entry) (defBody s__law_entry) (defScope s__law_entry) .none kV6 dc6 pm6 an6 cd6 ct6), sl6⟩)
    (c6 : PySem.W.codeIn K cd6 "_law_entry" = true)
    (k6 : PySem.W.keepIn K (.ref f6) = true)
    (a7 : PySem.W.nsIn K mainGlobals "_law_due" = some (some (.ref f7)))
    (l7 : K.lookup f7 = some ⟨oc7, od7, .func (PySem.W.fnOf "_law_due" "_law_due" (defArgs s__law_due) (defBody s__law_due) (defScope s__law_due) .none kV7 dc7 pm7 an7 cd7 ct7), sl7⟩)
    (c7 : PySem.W.codeIn K cd7 "_law_due" = true)
    (k7 : PySem.W.keepIn K (.ref f7) = true)
    (a8 : PySem.W.nsIn K mainGlobals "is_whole" = some (some (.ref f8)))
    (l8 : K.lookup f8 = some ⟨oc8, od8, .func (PySem.W.fnOf "is_whole" "is_whole" (defArgs s_is_whole) (defBody s_is_whole) (defScope s_is_whole) .none kV8 dc8 pm8 an8 cd8 ct8), sl8⟩)
    (c8 : PySem.W.codeIn K cd8 "is_whole" = true)
    (k8 : PySem.W.keepIn K (.ref f8) = true)
    (a9 : PySem.W.nsIn K mainGlobals "is_tag" = some (some (.ref f9)))
    (l9 : K.lookup f9 = some ⟨oc9, od9, .func (PySem.W.fnOf "is_tag" "is_tag" (defArgs s_is_tag) (defBody s_is_tag) (defScope s_is_tag) .none kV9 dc9 pm9 an9 cd9 ct9), sl9⟩)
    (c9 : PySem.W.codeIn K cd9 "is_tag" = true)
    (k9 : PySem.W.keepIn K (.ref f9) = true)
    (a10 : PySem.W.nsIn K mainGlobals "check_rooms" = some (some (.ref f10)))
    (l10 : K.lookup f10 = some ⟨oc10, od10, .func (PySem.W.fnOf "check_rooms" "check_rooms" (defArgs s_check_rooms) (defBody s_check_rooms) (defScope s_check_rooms) .none kV10 dc10 pm10 an10 cd10 ct10), sl10⟩)
    (c10 : PySem.W.codeIn K cd10 "check_rooms" = true)
    (k10 : PySem.W.keepIn K (.ref f10) = true)
    (a11 : PySem.W.nsIn K mainGlobals "check_room" = some (some (.ref f11)))
    (l11 : K.lookup f11 = some ⟨oc11, od11, .func (PySem.W.fnOf "check_room" "check_room" (defArgs s_check_room) (defBody s_check_room) (defScope s_check_room) .none kV11 dc11 pm11 an11 cd11 ct11), sl11⟩)
    (c11 : PySem.W.codeIn K cd11 "check_room" = true)
    (k11 : PySem.W.keepIn K (.ref f11) = true)
    (a12 : PySem.W.nsIn K mainGlobals "is_arriving" = some (some (.ref f12)))
    (l12 : K.lookup f12 = some ⟨oc12, od12, .func (PySem.W.fnOf "is_arriving" "is_arriving" (defArgs s_is_arriving) (defBody s_is_arriving) (defScope s_is_arriving) .none kV12 dc12 pm12 an12 cd12 ct12), sl12⟩)
    (c12 : PySem.W.codeIn K cd12 "is_arriving" = true)
    (k12 : PySem.W.keepIn K (.ref f12) = true)
    (a13 : PySem.W.nsIn K mainGlobals "is_leaving" = some (some (.ref f13)))
    (l13 : K.lookup f13 = some ⟨oc13, od13, .func (PySem.W.fnOf "is_leaving" "is_leaving" (defArgs s_is_leaving) (defBody s_is_leaving) (defScope s_is_leaving) .none kV13 dc13 pm13 an13 cd13 ct13), sl13⟩)
    (c13 : PySem.W.codeIn K cd13 "is_leaving" = true)
    (k13 : PySem.W.keepIn K (.ref f13) = true)
    (a14 : PySem.W.nsIn K mainGlobals "check_rows" = some (some (.ref f14)))
    (l14 : K.lookup f14 = some ⟨oc14, od14, .func (PySem.W.fnOf "check_rows" "check_rows" (defArgs s_check_rows) (defBody s_check_rows) (defScope s_check_rows) .none kV14 dc14 pm14 an14 cd14 ct14), sl14⟩)
    (c14 : PySem.W.codeIn K cd14 "check_rows" = true)
    (k14 : PySem.W.keepIn K (.ref f14) = true)
    (su_Loose_Trunk : PySem.W.ks_superIn K K_Loose K_Trunk "__init__" = some (some (.ref f15)))
    (sm_Loose_Trunk : PySem.W.mroIn K K_Loose (.ref K_Trunk) = some true)
    (su_Plain_Plain : PySem.W.ks_superIn K K_Plain K_Plain "__init__" = some (some (.ref f15)))
    (sm_Plain_Plain : PySem.W.mroIn K K_Plain (.ref K_Plain) = some true)
    (su_Trunk_Trunk : PySem.W.ks_superIn K K_Trunk K_Trunk "__init__" = some (some (.ref f15)))
    (sm_Trunk_Trunk : PySem.W.mroIn K K_Trunk (.ref K_Trunk) = some true)
    (su_Tunnel_Tunnel : PySem.W.ks_superIn K K_Tunnel K_Tunnel "__init__" = some (some (.ref f15)))
    (sm_Tunnel_Tunnel : PySem.W.mroIn K K_Tunnel (.ref K_Tunnel) = some true)
    (i15 : PySem.W.isFn K (.ref f15) = true)
    (l15 : K.lookup f15 = some ⟨oc15, od15, .func (PySem.W.fnOf "__init__" "Port.__init__" (defArgs s_Port___init__) (defBody s_Port___init__) (defScope s_Port___init__) .none (.ref kD15) dc15 pm15 an15 cd15 ct15), sl15⟩)
    (c15 : PySem.W.codeIn K cd15 "Port.__init__" = true)
    (k15 : PySem.W.keepIn K (.ref f15) = true)
    (kn15_other : PySem.W.nsIn K kD15 "other" = some (some .none))
    (kn15_bare : PySem.W.nsIn K kD15 "bare" = some (some .none))
    (hi_Trunk : PySem.W.findIn K (.ref K_Trunk) "__init__" = some (some (.ref f16)))
    (su_Loose_Loose : PySem.W.ks_superIn K K_Loose K_Loose "__init__" = some (some (.ref f16)))
    (sm_Loose_Loose : PySem.W.mroIn K K_Loose (.ref K_Loose) = some true)
    (i16 : PySem.W.isFn K (.ref f16) = true)
    (l16 : K.lookup f16 = some ⟨oc16, od16, .func (PySem.W.fnX "__init__" "Trunk.__init__" (defArgs s_Trunk___init__) (defBody s_Trunk___init__) (defScope s_Trunk___init__) [("__class__", cc16)] .none (.ref kD16) dc16 pm16 an16 (.ref cda16) ct16), sl16⟩)
    (c16 : PySem.W.codeIn K (.ref cda16) "Trunk.__init__" = true)
    (ca16 : ((defArgs s_Trunk___init__).posonlyargs ++ (defArgs s_Trunk___init__).args).head? = some car16)
    (cb16 : car16.arg = "self")
    (cc_16 : K.lookup cda16 = some ⟨ccl16, cdd16, .fields cvs16, ccs16⟩)
    (cd_16 : cvs16[2]? = some (.str cfi16 ctf16))
    (ce_16 : ((l.prog.main.file : Str) == cfi16) = true)
    (cf_16 : K.lookup cc16 = some ⟨cel16, ced16, .cell (some (.ref K_Trunk)), ces16⟩)
    (cg_16 : PySem.W.mroIn K K_Trunk (.type "object") = some true)
    (k16 : PySem.W.keepIn K (.ref f16) = true)
    (kn16_native : PySem.W.nsIn K kD16 "native" = some (some .none))
    (hi_Loose : PySem.W.findIn K (.ref K_Loose) "__init__" = some (some (.ref f17)))
    (i17 : PySem.W.isFn K (.ref f17) = true)
    (l17 : K.lookup f17 = some ⟨oc17, od17, .func (PySem.W.fnX "__init__" "Loose.__init__" (defArgs s_Loose___init__) (defBody s_Loose___init__) (defScope s_Loose___init__) [("__class__", cc17)] .none kV17 dc17 pm17 an17 (.ref cda17) ct17), sl17⟩)
    (c17 : PySem.W.codeIn K (.ref cda17) "Loose.__init__" = true)
    (ca17 : ((defArgs s_Loose___init__).posonlyargs ++ (defArgs s_Loose___init__).args).head? = some car17)
    (cb17 : car17.arg = "self")
    (cc_17 : K.lookup cda17 = some ⟨ccl17, cdd17, .fields cvs17, ccs17⟩)
    (cd_17 : cvs17[2]? = some (.str cfi17 ctf17))
    (ce_17 : ((l.prog.main.file : Str) == cfi17) = true)
    (cf_17 : K.lookup cc17 = some ⟨cel17, ced17, .cell (some (.ref K_Loose)), ces17⟩)
    (cg_17 : PySem.W.mroIn K K_Loose (.type "object") = some true)
    (k17 : PySem.W.keepIn K (.ref f17) = true)
    (a18 : PySem.W.nsIn K mainGlobals "_law_made" = some (some (.ref f18)))
    (l18 : K.lookup f18 = some ⟨oc18, od18, .func (PySem.W.fnOf "_law_made" "_law_made" (defArgs s__law_made) (defBody s__law_made) (defScope s__law_made) .none kV18 dc18 pm18 an18 cd18 ct18), sl18⟩)
    (c18 : PySem.W.codeIn K cd18 "_law_made" = true)
    (k18 : PySem.W.keepIn K (.ref f18) = true)
    (a19 : PySem.W.nsIn K mainGlobals "_law_equal" = some (some (.ref f19)))
    (l19 : K.lookup f19 = some ⟨oc19, od19, .func (PySem.W.fnOf "_law_equal" "_law_equal" (defArgs s__law_equal) (defBody s__law_equal) (defScope s__law_equal) .none kV19 dc19 pm19 an19 cd19 ct19), sl19⟩)
    (c19 : PySem.W.codeIn K cd19 "_law_equal" = true)
    (k19 : PySem.W.keepIn K (.ref f19) = true)
    (a20 : PySem.W.nsIn K mainGlobals "_law_told" = some (some (.ref f20)))
    (l20 : K.lookup f20 = some ⟨oc20, od20, .func (PySem.W.fnOf "_law_told" "_law_told" (defArgs s__law_told) (defBody s__law_told) (defScope s__law_told) .none kV20 dc20 pm20 an20 cd20 ct20), sl20⟩)
    (c20 : PySem.W.codeIn K cd20 "_law_told" = true)
    (k20 : PySem.W.keepIn K (.ref f20) = true)
    (hi_Plain : PySem.W.findIn K (.ref K_Plain) "__init__" = some (some (.ref f21)))
    (i21 : PySem.W.isFn K (.ref f21) = true)
    (l21 : K.lookup f21 = some ⟨oc21, od21, .func (PySem.W.fnX "__init__" "Plain.__init__" (defArgs s_Plain___init__) (defBody s_Plain___init__) (defScope s_Plain___init__) [("__class__", cc21)] .none kV21 dc21 pm21 an21 (.ref cda21) ct21), sl21⟩)
    (c21 : PySem.W.codeIn K (.ref cda21) "Plain.__init__" = true)
    (ca21 : ((defArgs s_Plain___init__).posonlyargs ++ (defArgs s_Plain___init__).args).head? = some car21)
    (cb21 : car21.arg = "self")
    (cc_21 : K.lookup cda21 = some ⟨ccl21, cdd21, .fields cvs21, ccs21⟩)
    (cd_21 : cvs21[2]? = some (.str cfi21 ctf21))
    (ce_21 : ((l.prog.main.file : Str) == cfi21) = true)
    (cf_21 : K.lookup cc21 = some ⟨cel21, ced21, .cell (some (.ref K_Plain)), ces21⟩)
    (cg_21 : PySem.W.mroIn K K_Plain (.type "object") = some true)
    (k21 : PySem.W.keepIn K (.ref f21) = true)
    (hi_Tunnel : PySem.W.findIn K (.ref K_Tunnel) "__init__" = some (some (.ref f22)))
    (i22 : PySem.W.isFn K (.ref f22) = true)
    (l22 : K.lookup f22 = some ⟨oc22, od22, .func (PySem.W.fnX "__init__" "Tunnel.__init__" (defArgs s_Tunnel___init__) (defBody s_Tunnel___init__) (defScope s_Tunnel___init__) [("__class__", cc22)] .none kV22 dc22 pm22 an22 (.ref cda22) ct22), sl22⟩)
    (c22 : PySem.W.codeIn K (.ref cda22) "Tunnel.__init__" = true)
    (ca22 : ((defArgs s_Tunnel___init__).posonlyargs ++ (defArgs s_Tunnel___init__).args).head? = some car22)
    (cb22 : car22.arg = "self")
    (cc_22 : K.lookup cda22 = some ⟨ccl22, cdd22, .fields cvs22, ccs22⟩)
    (cd_22 : cvs22[2]? = some (.str cfi22 ctf22))
    (ce_22 : ((l.prog.main.file : Str) == cfi22) = true)
    (cf_22 : K.lookup cc22 = some ⟨cel22, ced22, .cell (some (.ref K_Tunnel)), ces22⟩)
    (cg_22 : PySem.W.mroIn K K_Tunnel (.type "object") = some true)
    (k22 : PySem.W.keepIn K (.ref f22) = true)
    (a23 : PySem.W.nsIn K mainGlobals "_law_single" = some (some (.ref f23)))
    (l23 : K.lookup f23 = some ⟨oc23, od23, .func (PySem.W.fnOf "_law_single" "_law_single" (defArgs s__law_single) (defBody s__law_single) (defScope s__law_single) .none kV23 dc23 pm23 an23 cd23 ct23), sl23⟩)
    (c23 : PySem.W.codeIn K cd23 "_law_single" = true)
    (k23 : PySem.W.keepIn K (.ref f23) = true)
    (a24 : PySem.W.nsIn K mainGlobals "law" = some (some (.ref f24)))
    (l24 : K.lookup f24 = some ⟨oc24, od24, .func (PySem.W.fnOf "law" "law" (defArgs s_law) (defBody s_law) (defScope s_law) .none kV24 dc24 pm24 an24 cd24 ct24), sl24⟩)
    (c24 : PySem.W.codeIn K cd24 "law" = true)
    (k24 : PySem.W.keepIn K (.ref f24) = true)
    (z_super : PySem.W.nsIn K mainGlobals "super" = some none)
    (stop : (l.prog.main.scope.names.lookup ("super" : Str)).isSome = false)
    (scs : PySem.W.nsIn K cStatics "thirdparty.any" = some none)
    (xa0 : PySem.W.nsIn K mainGlobals "BadTag" = some (some (.ref C0)))
    (xi0 : PySem.W.findIn K (.ref C0) "__init__" = some (some (.ref g0)))
    (xt0 : PySem.W.typeIn K (.ref g0) = some (.type "function"))
    (xl0 : K.lookup g0 = some ⟨xoc0, xod0, .func (PySem.W.fnOf "__init__" "BadTag.__init__" (defArgs s_x_BadTag) (defBody s_x_BadTag) (defScope s_x_BadTag) .none xkV0 xdc0 xpm0 xan0 xcd0 xct0), xsl0⟩)
    (xc0 : PySem.W.codeIn K xcd0 "BadTag.__init__" = true)
    (xk0 : PySem.W.keepIn K (.ref g0) = true)
    (xL0 : K.lookup C0 = some (excClassObj nm0 qn0 C0 N0 bs0 bm0 true sn0 sub0 ab0 col0 dd0 m00 m10 m20 m30 m50 "ValueError.__new__"))
    (xr0 : PySem.HandSPX.refsVE bm0 = true)
    (xs0 : PySem.W.findIn K (.ref C0) "__setattr__" = some (some (.builtin "object.__setattr__")))
    (xe0 : PySem.W.subIn K (.ref C0) (.type "BaseException") = some true)
    (xy0 : PySem.W.typeIn K (.ref C0) = some (.type "type"))
    (xq0 : PySem.W.keepIn K (.ref C0) = true)
    (xg0 : PySem.W.findIn K (.ref C0) "__getattribute__" = some (some (.builtin "BaseException.__getattribute__")))
    (xh0 : PySem.W.findIn K (.ref C0) "__getattr__" = some none)
    (xd0 : PySem.W.hasDictIn K C0 = true)
    (xn0_value : PySem.W.findIn K (.ref C0) "value" = some none)
    (xa1 : PySem.W.nsIn K mainGlobals "BadEntry" = some (some (.ref C1)))
    (xi1 : PySem.W.findIn K (.ref C1) "__init__" = some (some (.ref g1)))
    (xt1 : PySem.W.typeIn K (.ref g1) = some (.type "function"))
    (xl1 : K.lookup g1 = some ⟨xoc1, xod1, .func (PySem.W.fnOf "__init__" "BadEntry.__init__" (defArgs s_x_BadEntry) (defBody s_x_BadEntry) (defScope s_x_BadEntry) .none xkV1 xdc1 xpm1 xan1 xcd1 xct1), xsl1⟩)
    (xc1 : PySem.W.codeIn K xcd1 "BadEntry.__init__" = true)
    (xk1 : PySem.W.keepIn K (.ref g1) = true)
    (xL1 : K.lookup C1 = some (excClassObj nm1 qn1 C1 N1 bs1 bm1 true sn1 sub1 ab1 col1 dd1 m01 m11 m21 m31 m51 "ValueError.__new__"))
    (xr1 : PySem.HandSPX.refsVE bm1 = true)
    (xs1 : PySem.W.findIn K (.ref C1) "__setattr__" = some (some (.builtin "object.__setattr__")))
    (xe1 : PySem.W.subIn K (.ref C1) (.type "BaseException") = some true)
    (xy1 : PySem.W.typeIn K (.ref C1) = some (.type "type"))
    (xq1 : PySem.W.keepIn K (.ref C1) = true)
    (xg1 : PySem.W.findIn K (.ref C1) "__getattribute__" = some (some (.builtin "BaseException.__getattribute__")))
    (xh1 : PySem.W.findIn K (.ref C1) "__getattr__" = some none)
    (xd1 : PySem.W.hasDictIn K C1 = true)
    (xn1_part : PySem.W.findIn K (.ref C1) "part" = some none)
    (xn1_index : PySem.W.findIn K (.ref C1) "index" = some none)
    (z_all : PySem.W.nsIn K mainGlobals "all" = some none)
    (z_bool : PySem.W.nsIn K mainGlobals "bool" = some none)
    (z_enumerate : PySem.W.nsIn K mainGlobals "enumerate" = some none)
    (z_int : PySem.W.nsIn K mainGlobals "int" = some none)
    (z_isinstance : PySem.W.nsIn K mainGlobals "isinstance" = some none)
    (z_len : PySem.W.nsIn K mainGlobals "len" = some none)
    (z_list : PySem.W.nsIn K mainGlobals "list" = some none)
    (z_min : PySem.W.nsIn K mainGlobals "min" = some none)
    (z_range : PySem.W.nsIn K mainGlobals "range" = some none)
    (z_sorted : PySem.W.nsIn K mainGlobals "sorted" = some none)
    (z_str : PySem.W.nsIn K mainGlobals "str" = some none)
    (z_tuple : PySem.W.nsIn K mainGlobals "tuple" = some none)
    (z_zip : PySem.W.nsIn K mainGlobals "zip" = some none)
    (k_MOST_ENTRIES : PySem.W.nsIn K mainGlobals "MOST_ENTRIES" = some (some (.int 8 tk_MOST_ENTRIES)))
    (k_MOST_TAG : PySem.W.nsIn K mainGlobals "MOST_TAG" = some (some (.int 4094 tk_MOST_TAG)))
    (om_Plain : PySem.W.makesIn K K_Plain = true)
    (ok_Plain : PySem.W.keepIn K (.ref K_Plain) = true)
    (om_Tunnel : PySem.W.makesIn K K_Tunnel = true)
    (ok_Tunnel : PySem.W.keepIn K (.ref K_Tunnel) = true)
    (om_Trunk : PySem.W.makesIn K K_Trunk = true)
    (ok_Trunk : PySem.W.keepIn K (.ref K_Trunk) = true)
    (om_Loose : PySem.W.makesIn K K_Loose = true)
    (ok_Loose : PySem.W.keepIn K (.ref K_Loose) = true)
    (on_Loose_bare : PySem.W.findIn K (.ref K_Loose) "bare" = some none)
    (on_Loose_entries : PySem.W.findIn K (.ref K_Loose) "entries" = some none)
    (on_Loose_exits : PySem.W.findIn K (.ref K_Loose) "exits" = some none)
    (on_Loose_inner : PySem.W.findIn K (.ref K_Loose) "inner" = some none)
    (on_Loose_native : PySem.W.findIn K (.ref K_Loose) "native" = some none)
    (on_Loose_other : PySem.W.findIn K (.ref K_Loose) "other" = some none)
    (on_Loose_rooms : PySem.W.findIn K (.ref K_Loose) "rooms" = some none)
    (on_Plain_bare : PySem.W.findIn K (.ref K_Plain) "bare" = some none)
    (on_Plain_entries : PySem.W.findIn K (.ref K_Plain) "entries" = some none)
    (on_Plain_exits : PySem.W.findIn K (.ref K_Plain) "exits" = some none)
    (on_Plain_other : PySem.W.findIn K (.ref K_Plain) "other" = some none)
    (on_Plain_room : PySem.W.findIn K (.ref K_Plain) "room" = some none)
    (on_Trunk_bare : PySem.W.findIn K (.ref K_Trunk) "bare" = some none)
    (on_Trunk_entries : PySem.W.findIn K (.ref K_Trunk) "entries" = some none)
    (on_Trunk_exits : PySem.W.findIn K (.ref K_Trunk) "exits" = some none)
    (on_Trunk_native : PySem.W.findIn K (.ref K_Trunk) "native" = some none)
    (on_Trunk_other : PySem.W.findIn K (.ref K_Trunk) "other" = some none)
    (on_Trunk_rooms : PySem.W.findIn K (.ref K_Trunk) "rooms" = some none)
    (on_Tunnel_bare : PySem.W.findIn K (.ref K_Tunnel) "bare" = some none)
    (on_Tunnel_entries : PySem.W.findIn K (.ref K_Tunnel) "entries" = some none)
    (on_Tunnel_exits : PySem.W.findIn K (.ref K_Tunnel) "exits" = some none)
    (on_Tunnel_inner : PySem.W.findIn K (.ref K_Tunnel) "inner" = some none)
    (on_Tunnel_other : PySem.W.findIn K (.ref K_Tunnel) "other" = some none)
    (on_Tunnel_room : PySem.W.findIn K (.ref K_Tunnel) "room" = some none)
    (e_BadTag_BadTag : PySem.W.subIn K (.ref C0) (.ref C0) = some true)
    (e_BadTag_BadEntry : PySem.W.subIn K (.ref C1) (.ref C0) = some false)
    (ba_TagError : PySem.W.nsIn K mainGlobals "TagError" = some (some (.ref B_TagError)))
    (be_TagError : PySem.W.subIn K (.ref B_TagError) (.type "BaseException") = some true)
    (bd_TagError : PySem.W.hasDictIn K B_TagError = true)
    (by_TagError : PySem.W.typeIn K (.ref B_TagError) = some (.type "type"))
    (e_TagError_BadTag : PySem.W.subIn K (.ref C0) (.ref B_TagError) = some true)
    (e_TagError_BadEntry : PySem.W.subIn K (.ref C1) (.ref B_TagError) = some true)
    (xcn : PySem.W.specialIn K (.builtin "object.__class__") "__get__" = some (some (.builtin "getset_descriptor.__get__")))
    (xct : PySem.W.takesIn K (.builtin "object.__class__") = some true)
    (xu0 : PySem.W.findIn K (.ref C0) "__class__" = some (some (.builtin "object.__class__")))
    (xm0 : PySem.W.mroIn K C0 (.type "object") = some true)
    (xu1 : PySem.W.findIn K (.ref C1) "__class__" = some (some (.builtin "object.__class__")))
    (xm1 : PySem.W.mroIn K C1 (.type "object") = some true)
    (s_BadEntry_BadTag : PySem.W.subIn K (.ref C0) (.ref C1) = some false)
    (sn_BadEntry_BadTag : C0 ≠ C1)
    (s_BadEntry_BadEntry : PySem.W.subIn K (.ref C1) (.ref C1) = some true)
    (s_BadTag_BadTag : PySem.W.subIn K (.ref C0) (.ref C0) = some true)
    (s_BadTag_BadEntry : PySem.W.subIn K (.ref C1) (.ref C0) = some false)
    (sn_BadTag_BadEntry : C1 ≠ C0)
    (nv_is_arriving_is_leaving : f12 ≠ f13)
    (ne_TagError_BadTag : B_TagError ≠ C0)
    (ne_TagError_BadEntry : B_TagError ≠ C1)
    (ne_TagError_Plain : B_TagError ≠ K_Plain)
    (ne_TagError_Tunnel : B_TagError ≠ K_Tunnel)
    (ne_TagError_Trunk : B_TagError ≠ K_Trunk)
    (ne_TagError_Loose : B_TagError ≠ K_Loose)
    (ne_BadTag_BadEntry : C0 ≠ C1)
    (ne_BadTag_Plain : C0 ≠ K_Plain)
    (ne_BadTag_Tunnel : C0 ≠ K_Tunnel)
    (ne_BadTag_Trunk : C0 ≠ K_Trunk)
    (ne_BadTag_Loose : C0 ≠ K_Loose)
    (ne_BadEntry_Plain : C1 ≠ K_Plain)
    (ne_BadEntry_Tunnel : C1 ≠ K_Tunnel)
    (ne_BadEntry_Trunk : C1 ≠ K_Trunk)
    (ne_BadEntry_Loose : C1 ≠ K_Loose)
    (ne_Plain_Tunnel : K_Plain ≠ K_Tunnel)
    (ne_Plain_Trunk : K_Plain ≠ K_Trunk)
    (ne_Plain_Loose : K_Plain ≠ K_Loose)
    (ne_Tunnel_Trunk : K_Tunnel ≠ K_Trunk)
    (ne_Tunnel_Loose : K_Tunnel ≠ K_Loose)
    (ne_Trunk_Loose : K_Trunk ≠ K_Loose)
    : ∃ fd : FuncData, (∀ (s : Shared) (v : Value), BindsTo s fd ⟨[v], []⟩ [("_law_script", v)]) ∧ ∀ base : Heap, K.In base → base.Ns mainGlobals mg → FnOk l.prog w K mg base (L2.CX l.prog w) 11 fa fd ["_law_script"] (spLaw K) := by
  have e := hfa.symm.trans (PySem.W.mg_of X G a24)
  cases e
  let T : Txt l.prog K mg ⟨B_TagError, C0, C1, K_Plain, K_Tunnel, K_Trunk, K_Loose, f12, f13, nv_is_arriving_is_leaving, ne_TagError_BadTag, ne_TagError_BadEntry, ne_TagError_Plain, ne_TagError_Tunnel, ne_TagError_Trunk, ne_TagError_Loose, ne_BadTag_BadEntry, ne_BadTag_Plain, ne_BadTag_Tunnel, ne_BadTag_Trunk, ne_BadTag_Loose, ne_BadEntry_Plain, ne_BadEntry_Tunnel, ne_BadEntry_Trunk, ne_BadEntry_Loose, ne_Plain_Tunnel, ne_Plain_Trunk, ne_Plain_Loose, ne_Tunnel_Trunk, ne_Tunnel_Loose, ne_Trunk_Loose⟩ := {
    d__law_draws := FnA.mk' (l := l) X G a0 l0 c0 k0 fun _ _ _ _ _ _ us hl => match us, hl with | [_], _ => rfl,
    d__law_next := FnA.mk' (l := l) X G a1 l1 c1 k1 fun _ _ _ _ _ _ us hl => match us, hl with | [_, _], _ => rfl,
    d__law_one := FnA.mk' (l := l) X G a2 l2 c2 k2 fun _ _ _ _ _ _ us hl => match us, hl with | [_, _], _ => rfl,
    d__law_rooms_drawn := FnA.mk' (l := l) X G a3 l3 c3 k3 fun _ _ _ _ _ _ us hl => match us, hl with | [_], _ => rfl,
    d__law_whole := FnA.mk' (l := l) X G a4 l4 c4 k4 fun _ _ _ _ _ _ us hl => match us, hl with | [_, _, _], _ => rfl,
    d__law_tag := FnA.mk' (l := l) X G a5 l5 c5 k5 fun _ _ _ _ _ _ us hl => match us, hl with | [_], _ => rfl,
    d__law_entry := FnA.mk' (l := l) X G a6 l6 c6 k6 fun _ _ _ _ _ _ us hl => match us, hl with | [_], _ => rfl,
    d__law_due := FnA.mk' (l := l) X G a7 l7 c7 k7 fun _ _ _ _ _ _ us hl => match us, hl with | [_, _, _], _ => rfl,
    d_is_whole := FnA.mk' (l := l) X G a8 l8 c8 k8 fun _ _ _ _ _ _ us hl => match us, hl with | [_], _ => rfl,
    d_is_tag := FnA.mk' (l := l) X G a9 l9 c9 k9 fun _ _ _ _ _ _ us hl => match us, hl with | [_], _ => rfl,
    d_check_rooms := FnA.mk' (l := l) X G a10 l10 c10 k10 fun _ _ _ _ _ _ us hl => match us, hl with | [_], _ => rfl,
    d_check_room := FnA.mk' (l := l) X G a11 l11 c11 k11 fun _ _ _ _ _ _ us hl => match us, hl with | [_], _ => rfl,
    d_is_arriving := FnA.mk' (l := l) X G a12 l12 c12 k12 fun _ _ _ _ _ _ us hl => match us, hl with | [_], _ => rfl,
    d_is_leaving := FnA.mk' (l := l) X G a13 l13 c13 k13 fun _ _ _ _ _ _ us hl => match us, hl with | [_], _ => rfl,
    d_check_rows := FnA.mk' (l := l) X G a14 l14 c14 k14 fun _ _ _ _ _ _ us hl => match us, hl with | [_, _, _], _ => rfl,
    kd_Port___init__ := ⟨kD15, rfl, List.forall_mem_cons.mpr ⟨kn15_other, List.forall_mem_cons.mpr ⟨kn15_bare, fun _ h => nomatch h⟩⟩⟩,
    d_Port___init__ := MeA.mk' l15 c15 k15,
    u_Loose_Trunk := ⟨sm_Loose_Trunk, su_Loose_Trunk, beq_iff_eq.mp i15, fnIn_of l15⟩,
    u_Plain_Plain := ⟨sm_Plain_Plain, su_Plain_Plain, beq_iff_eq.mp i15, fnIn_of l15⟩,
    u_Trunk_Trunk := ⟨sm_Trunk_Trunk, su_Trunk_Trunk, beq_iff_eq.mp i15, fnIn_of l15⟩,
    u_Tunnel_Tunnel := ⟨sm_Tunnel_Tunnel, su_Tunnel_Tunnel, beq_iff_eq.mp i15, fnIn_of l15⟩,
    kd_Trunk___init__ := ⟨kD16, rfl, List.forall_mem_cons.mpr ⟨kn16_native, fun _ h => nomatch h⟩⟩,
    d_Trunk___init__ := MeS.mk' l16 c16 k16 ca16 cb16 cc_16 cd_16 ce_16 cf_16 cg_16 (PySem.W.mg_none_of X G z_super) stop scs,
    u_Loose_Loose := ⟨sm_Loose_Loose, su_Loose_Loose, beq_iff_eq.mp i16, fnIn_of l16⟩,
    d_Loose___init__ := MeS.mk' l17 c17 k17 ca17 cb17 cc_17 cd_17 ce_17 cf_17 cg_17 (PySem.W.mg_none_of X G z_super) stop scs,
    d__law_made := FnA.mk' (l := l) X G a18 l18 c18 k18 fun _ _ _ _ _ _ us hl => match us, hl with | [_, _, _], _ => rfl,
    d__law_equal := FnA.mk' (l := l) X G a19 l19 c19 k19 fun _ _ _ _ _ _ us hl => match us, hl with | [_, _], _ => rfl,
    d__law_told := FnA.mk' (l := l) X G a20 l20 c20 k20 fun _ _ _ _ _ _ us hl => match us, hl with | [_, _, _], _ => rfl,
    d_Plain___init__ := MeS.mk' l21 c21 k21 ca21 cb21 cc_21 cd_21 ce_21 cf_21 cg_21 (PySem.W.mg_none_of X G z_super) stop scs,
    d_Tunnel___init__ := MeS.mk' l22 c22 k22 ca22 cb22 cc_22 cd_22 ce_22 cf_22 cg_22 (PySem.W.mg_none_of X G z_super) stop scs,
    d__law_single := FnA.mk' (l := l) X G a23 l23 c23 k23 fun _ _ _ _ _ _ us hl => match us, hl with | [_, _], _ => rfl,
    x_BadTag := ExA.mk' X G xa0 xi0 xt0 xl0 xc0 xk0 ⟨⟨_, _, _, _, _, _, _, _, _, _, _, _, _, _, _, xL0, xr0⟩, xs0, xe0, xy0, xq0⟩ ⟨xg0, xh0, xe0, xd0⟩ fun _ _ _ _ _ _ us hl => match us, hl with | [_, _], _ => rfl,
    n_BadTag_value := xn0_value,
    x_BadEntry := ExA.mk' X G xa1 xi1 xt1 xl1 xc1 xk1 ⟨⟨_, _, _, _, _, _, _, _, _, _, _, _, _, _, _, xL1, xr1⟩, xs1, xe1, xy1, xq1⟩ ⟨xg1, xh1, xe1, xd1⟩ fun _ _ _ _ _ _ us hl => match us, hl with | [_, _, _], _ => rfl,
    n_BadEntry_part := xn1_part,
    n_BadEntry_index := xn1_index,
    z_all := PySem.W.mg_none_of X G z_all,
    z_bool := PySem.W.mg_none_of X G z_bool,
    z_enumerate := PySem.W.mg_none_of X G z_enumerate,
    z_int := PySem.W.mg_none_of X G z_int,
    z_isinstance := PySem.W.mg_none_of X G z_isinstance,
    z_len := PySem.W.mg_none_of X G z_len,
    z_list := PySem.W.mg_none_of X G z_list,
    z_min := PySem.W.mg_none_of X G z_min,
    z_range := PySem.W.mg_none_of X G z_range,
    z_sorted := PySem.W.mg_none_of X G z_sorted,
    z_str := PySem.W.mg_none_of X G z_str,
    z_tuple := PySem.W.mg_none_of X G z_tuple,
    z_zip := PySem.W.mg_none_of X G z_zip,
    k_MOST_ENTRIES := ⟨_, PySem.W.mg_of X G k_MOST_ENTRIES⟩,
    k_MOST_TAG := ⟨_, PySem.W.mg_of X G k_MOST_TAG⟩,
    c_Plain := ⟨op_Plain, oh_Plain, oo_Plain, os_Plain⟩,
    m_Plain := PySem.W.mg_of X G oc_Plain,
    k_Plain := ⟨om_Plain, hi_Plain, i21, ok_Plain⟩,
    c_Tunnel := ⟨op_Tunnel, oh_Tunnel, oo_Tunnel, os_Tunnel⟩,
    m_Tunnel := PySem.W.mg_of X G oc_Tunnel,
    k_Tunnel := ⟨om_Tunnel, hi_Tunnel, i22, ok_Tunnel⟩,
    c_Trunk := ⟨op_Trunk, oh_Trunk, oo_Trunk, os_Trunk⟩,
    m_Trunk := PySem.W.mg_of X G oc_Trunk,
    k_Trunk := ⟨om_Trunk, hi_Trunk, i16, ok_Trunk⟩,
    c_Loose := ⟨op_Loose, oh_Loose, oo_Loose, os_Loose⟩,
    m_Loose := PySem.W.mg_of X G oc_Loose,
    k_Loose := ⟨om_Loose, hi_Loose, i17, ok_Loose⟩,
    n_Loose_bare := on_Loose_bare,
    n_Loose_entries := on_Loose_entries,
    n_Loose_exits := on_Loose_exits,
    n_Loose_inner := on_Loose_inner,
    n_Loose_native := on_Loose_native,
    n_Loose_other := on_Loose_other,
    n_Loose_rooms := on_Loose_rooms,
    n_Plain_bare := on_Plain_bare,
    n_Plain_entries := on_Plain_entries,
    n_Plain_exits := on_Plain_exits,
    n_Plain_other := on_Plain_other,
    n_Plain_room := on_Plain_room,
    n_Trunk_bare := on_Trunk_bare,
    n_Trunk_entries := on_Trunk_entries,
    n_Trunk_exits := on_Trunk_exits,
    n_Trunk_native := on_Trunk_native,
    n_Trunk_other := on_Trunk_other,
    n_Trunk_rooms := on_Trunk_rooms,
    n_Tunnel_bare := on_Tunnel_bare,
    n_Tunnel_entries := on_Tunnel_entries,
    n_Tunnel_exits := on_Tunnel_exits,
    n_Tunnel_inner := on_Tunnel_inner,
    n_Tunnel_other := on_Tunnel_other,
    n_Tunnel_room := on_Tunnel_room,
    v_is_arriving := rfl,
    v_is_leaving := rfl,
    t_BadTag := PySem.W.mg_of X G xa0,
    e_BadTag_BadTag := PySem.W.exm_ref xe0 xd0 xy0 e_BadTag_BadTag,
    e_BadTag_BadEntry := PySem.W.exm_ref xe0 xd0 xy0 e_BadTag_BadEntry,
    t_TagError := PySem.W.mg_of X G ba_TagError,
    e_TagError_BadTag := PySem.W.exm_ref be_TagError bd_TagError by_TagError e_TagError_BadTag,
    e_TagError_BadEntry := PySem.W.exm_ref be_TagError bd_TagError by_TagError e_TagError_BadEntry,
    ec_BadTag := ⟨xg0, xh0, xe0, xd0, xu0, xcn, xct, xm0⟩,
    ec_BadEntry := ⟨xg1, xh1, xe1, xd1, xu1, xcn, xct, xm1⟩,
    t_BadEntry := PySem.W.mg_of X G xa1,
    s_BadEntry_BadTag := PySem.W.kit_ref xd1 xy1 s_BadEntry_BadTag (fun q => (sn_BadEntry_BadTag q).elim),
    s_BadEntry_BadEntry := PySem.W.kit_ref xd1 xy1 s_BadEntry_BadEntry (fun _ => rfl),
    s_BadTag_BadTag := PySem.W.kit_ref xd0 xy0 s_BadTag_BadTag (fun _ => rfl),
    s_BadTag_BadEntry := PySem.W.kit_ref xd0 xy0 s_BadTag_BadEntry (fun q => (sn_BadTag_BadEntry q).elim) }
  exact ⟨PySem.W.fnOf "law" "law" (defArgs s_law) (defBody s_law) (defScope s_law) .none kV24 dc24 pm24 an24 cd24 ct24, fun s v => .of_eq rfl, fun base _ _ => ok_law (fun_mk (st := s_law) l24 c24 k24) T (law_true _)⟩
theorem walk {l : PySem.W.OpenLaw} {q : Program} {loose : List Str} {XP : (Str → Option Value) → Heap → Prop} {YP : World → Heap → Prop} {d : DefRec} {K : Params → PySem.W.Frag} (hn : l.most = some 63) (hdf : d.params.defaults = [])
    (hY : ∀ (w : World) (h : Heap), YP w h → (K w.params).In h)
    (F : ∀ (w : World) (mg : Str → Option Value) (fa : Addr) (h : Heap), (K w.params).In h → h.Ns mainGlobals mg → mg d.name = some (.ref fa) →
      ∃ fd : FuncData, (∀ (s : Shared) (u : Value), BindsTo s fd ⟨[u], []⟩ [("_law_script", u)]) ∧ ∀ base : Heap, (K w.params).In base → base.Ns mainGlobals mg → FnOk l.prog w (K w.params) mg base (L2.CX l.prog w) 11 fa fd ["_law_script"] (spLaw (K w.params))) :
    PySem.W.WalkO q loose XP YP l.row.toRowW d [] (fun f vs => PySem.call f vs) :=
  L2.walk_of (n := 63) (k := 11) (x := "_law_script") (CX := fun w => L2.CX l.prog w) (sp := fun w => spLaw (K w.params)) hn (by decide) hdf ⟨rfl, by decide, by decide⟩ hY F (fun _ _ a ns hl _ hS => ⟨a, ns, rfl, hS, hl, fun _ => rfl⟩) fun _ _ _ _ _ ⟨_, _, _, _, _, _, _, _, _, _, _, _, z⟩ => z
end Dn
open PySem PySem.W PyProof.Rows in
set_option maxRecDepth 100000 in
set_option maxHeartbeats 0 in
theorem PySem.Challenge.cw_tagrooms_k09_rooms_refused_holds : PySem.Challenge.rw_tagrooms_k09_rooms_refused.Holds := by
  w_on; o_law; k_head; (case hw => w_witness2)
  k_fill
  refine Dn.walk (l := PySem.Challenge.rw_tagrooms_k09_rooms_refused) rfl rfl (fun w h Y => PySem.W.kIn_of Y) ?F
  case F =>
    intro w mg fa h KX G hmg
    refine' Dn.all_mk KX G hmg ?oc_Plain ?op_Plain ?oh_Plain ?oo_Plain ?os_Plain ?oc_Tunnel ?op_Tunnel ?oh_Tunnel ?oo_Tunnel ?os_Tunnel ?oc_Trunk ?op_Trunk ?oh_Trunk ?oo_Trunk ?os_Trunk ?oc_Loose ?op_Loose ?oh_Loose ?oo_Loose ?os_Loose ?a0 ?l0 ?c0 ?k0 ?a1 ?l1 ?c1 ?k1 ?a2 ?l2 ?c2 ?k2 ?a3 ?l3 ?c3 ?k3 ?a4 ?l4 ?c4 ?k4 ?a5 ?l5 ?c5 ?k5 ?a6 ?l6 ?c6 ?k6 ?a7 ?l7 ?c7 ?k7 ?a8 ?l8 ?c8 ?k8 ?a9 ?l9 ?c9 ?k9 ?a10 ?l10 ?c10 ?k10 ?a11 ?l11 ?c11 ?k11 ?a12 ?l12 ?c12 ?k12 ?a13 ?l13 ?c13 ?k13 ?a14 ?l14 ?c14 ?k14 ?su_Loose_Trunk ?sm_Loose_Trunk ?su_Plain_Plain ?sm_Plain_Plain ?su_Trunk_Trunk ?sm_Trunk_Trunk ?su_Tunnel_Tunnel ?sm_Tunnel_Tunnel ?i15 ?l15 ?c15 ?k15 ?kn15_other ?kn15_bare ?hi_Trunk ?su_Loose_Loose ?sm_Loose_Loose ?i16 ?l16 ?c16 ?ca16 ?cb16 ?cc_16 ?cd_16 ?ce_16 ?cf_16 ?cg_16 ?k16 ?kn16_native ?hi_Loose ?i17 ?l17 ?c17 ?ca17 ?cb17 ?cc_17 ?cd_17 ?ce_17 ?cf_17 ?cg_17 ?k17 ?a18 ?l18 ?c18 ?k18 ?a19 ?l19 ?c19 ?k19 ?a20 ?l20 ?c20 ?k20 ?hi_Plain ?i21 ?l21 ?c21 ?ca21 ?cb21 ?cc_21 ?cd_21 ?ce_21 ?cf_21 ?cg_21 ?k21 ?hi_Tunnel ?i22 ?l22 ?c22 ?ca22 ?cb22 ?cc_22 ?cd_22 ?ce_22 ?cf_22 ?cg_22 ?k22 ?a23 ?l23 ?c23 ?k23 ?a24 ?l24 ?c24 ?k24 ?z_super ?stop ?scs ?xa0 ?xi0 ?xt0 ?xl0 ?xc0 ?xk0 ?xL0 ?xr0 ?xs0 ?xe0 ?xy0 ?xq0 ?xg0 ?xh0 ?xd0 ?xn0_value ?xa1 ?xi1 ?xt1 ?xl1 ?xc1 ?xk1 ?xL1 ?xr1 ?xs1 ?xe1 ?xy1 ?xq1 ?xg1 ?xh1 ?xd1 ?xn1_part ?xn1_index ?z_all ?z_bool ?z_enumerate ?z_int ?z_isinstance ?z_len ?z_list ?z_min ?z_range ?z_sorted ?z_str ?z_tuple ?z_zip ?k_MOST_ENTRIES ?k_MOST_TAG ?om_Plain ?ok_Plain ?om_Tunnel ?ok_Tunnel ?om_Trunk ?ok_Trunk ?om_Loose ?ok_Loose ?on_Loose_bare ?on_Loose_entries ?on_Loose_exits ?on_Loose_inner ?on_Loose_native ?on_Loose_other ?on_Loose_rooms ?on_Plain_bare ?on_Plain_entries ?on_Plain_exits ?on_Plain_other ?on_Plain_room ?on_Trunk_bare ?on_Trunk_entries ?on_Trunk_exits ?on_Trunk_native ?on_Trunk_other ?on_Trunk_rooms ?on_Tunnel_bare ?on_Tunnel_entries ?on_Tunnel_exits ?on_Tunnel_inner ?on_Tunnel_other ?on_Tunnel_room ?e_BadTag_BadTag ?e_BadTag_BadEntry ?ba_TagError ?be_TagError ?bd_TagError ?by_TagError ?e_TagError_BadTag ?e_TagError_BadEntry ?xcn ?xct ?xu0 ?xm0 ?xu1 ?xm1 ?s_BadEntry_BadTag ?sn_BadEntry_BadTag ?s_BadEntry_BadEntry ?s_BadTag_BadTag ?s_BadTag_BadEntry ?sn_BadTag_BadEntry ?nv_is_arriving_is_leaving ?ne_TagError_BadTag ?ne_TagError_BadEntry ?ne_TagError_Plain ?ne_TagError_Tunnel ?ne_TagError_Trunk ?ne_TagError_Loose ?ne_BadTag_BadEntry ?ne_BadTag_Plain ?ne_BadTag_Tunnel ?ne_BadTag_Trunk ?ne_BadTag_Loose ?ne_BadEntry_Plain ?ne_BadEntry_Tunnel ?ne_BadEntry_Trunk ?ne_BadEntry_Loose ?ne_Plain_Tunnel ?ne_Plain_Trunk ?ne_Plain_Loose ?ne_Tunnel_Trunk ?ne_Tunnel_Loose ?ne_Trunk_Loose
    (case oc_Plain => first | k_is | ks_is | rfl | decide | decide +kernel)
    (case op_Plain => first | k_is | ks_is | rfl | decide | decide +kernel)
    (case oh_Plain => first | k_is | ks_is | rfl | decide | decide +kernel)
    (case oo_Plain => first | k_is | ks_is | rfl | decide | decide +kernel)
    (case os_Plain => first | k_is | ks_is | rfl | decide | decide +kernel)
    (case oc_Tunnel => first | k_is | ks_is | rfl | decide | decide +kernel)
    (case op_Tunnel => first | k_is | ks_is | rfl | decide | decide +kernel)
    (case oh_Tunnel => first | k_is | ks_is | rfl | decide | decide +kernel)
    (case oo_Tunnel => first | k_is | ks_is | rfl | decide | decide +kernel)
    (case os_Tunnel => first | k_is | ks_is | rfl | decide | decide +kernel)
    (case oc_Trunk => first | k_is | ks_is | rfl | decide | decide +kernel)
    (case op_Trunk => first | k_is | ks_is | rfl | decide | decide +kernel)
    (case oh_Trunk => first | k_is | ks_is | rfl | decide | decide +kernel)
    (case oo_Trunk => first | k_is | ks_is | rfl | decide | decide +kernel)
    (case os_Trunk => first | k_is | ks_is | rfl | decide | decide +kernel)
    (case oc_Loose => first | k_is | ks_is | rfl | decide | decide +kernel)
    (case op_Loose => first | k_is | ks_is | rfl | decide | decide +kernel)
    (case oh_Loose => first | k_is | ks_is | rfl | decide | decide +kernel)
    (case oo_Loose => first | k_is | ks_is | rfl | decide | decide +kernel)
    (case os_Loose => first | k_is | ks_is | rfl | decide | decide +kernel)
    (case a0 => first | k_is | ks_is | rfl | decide | decide +kernel)
    (case l0 => first | k_is | ks_is | rfl | decide | decide +kernel)
    (case c0 => first | k_is | ks_is | rfl | decide | decide +kernel)
    (case k0 => first | k_is | ks_is | rfl | decide | decide +kernel)
    (case a1 => first | k_is | ks_is | rfl | decide | decide +kernel)
    (case l1 => first | k_is | ks_is | rfl | decide | decide +kernel)
    (case c1 => first | k_is | ks_is | rfl | decide | decide +kernel)
    (case k1 => first | k_is | ks_is | rfl | decide | decide +kernel)
    (case a2 => first | k_is | ks_is | rfl | decide | decide +kernel)
    (case l2 => first | k_is | ks_is | rfl | decide | decide +kernel)
    (case c2 => first | k_is | ks_is | rfl | decide | decide +kernel)
    (case k2 => first | k_is | ks_is | rfl | decide | decide +kernel)
    (case a3 => first | k_is | ks_is | rfl | decide | decide +kernel)
    (case l3 => first | k_is | ks_is | rfl | decide | decide +kernel)
    (case c3 => first | k_is | ks_is | rfl | decide | decide +kernel)
    (case k3 => first | k_is | ks_is | rfl | decide | decide +kernel)
    (case a4 => first | k_is | ks_is | rfl | decide | decide +kernel)
    (case l4 => first | k_is | ks_is | rfl | decide | decide +kernel)
    (case c4 => first | k_is | ks_is | rfl | decide | decide +kernel)
    (case k4 => first | k_is | ks_is | rfl | decide | decide +kernel)
    (case a5 => first | k_is | ks_is | rfl | decide | decide +kernel)
    (case l5 => first | k_is | ks_is | rfl | decide | decide +kernel)
    (case c5 => first | k_is | ks_is | rfl | decide | decide +kernel)
    (case k5 => first | k_is | ks_is | rfl | decide | decide +kernel)
    (case a6 => first | k_is | ks_is | rfl | decide | decide +kernel)
    (case l6 => first | k_is | ks_is | rfl | decide | decide +kernel)
    (case c6 => first | k_is | ks_is | rfl | decide | decide +kernel)
    (case k6 => first | k_is | ks_is | rfl | decide | decide +kernel)
    (case a7 => first | k_is | ks_is | rfl | decide | decide +kernel)
    (case l7 => first | k_is | ks_is | rfl | decide | decide +kernel)
    (case c7 => first | k_is | ks_is | rfl | decide | decide +kernel)
    (case k7 => first | k_is | ks_is | rfl | decide | decide +kernel)
    (case a8 => first | k_is | ks_is | rfl | decide | decide +kernel)
    (case l8 => first | k_is | ks_is | rfl | decide | decide +kernel)
    (case c8 => first | k_is | ks_is | rfl | decide | decide +kernel)
    (case k8 => first | k_is | ks_is | rfl | decide | decide +kernel)
    (case a9 => first | k_is | ks_is | rfl | decide | decide +kernel)
    (case l9 => first | k_is | ks_is | rfl | decide | decide +kernel)
    (case c9 => first | k_is | ks_is | rfl | decide | decide +kernel)
    (case k9 => first | k_is | ks_is | rfl | decide | decide +kernel)
    (case a10 => first | k_is | ks_is | rfl | decide | decide +kernel)
    (case l10 => first | k_is | ks_is | rfl | decide | decide +kernel)
    (case c10 => first | k_is | ks_is | rfl | decide | decide +kernel)
    (case k10 => first | k_is | ks_is | rfl | decide | decide +kernel)
    (case a11 => first | k_is | ks_is | rfl | decide | decide +kernel)
    (case l11 => first | k_is | ks_is | rfl | decide | decide +kernel)
    (case c11 => first | k_is | ks_is | rfl | decide | decide +kernel)
    (case k11 => first | k_is | ks_is | rfl | decide | decide +kernel)
    (case a12 => first | k_is | ks_is | rfl | decide | decide +kernel)
    (case l12 => first | k_is | ks_is | rfl | decide | decide +kernel)
    (case c12 => first | k_is | ks_is | rfl | decide | decide +kernel)
    (case k12 => first | k_is | ks_is | rfl | decide | decide +kernel)
    (case a13 => first | k_is | ks_is | rfl | decide | decide +kernel)
    (case l13 => first | k_is | ks_is | rfl | decide | decide +kernel)
    (case c13 => first | k_is | ks_is | rfl | decide | decide +kernel)
    (case k13 => first | k_is | ks_is | rfl | decide | decide +kernel)
    (case a14 => first | k_is | ks_is | rfl | decide | decide +kernel)
    (case l14 => first | k_is | ks_is | rfl | decide | decide +kernel)
    (case c14 => first | k_is | ks_is | rfl | decide | decide +kernel)
    (case k14 => first | k_is | ks_is | rfl | decide | decide +kernel)
    (case su_Loose_Trunk => first | k_is | ks_is | rfl | decide | decide +kernel)
    (case sm_Loose_Trunk => first | k_is | ks_is | rfl | decide | decide +kernel)
    (case su_Plain_Plain => first | k_is | ks_is | rfl | decide | decide +kernel)
    (case sm_Plain_Plain => first | k_is | ks_is | rfl | decide | decide +kernel)
    (case su_Trunk_Trunk => first | k_is | ks_is | rfl | decide | decide +kernel)
    (case sm_Trunk_Trunk => first | k_is | ks_is | rfl | decide | decide +kernel)
    (case su_Tunnel_Tunnel => first | k_is | ks_is | rfl | decide | decide +kernel)
    (case sm_Tunnel_Tunnel => first | k_is | ks_is | rfl | decide | decide +kernel)
    (case i15 => first | k_is | ks_is | rfl | decide | decide +kernel)
    (case l15 => first | k_is | ks_is | rfl | decide | decide +kernel)
    (case c15 => first | k_is | ks_is | rfl | decide | decide +kernel)
    (case k15 => first | k_is | ks_is | rfl | decide | decide +kernel)
    (case kn15_other => first | k_is | ks_is | rfl | decide | decide +kernel)
    (case kn15_bare => first | k_is | ks_is | rfl | decide | decide +kernel)
    (case hi_Trunk => first | k_is | ks_is | rfl | decide | decide +kernel)
    (case su_Loose_Loose => first | k_is | ks_is | rfl | decide | decide +kernel)
    (case sm_Loose_Loose => first | k_is | ks_is | rfl | decide | decide +kernel)
    (case i16 => first | k_is | ks_is | rfl | decide | decide +kernel)
    (case l16 => first | k_is | ks_is | rfl | decide | decide +kernel)
    (case c16 => first | k_is | ks_is | rfl | decide | decide +kernel)
    (case ca16 => first | k_is | ks_is | rfl | decide | decide +kernel)
    (case cb16 => first | k_is | ks_is | rfl | decide | decide +kernel)
    (case cc_16 => first | k_is | ks_is | rfl | decide | decide +kernel)
    (case cd_16 => first | k_is | ks_is | rfl | decide | decide +kernel)
    (case ce_16 => first | k_is | ks_is | rfl | decide | decide +kernel)
    (case cf_16 => first | k_is | ks_is | rfl | decide | decide +kernel)
    (case cg_16 => first | k_is | ks_is | rfl | decide | decide +kernel)
    (case k16 => first | k_is | ks_is | rfl | decide | decide +kernel)
    (case kn16_native => first | k_is | ks_is | rfl | decide | decide +kernel)
    (case hi_Loose => first | k_is | ks_is | rfl | decide | decide +kernel)
    (case i17 => first | k_is | ks_is | rfl | decide | decide +kernel)
    (case l17 => first | k_is | ks_is | rfl | decide | decide +kernel)
    (case c17 => first | k_is | ks_is | rfl | decide | decide +kernel)
    (case ca17 => first | k_is | ks_is | rfl | decide | decide +kernel)
    (case cb17 => first | k_is | ks_is | rfl | decide | decide +kernel)
    (case cc_17 => first | k_is | ks_is | rfl | decide | decide +kernel)
    (case cd_17 => first | k_is | ks_is | rfl | decide | decide +kernel)
    (case ce_17 => first | k_is | ks_is | rfl | decide | decide +kernel)
    (case cf_17 => first | k_is | ks_is | rfl | decide | decide +kernel)
    (case cg_17 => first | k_is | ks_is | rfl | decide | decide +kernel)
    (case k17 => first | k_is | ks_is | rfl | decide | decide +kernel)
    (case a18 => first | k_is | ks_is | rfl | decide | decide +kernel)
    (case l18 => first | k_is | ks_is | rfl | decide | decide +kernel)
    (case c18 => first | k_is | ks_is | rfl | decide | decide +kernel)
    (case k18 => first | k_is | ks_is | rfl | decide | decide +kernel)
    (case a19 => first | k_is | ks_is | rfl | decide | decide +kernel)
    (case l19 => first | k_is | ks_is | rfl | decide | decide +kernel)
    (case c19 => first | k_is | ks_is | rfl | decide | decide +kernel)
    (case k19 => first | k_is | ks_is | rfl | decide | decide +kernel)
    (case a20 => first | k_is | ks_is | rfl | decide | decide +kernel)
    (case l20 => first | k_is | ks_is | rfl | decide | decide +kernel)
    (case c20 => first | k_is | ks_is | rfl | decide | decide +kernel)
    (case k20 => first | k_is | ks_is | rfl | decide | decide +kernel)
    (case hi_Plain => first | k_is | ks_is | rfl | decide | decide +kernel)
    (case i21 => first | k_is | ks_is | rfl | decide | decide +kernel)
    (case l21 => first | k_is | ks_is | rfl | decide | decide +kernel)
    (case c21 => first | k_is | ks_is | rfl | decide | decide +kernel)
    (case ca21 => first | k_is | ks_is | rfl | decide | decide +kernel)
    (case cb21 => first | k_is | ks_is | rfl | decide | decide +kernel)
    (case cc_21 => first | k_is | ks_is | rfl | decide | decide +kernel)
    (case cd_21 => first | k_is | ks_is | rfl | decide | decide +kernel)
    (case ce_21 => first | k_is | ks_is | rfl | decide | decide +kernel)
    (case cf_21 => first | k_is | ks_is | rfl | decide | decide +kernel)
    (case cg_21 => first | k_is | ks_is | rfl | decide | decide +kernel)
    (case k21 => first | k_is | ks_is | rfl | decide | decide +kernel)
    (case hi_Tunnel => first | k_is | ks_is | rfl | decide | decide +kernel)
    (case i22 => first | k_is | ks_is | rfl | decide | decide +kernel)
    (case l22 => first | k_is | ks_is | rfl | decide | decide +kernel)
    (case c22 => first | k_is | ks_is | rfl | decide | decide +kernel)
    (case ca22 => first | k_is | ks_is | rfl | decide | decide +kernel)
    (case cb22 => first | k_is | ks_is | rfl | decide | decide +kernel)
    (case cc_22 => first | k_is | ks_is | rfl | decide | decide +kernel)
    (case cd_22 => first | k_is | ks_is | rfl | decide | decide +kernel)
    (case ce_22 => first | k_is | ks_is | rfl | decide | decide +kernel)
    (case cf_22 => first | k_is | ks_is | rfl | decide | decide +kernel)
    (case cg_22 => first | k_is | ks_is | rfl | decide | decide +kernel)
    (case k22 => first | k_is | ks_is | rfl | decide | decide +kernel)
    (case a23 => first | k_is | ks_is | rfl | decide | decide +kernel)
    (case l23 => first | k_is | ks_is | rfl | decide | decide +kernel)
    (case c23 => first | k_is | ks_is | rfl | decide | decide +kernel)
    (case k23 => first | k_is | ks_is | rfl | decide | decide +kernel)
    (case a24 => first | k_is | ks_is | rfl | decide | decide +kernel)
    (case l24 => first | k_is | ks_is | rfl | decide | decide +kernel)
    (case c24 => first | k_is | ks_is | rfl | decide | decide +kernel)
    (case k24 => first | k_is | ks_is | rfl | decide | decide +kernel)
    (case z_super => first | k_is | ks_is | rfl | decide | decide +kernel)
    (case stop => first | k_is | ks_is | rfl | decide | decide +kernel)
    (case scs => first | k_is | ks_is | rfl | decide | decide +kernel)
    (case xa0 => first | k_is | ks_is | rfl | decide | decide +kernel)
    (case xi0 => first | k_is | ks_is | rfl | decide | decide +kernel)
    (case xt0 => first | k_is | ks_is | rfl | decide | decide +kernel)
    (case xl0 => first | k_is | ks_is | rfl | decide | decide +kernel)
    (case xc0 => first | k_is | ks_is | rfl | decide | decide +kernel)
    (case xk0 => first | k_is | ks_is | rfl | decide | decide +kernel)
    (case xL0 => first | k_is | ks_is | rfl | decide | decide +kernel)
    (case xr0 => first | k_is | ks_is | rfl | decide | decide +kernel)
    (case xs0 => first | k_is | ks_is | rfl | decide | decide +kernel)
    (case xe0 => first | k_is | ks_is | rfl | decide | decide +kernel)
    (case xy0 => first | k_is | ks_is | rfl | decide | decide +kernel)
    (case xq0 => first | k_is | ks_is | rfl | decide | decide +kernel)
    (case xg0 => first | k_is | ks_is | rfl | decide | decide +kernel)
    (case xh0 => first | k_is | ks_is | rfl | decide | decide +kernel)
    (case xd0 => first | k_is | ks_is | rfl | decide | decide +kernel)
    (case xn0_value => first | k_is | ks_is | rfl | decide | decide +kernel)
    (case xa1 => first | k_is | ks_is | rfl | decide | decide +kernel)
    (case xi1 => first | k_is | ks_is | rfl | decide | decide +kernel)
    (case xt1 => first | k_is | ks_is | rfl | decide | decide +kernel)
    (case xl1 => first | k_is | ks_is | rfl | decide | decide +kernel)
    (case xc1 => first | k_is | ks_is | rfl | decide | decide +kernel)
    (case xk1 => first | k_is | ks_is | rfl | decide | decide +kernel)
    (case xL1 => first | k_is | ks_is | rfl | decide | decide +kernel)
    (case xr1 => first | k_is | ks_is | rfl | decide | decide +kernel)
    (case xs1 => first | k_is | ks_is | rfl | decide | decide +kernel)
    (case xe1 => first | k_is | ks_is | rfl | decide | decide +kernel)
    (case xy1 => first | k_is | ks_is | rfl | decide | decide +kernel)
    (case xq1 => first | k_is | ks_is | rfl | decide | decide +kernel)
    (case xg1 => first | k_is | ks_is | rfl | decide | decide +kernel)
    (case xh1 => first | k_is | ks_is | rfl | decide | decide +kernel)
    (case xd1 => first | k_is | ks_is | rfl | decide | decide +kernel)
    (case xn1_part => first | k_is | ks_is | rfl | decide | decide +kernel)
    (case xn1_index => first | k_is | ks_is | rfl | decide | decide +kernel)
    (case z_all => first | k_is | ks_is | rfl | decide | decide +kernel)
    (case z_bool => first | k_is | ks_is | rfl | decide | decide +kernel)
    (case z_enumerate => first | k_is | ks_is | rfl | decide | decide +kernel)
    (case z_int => first | k_is | ks_is | rfl | decide | decide +kernel)
    (case z_isinstance => first | k_is | ks_is | rfl | decide | decide +kernel)
    (case z_len => first | k_is | ks_is | rfl | decide | decide +kernel)
    (case z_list => first | k_is | ks_is | rfl | decide | decide +kernel)
    (case z_min => first | k_is | ks_is | rfl | decide | decide +kernel)
    (case z_range => first | k_is | ks_is | rfl | decide | decide +kernel)
    (case z_sorted => first | k_is | ks_is | rfl | decide | decide +kernel)
    (case z_str => first | k_is | ks_is | rfl | decide | decide +kernel)
    (case z_tuple => first | k_is | ks_is | rfl | decide | decide +kernel)
    (case z_zip => first | k_is | ks_is | rfl | decide | decide +kernel)
    (case k_MOST_ENTRIES => first | k_is | ks_is | rfl | decide | decide +kernel)
    (case k_MOST_TAG => first | k_is | ks_is | rfl | decide | decide +kernel)
    (case om_Plain => first | k_is | ks_is | rfl | decide | decide +kernel)
    (case ok_Plain => first | k_is | ks_is | rfl | decide | decide +kernel)
    (case om_Tunnel => first | k_is | ks_is | rfl | decide | decide +kernel)
    (case ok_Tunnel => first | k_is | ks_is | rfl | decide | decide +kernel)
    (case om_Trunk => first | k_is | ks_is | rfl | decide | decide +kernel)
    (case ok_Trunk => first | k_is | ks_is | rfl | decide | decide +kernel)
    (case om_Loose => first | k_is | ks_is | rfl | decide | decide +kernel)
    (case ok_Loose => first | k_is | ks_is | rfl | decide | decide +kernel)
    (case on_Loose_bare => first | k_is | ks_is | rfl | decide | decide +kernel)
    (case on_Loose_entries => first | k_is | ks_is | rfl | decide | decide +kernel)
    (case on_Loose_exits => first | k_is | ks_is | rfl | decide | decide +kernel)
    (case on_Loose_inner => first | k_is | ks_is | rfl | decide | decide +kernel)
    (case on_Loose_native => first | k_is | ks_is | rfl | decide | decide +kernel)
    (case on_Loose_other => first | k_is | ks_is | rfl | decide | decide +kernel)
    (case on_Loose_rooms => first | k_is | ks_is | rfl | decide | decide +kernel)
    (case on_Plain_bare => first | k_is | ks_is | rfl | decide | decide +kernel)
    (case on_Plain_entries => first | k_is | ks_is | rfl | decide | decide +kernel)
    (case on_Plain_exits => first | k_is | ks_is | rfl | decide | decide +kernel)
    (case on_Plain_other => first | k_is | ks_is | rfl | decide | decide +kernel)
    (case on_Plain_room => first | k_is | ks_is | rfl | decide | decide +kernel)
    (case on_Trunk_bare => first | k_is | ks_is | rfl | decide | decide +kernel)
    (case on_Trunk_entries => first | k_is | ks_is | rfl | decide | decide +kernel)
    (case on_Trunk_exits => first | k_is | ks_is | rfl | decide | decide +kernel)
    (case on_Trunk_native => first | k_is | ks_is | rfl | decide | decide +kernel)
    (case on_Trunk_other => first | k_is | ks_is | rfl | decide | decide +kernel)
    (case on_Trunk_rooms => first | k_is | ks_is | rfl | decide | decide +kernel)
    (case on_Tunnel_bare => first | k_is | ks_is | rfl | decide | decide +kernel)
    (case on_Tunnel_entries => first | k_is | ks_is | rfl | decide | decide +kernel)
    (case on_Tunnel_exits => first | k_is | ks_is | rfl | decide | decide +kernel)
    (case on_Tunnel_inner => first | k_is | ks_is | rfl | decide | decide +kernel)
    (case on_Tunnel_other => first | k_is | ks_is | rfl | decide | decide +kernel)
    (case on_Tunnel_room => first | k_is | ks_is | rfl | decide | decide +kernel)
    (case e_BadTag_BadTag => first | k_is | ks_is | rfl | decide | decide +kernel)
    (case e_BadTag_BadEntry => first | k_is | ks_is | rfl | decide | decide +kernel)
    (case ba_TagError => first | k_is | ks_is | rfl | decide | decide +kernel)
    (case be_TagError => first | k_is | ks_is | rfl | decide | decide +kernel)
    (case bd_TagError => first | k_is | ks_is | rfl | decide | decide +kernel)
    (case by_TagError => first | k_is | ks_is | rfl | decide | decide +kernel)
    (case e_TagError_BadTag => first | k_is | ks_is | rfl | decide | decide +kernel)
    (case e_TagError_BadEntry => first | k_is | ks_is | rfl | decide | decide +kernel)
    (case xcn => first | k_is | ks_is | rfl | decide | decide +kernel)
    (case xct => first | k_is | ks_is | rfl | decide | decide +kernel)
    (case xu0 => first | k_is | ks_is | rfl | decide | decide +kernel)
    (case xm0 => first | k_is | ks_is | rfl | decide | decide +kernel)
    (case xu1 => first | k_is | ks_is | rfl | decide | decide +kernel)
    (case xm1 => first | k_is | ks_is | rfl | decide | decide +kernel)
    (case s_BadEntry_BadTag => first | k_is | ks_is | rfl | decide | decide +kernel)
    (case sn_BadEntry_BadTag => first | k_is | ks_is | rfl | decide | decide +kernel)
    (case s_BadEntry_BadEntry => first | k_is | ks_is | rfl | decide | decide +kernel)
    (case s_BadTag_BadTag => first | k_is | ks_is | rfl | decide | decide +kernel)
    (case s_BadTag_BadEntry => first | k_is | ks_is | rfl | decide | decide +kernel)
    (case sn_BadTag_BadEntry => first | k_is | ks_is | rfl | decide | decide +kernel)
    (case nv_is_arriving_is_leaving => first | k_is | ks_is | rfl | decide | decide +kernel)
    (case ne_TagError_BadTag => first | k_is | ks_is | rfl | decide | decide +kernel)
    (case ne_TagError_BadEntry => first | k_is | ks_is | rfl | decide | decide +kernel)
    (case ne_TagError_Plain => first | k_is | ks_is | rfl | decide | decide +kernel)
    (case ne_TagError_Tunnel => first | k_is | ks_is | rfl | decide | decide +kernel)
    (case ne_TagError_Trunk => first | k_is | ks_is | rfl | decide | decide +kernel)
    (case ne_TagError_Loose => first | k_is | ks_is | rfl | decide | decide +kernel)
    (case ne_BadTag_BadEntry => first | k_is | ks_is | rfl | decide | decide +kernel)
    (case ne_BadTag_Plain => first | k_is | ks_is | rfl | decide | decide +kernel)
    (case ne_BadTag_Tunnel => first | k_is | ks_is | rfl | decide | decide +kernel)
    (case ne_BadTag_Trunk => first | k_is | ks_is | rfl | decide | decide +kernel)
    (case ne_BadTag_Loose => first | k_is | ks_is | rfl | decide | decide +kernel)
    (case ne_BadEntry_Plain => first | k_is | ks_is | rfl | decide | decide +kernel)
    (case ne_BadEntry_Tunnel => first | k_is | ks_is | rfl | decide | decide +kernel)
    (case ne_BadEntry_Trunk => first | k_is | ks_is | rfl | decide | decide +kernel)
    (case ne_BadEntry_Loose => first | k_is | ks_is | rfl | decide | decide +kernel)
    (case ne_Plain_Tunnel => first | k_is | ks_is | rfl | decide | decide +kernel)
    (case ne_Plain_Trunk => first | k_is | ks_is | rfl | decide | decide +kernel)
    (case ne_Plain_Loose => first | k_is | ks_is | rfl | decide | decide +kernel)
    (case ne_Tunnel_Trunk => first | k_is | ks_is | rfl | decide | decide +kernel)
    (case ne_Tunnel_Loose => first | k_is | ks_is | rfl | decide | decide +kernel)
    (case ne_Trunk_Loose => first | k_is | ks_is | rfl | decide | decide +kernel)
#print axioms PySem.Challenge.cw_tagrooms_k09_rooms_refused_holds
