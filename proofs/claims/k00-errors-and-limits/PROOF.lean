import PyProof.Rows.All
import Wide.All
import OpenK.AllK
import Wide.FinOn
import HandS.ForMost
import HandS.ForExc
import HandS.CallSlots
import HandS.IsInst
import HandS.TupAny
import HandS.Zip
import HandS.ExcField
import HandS.ExcInit
import HandS.ExcIs
import HandS.Deep
import HandS.SortInts
import HandS.Walk
import KE.GoesEnum
import HandS.Style
import HandS.Text
import PyProof.StrOps2
import HandS.Property
import HandS.MakeKwOnly
import HandS.Defaults
import HandS.CallLocal
import HandS.DictComp
import HandS.Dict
import HandS.TryOnly
import KE.KSuper
import HandS.ClsMeth
import KE.RegKSuper
import PyProof.P3In
import HandS.OwnEq
import KE.DataCmp
import PyProof.InstNe
import HandS.FStr
import KE.KCallOwn
import HandS.More
import HandS.RaiseMore
import PyProof.CallStr
import HandS.ExcValue
import KE.KExcInit
import PySem.Challenge.RW_tagrooms_k00_errors_and_limits
set_option Elab.async false
set_option linter.all false
set_option maxRecDepth 100000
set_option maxHeartbeats 4000000
/-! Dn: a def's meaning as a plain function of data (D), and the judgements that tie it to the layer. -/
namespace Dn
open PySem PySem.Spec PyProof.Rows L2

/-- data: values without addresses -/
inductive D where
  | non | bl (b : Bool) | int (i : Int) | str (x : Str)
  | tup (ds : List D) | lst (ds : List D) | dct (kvs : List (Key × D))
  | obj (C : Addr) (fs : List (Str × D)) | exn (C : Addr) (fs : List (Str × D)) | ref (a : Addr) | ty (n : String) | drw | scr (ns : List Int)

/-- the draws' state -/
structure Dr where
  cells : List Int
  turn : Int
  rests : List Int

/-- what is the same through a def's run: the written part, the draws' addresses, what was frozen and what stood at the entry -/
structure Bs where
  K : PySem.W.Frag
  dr : Addr
  rs : Addr
  cl : Addr
  ex : Addr := 0
  xd : Addr := 0
  xc : Addr := 0
  me : Addr := 0

mutual
inductive Rep (K : PySem.W.Frag) (dr : Addr) (H : Hp) : V → D → Prop
  | non : Rep K dr H .non .non
  | bl (b : Bool) : Rep K dr H (.bl b) (.bl b)
  | int (i : Int) : Rep K dr H (.int i) (.int i)
  | str (x : Str) : Rep K dr H (.str x) (.str x)
  | tup {a : Addr} {vs : List V} {ds : List D} : SqT K H a vs → RepL K dr H vs ds → Rep K dr H (.ref a) (.tup ds)
  | lst {a : Addr} {vs : List V} {ds : List D} : H a = some (.lst vs) → RepL K dr H vs ds → Rep K dr H (.ref a) (.lst ds)
  | dct {a : Addr} {vs : List (Key × V)} {kvs : List (Key × D)} : Rd H a (.dK vs) → RepK K dr H vs kvs → Rep K dr H (.ref a) (.dct kvs)
  | obj {a C dx : Addr} {vs : List (Str × V)} {fs : List (Str × D)} : H a = some (.ins C dx vs) → RepF K dr H vs fs → Rep K dr H (.ref a) (.obj C fs)
  | exn {a C dx : Addr} {vs : List (Str × V)} {fs : List (Str × D)} : H a = some (exo a C (some dx)) → H dx = some (exd dx vs) → RepF K dr H vs fs → Rep K dr H (.ref a) (.exn C fs)
  | ex0 {a C : Addr} : H a = some (exo a C none) → Rep K dr H (.ref a) (.exn C [])
  | ref (a : Addr) : Rep K dr H (.ref a) (.ref a)
  | ty (n : String) : Rep K dr H (.ty n) (.ty n)
  | drw : Rep K dr H (.ref dr) .drw
  | scr {a : Addr} {ns : List Int} : SqL K H a (ns.map V.int) → Rep K dr H (.ref a) (.scr ns)
inductive RepL (K : PySem.W.Frag) (dr : Addr) (H : Hp) : List V → List D → Prop
  | nil : RepL K dr H [] []
  | cons {v : V} {vs : List V} {d : D} {ds : List D} : Rep K dr H v d → RepL K dr H vs ds → RepL K dr H (v :: vs) (d :: ds)
inductive RepK (K : PySem.W.Frag) (dr : Addr) (H : Hp) : List (Key × V) → List (Key × D) → Prop
  | nil : RepK K dr H [] []
  | cons {k : Key} {v : V} {vs : List (Key × V)} {d : D} {ds : List (Key × D)} : Rep K dr H v d → RepK K dr H vs ds → RepK K dr H ((k, v) :: vs) ((k, d) :: ds)
inductive RepF (K : PySem.W.Frag) (dr : Addr) (H : Hp) : List (Str × V) → List (Str × D) → Prop
  | nil : RepF K dr H [] []
  | cons {k : Str} {v : V} {vs : List (Str × V)} {d : D} {ds : List (Str × D)} : Rep K dr H v d → RepF K dr H vs ds → RepF K dr H ((k, v) :: vs) ((k, d) :: ds)
end

def Ex (H H' : Hp) : Prop := ∀ a o, H a = some o → H' a = some o
theorem Ex.refl (H : Hp) : Ex H H := fun _ _ h => h
theorem Ex.trans {H H1 H2 : Hp} (a : Ex H H1) (b : Ex H1 H2) : Ex H H2 := fun x o h => b x o (a x o h)
theorem Ex.new {H : Hp} {p : Addr} {o : HO} (h : H p = none) : Ex H (upd H p o) := fun a u e => by
  rw [upd_ne (ne_of_none e h)]
  exact e
theorem ex_rd {H H' : Hp} {a : Addr} {u : HO} (e : Ex H H') (h : Rd H a u) : Rd H' a u := by
  rcases h with h | ⟨o, h⟩
  · exact Or.inl (e a _ h)
  · exact Or.inr ⟨o, e a _ h⟩
theorem ex_l {K : PySem.W.Frag} {H H' : Hp} {a : Addr} {xs : List V} (e : Ex H H') (h : SqL K H a xs) : SqL K H' a xs := by
  rcases h with h | h
  · exact Or.inl (ex_rd e h)
  · exact Or.inr h
theorem ex_t {K : PySem.W.Frag} {H H' : Hp} {a : Addr} {xs : List V} (e : Ex H H') (h : SqT K H a xs) : SqT K H' a xs := by
  rcases h with h | h
  · exact Or.inl (ex_rd e h)
  · exact Or.inr h

section
variable {K : PySem.W.Frag} {dr : Addr} {H H' : Hp}
mutual
theorem Rep.mono (e : Ex H H') : ∀ {v : V} {d : D}, Rep K dr H v d → Rep K dr H' v d
  | _, _, .non => .non
  | _, _, .bl b => .bl b
  | _, _, .int i => .int i
  | _, _, .str x => .str x
  | _, _, .tup h l => .tup (ex_t e h) (l.mono e)
  | _, _, .lst h l => .lst (e _ _ h) (l.mono e)
  | _, _, .dct h l => .dct (ex_rd e h) (l.mono e)
  | _, _, .obj h l => .obj (e _ _ h) (l.mono e)
  | _, _, .exn h h2 l => .exn (e _ _ h) (e _ _ h2) (l.mono e)
  | _, _, .ex0 h => .ex0 (e _ _ h)
  | _, _, .ref a => .ref a
  | _, _, .ty n => .ty n
  | _, _, .drw => .drw
  | _, _, .scr h => .scr (ex_l e h)
theorem RepL.mono (e : Ex H H') : ∀ {vs : List V} {ds : List D}, RepL K dr H vs ds → RepL K dr H' vs ds
  | _, _, .nil => .nil
  | _, _, .cons h l => .cons (h.mono e) (l.mono e)
theorem RepK.mono (e : Ex H H') : ∀ {vs : List (Key × V)} {ds : List (Key × D)}, RepK K dr H vs ds → RepK K dr H' vs ds
  | _, _, .nil => .nil
  | _, _, .cons h l => .cons (h.mono e) (l.mono e)
theorem RepF.mono (e : Ex H H') : ∀ {vs : List (Str × V)} {ds : List (Str × D)}, RepF K dr H vs ds → RepF K dr H' vs ds
  | _, _, .nil => .nil
  | _, _, .cons h l => .cons (h.mono e) (l.mono e)
end
theorem RepL.length : ∀ {vs : List V} {ds : List D}, RepL K dr H vs ds → vs.length = ds.length
  | _, _, .nil => rfl
  | _, _, .cons _ l => by simp only [List.length_cons]; rw [l.length]
theorem RepL.get : ∀ {vs : List V} {ds : List D} {i : Nat} {d : D}, RepL K dr H vs ds → ds[i]? = some d → ∃ v, vs[i]? = some v ∧ Rep K dr H v d
  | _, _, _, _, .nil, e => by simp at e
  | _, _, 0, _, .cons h _, e => by simp at e; subst e; exact ⟨_, rfl, h⟩
  | _, _, i + 1, d, .cons _ l, e => by
    obtain ⟨v, h1, h2⟩ := l.get (i := i) (d := d) (by simpa using e)
    exact ⟨v, by simpa using h1, h2⟩
theorem RepL.getV : ∀ {vs : List V} {ds : List D} {i : Nat} {v : V}, RepL K dr H vs ds → vs[i]? = some v → ∃ d, ds[i]? = some d ∧ Rep K dr H v d
  | _, _, _, _, .nil, e => by simp at e
  | _, _, 0, _, .cons h _, e => by simp at e; subst e; exact ⟨_, rfl, h⟩
  | _, _, i + 1, v, .cons _ l, e => by
    obtain ⟨d, h1, h2⟩ := l.getV (i := i) (v := v) (by simpa using e)
    exact ⟨d, by simpa using h1, h2⟩
theorem RepL.append : ∀ {vs ws : List V} {ds es : List D}, RepL K dr H vs ds → RepL K dr H ws es → RepL K dr H (vs ++ ws) (ds ++ es)
  | _, _, _, _, .nil, m => m
  | _, _, _, _, .cons h l, m => .cons h (l.append m)
theorem RepL.take : ∀ {vs : List V} {ds : List D} (n : Nat), RepL K dr H vs ds → RepL K dr H (vs.take n) (ds.take n)
  | _, _, 0, _ => .nil
  | _, _, _ + 1, .nil => .nil
  | _, _, n + 1, .cons h l => .cons h (l.take n)
theorem RepL.drop : ∀ {vs : List V} {ds : List D} (n : Nat), RepL K dr H vs ds → RepL K dr H (vs.drop n) (ds.drop n)
  | _, _, 0, r => r
  | _, _, _ + 1, .nil => .nil
  | _, _, n + 1, .cons _ l => l.drop n
theorem RepL.set : ∀ {vs : List V} {ds : List D} (i : Nat) {v : V} {d : D}, RepL K dr H vs ds → Rep K dr H v d → RepL K dr H (vs.set i v) (ds.set i d)
  | _, _, _, _, _, .nil, _ => .nil
  | _, _, 0, _, _, .cons _ l, r => .cons r l
  | _, _, i + 1, _, _, .cons h l, r => .cons h (l.set i r)
theorem RepL.ints : ∀ (ns : List Int), RepL K dr H (ns.map V.int) (ns.map D.int)
  | [] => .nil
  | n :: r => .cons (.int n) (RepL.ints r)
theorem RepL.one {v : V} {d : D} (h : Rep K dr H v d) : RepL K dr H [v] [d] := .cons h .nil
end

/-! ### the locals, the state -/
/-- what a local holds: a frozen value; a list, a dict of its own; a list, a dict that is lent -/
inductive O where
  | v (d : D) | l (ds : List D) | d (kvs : List (Key × D)) | lt (ds : List D) | ld (kvs : List (Key × D)) | x (C : Addr) (fs : List (Str × D)) | ob (C : Addr) (fs : List (Str × D))
def O.own : O → Bool
  | .l _ => true
  | .d _ => true
  | .ob _ _ => true
  | _ => false
abbrev Env := List (Option O)

/-- the draws lie as the state says -/
structure DrR (B : Bs) (Hf : Hp) (S : Dr) (H : Hp) : Prop where
  dr : H B.dr = some (.lst [.ref B.cl, .int S.turn, .ref B.rs])
  cl : Hf B.cl = some (.lst (S.cells.map V.int))
  rs : H B.rs = some (.lst (S.rests.map V.int))
  ne : B.dr ≠ B.rs
def SlR (B : Bs) (bs : Hp × Hp) (Hf H : Hp) (v : V) : O → Prop
  | .v d => Rep B.K B.dr Hf v d
  | .l ds => ∃ a vs, v = .ref a ∧ H a = some (.lst vs) ∧ RepL B.K B.dr Hf vs ds ∧ Hf a = none ∧ bs.2 a = none
  | .d kvs => ∃ a vs, v = .ref a ∧ H a = some (.dK vs) ∧ RepK B.K B.dr Hf vs kvs ∧ Hf a = none ∧ bs.2 a = none
  | .lt ds => ∃ a vs, v = .ref a ∧ bs.2 a = some (.lst vs) ∧ a ≠ B.dr ∧ a ≠ B.rs ∧ RepL B.K B.dr Hf vs ds
  | .ld kvs => ∃ a vs, v = .ref a ∧ Rd bs.2 a (.dK vs) ∧ a ≠ B.dr ∧ a ≠ B.rs ∧ RepK B.K B.dr Hf vs kvs
  | .ob C fs => v = .ref B.me ∧ ∃ dx vs, H B.me = some (.ins C dx vs) ∧ RepF B.K B.dr Hf vs fs ∧ Hf B.me = none ∧ bs.2 B.me = none
  | .x C fs => v = .ref B.ex ∧ C = B.xc ∧ B.xd ≠ B.dr ∧ B.xd ≠ B.rs ∧ ∃ fv, bs.2 B.xd = some (.xd fv) ∧ RepF B.K B.dr Hf fv fs

/-- all but the draws stands -/
def Go (B : Bs) (H H' : Hp) : Prop := ∀ a o, H a = some o → a ≠ B.dr → a ≠ B.rs → H' a = some o
theorem Go.refl {B : Bs} {H : Hp} : Go B H H := fun _ _ h _ _ => h
theorem Go.trans {B : Bs} {H H1 H2 : Hp} (a : Go B H H1) (b : Go B H1 H2) : Go B H H2 := fun x o h n m => b x o (a x o h n m) n m
theorem Go.rd {B : Bs} {H H' : Hp} {a : Addr} {u : HO} (g : Go B H H') (h : Rd H a u) (n1 : a ≠ B.dr) (n2 : a ≠ B.rs) : Rd H' a u := h.elim (fun h => .inl (g a _ h n1 n2)) fun ⟨o, h⟩ => .inr ⟨o, g a _ h n1 n2⟩
theorem Go.of_ex {B : Bs} {H H' : Hp} (e : Ex H H') : Go B H H' := fun x o h _ _ => e x o h
theorem Go.new {B : Bs} {H : Hp} {p : Addr} {o : HO} (h : H p = none) : Go B H (upd H p o) := Go.of_ex (Ex.new h)
/-- an expression's step: what is frozen grows by what is new -/
structure Nx (B : Bs) (Hf H Hf' H' : Hp) : Prop where
  ex : Ex Hf Hf'
  exf : Ex Hf' H'
  fr : ∀ a o, Hf' a = some o → Hf a = some o ∨ H a = none
  go : Go B H H'
  nd : Hf' B.dr = none ∧ Hf' B.rs = none
theorem Nx.trans {B : Bs} {Hf H Hf1 H1 Hf2 H2 : Hp} (x : Nx B Hf H Hf1 H1) (y : Nx B Hf1 H1 Hf2 H2) : Nx B Hf H Hf2 H2 where
  ex := x.ex.trans y.ex
  exf := y.exf
  fr := fun a o h => by
    rcases y.fr a o h with q | q
    · exact x.fr a o q
    · right
      by_cases e1 : a = B.dr
      · subst e1; rw [y.nd.1] at h; cases h
      by_cases e2 : a = B.rs
      · subst e2; rw [y.nd.2] at h; cases h
      cases e : H a with
      | none => rfl
      | some u => rw [x.go a u e e1 e2] at q; cases q
  go := x.go.trans y.go
  nd := y.nd

/-- the locals and the heap as the plain state says -/
structure R (B : Bs) (bs : Hp × Hp) (Hf : Hp) (ρ : Env) (S : Dr) (σ : L2.St) (H : Hp) : Prop where
  ex : Ex Hf H
  exb : Ex bs.1 Hf
  fr : ∀ a o, Hf a = some o → bs.1 a = some o ∨ bs.2 a = none
  nd : Hf B.dr = none ∧ Hf B.rs = none
  go : Go B bs.2 H
  h0 : (∃ o, bs.2 B.dr = some o) ∧ ∃ o, bs.2 B.rs = some o
  drw : DrR B Hf S H
  len : ρ.length = σ.length
  sl : ∀ (i : Nat) o, ρ[i]? = some (some o) → ∃ v, σ[i]? = some (some v) ∧ SlR B bs Hf H v o
  inj : ∀ (i j : Nat) oi oj a, ρ[i]? = some (some oi) → ρ[j]? = some (some oj) → oi.own = true → oj.own = true → σ[i]? = some (some (V.ref a)) → σ[j]? = some (some (V.ref a)) → i = j

section
variable {B : Bs} {bs : Hp × Hp} {Hf Hf' H H' : Hp} {ρ : Env} {S S' : Dr} {σ : L2.St}
theorem R.own_at (r : R B bs Hf ρ S σ H) {i : Nat} {o : O} (h : ρ[i]? = some (some o)) (w : o.own = true) : ∃ a u, σ[i]? = some (some (V.ref a)) ∧ H a = some u ∧ Hf a = none ∧ bs.2 a = none := by
  obtain ⟨v, e, s⟩ := r.sl i o h
  cases o with
  | l ds => obtain ⟨a, vs, rfl, h1, _, h3, h4⟩ := s; exact ⟨a, _, e, h1, h3, h4⟩
  | d ds => obtain ⟨a, vs, rfl, h1, _, h3, h4⟩ := s; exact ⟨a, _, e, h1, h3, h4⟩
  | ob C fs => obtain ⟨rfl, dx, vs, h1, _, h3, h4⟩ := s; exact ⟨_, _, e, h1, h3, h4⟩
  | _ => cases w
theorem SlR.next (r : R B bs Hf ρ S σ H) (n : Nx B Hf H Hf' H') {v : V} {o : O} (s : SlR B bs Hf H v o) : SlR B bs Hf' H' v o := by
  have ne : ∀ a, bs.2 a = none → a ≠ B.dr ∧ a ≠ B.rs := fun a h => by
    obtain ⟨⟨o1, h1⟩, o2, h2⟩ := r.h0
    constructor
    · intro e; rw [e, h1] at h; cases h
    · intro e; rw [e, h2] at h; cases h
  cases o with
  | v d => exact Rep.mono n.ex s
  | l ds =>
    obtain ⟨a, vs, rfl, h1, h2, h3, h4⟩ := s
    obtain ⟨n1, n2⟩ := ne a h4
    refine ⟨a, vs, rfl, n.go a _ h1 n1 n2, h2.mono n.ex, ?_, h4⟩
    cases e : Hf' a with
    | none => rfl
    | some u =>
      rcases n.fr a u e with q | q
      · rw [h3] at q; cases q
      · rw [h1] at q; cases q
  | d ds =>
    obtain ⟨a, vs, rfl, h1, h2, h3, h4⟩ := s
    obtain ⟨n1, n2⟩ := ne a h4
    refine ⟨a, vs, rfl, n.go a _ h1 n1 n2, h2.mono n.ex, ?_, h4⟩
    cases e : Hf' a with
    | none => rfl
    | some u =>
      rcases n.fr a u e with q | q
      · rw [h3] at q; cases q
      · rw [h1] at q; cases q
  | lt ds =>
    obtain ⟨a, vs, rfl, h1, h2, h3, h4⟩ := s
    exact ⟨a, vs, rfl, h1, h2, h3, h4.mono n.ex⟩
  | ld ds =>
    obtain ⟨a, vs, rfl, h1, h2, h3, h4⟩ := s
    exact ⟨a, vs, rfl, h1, h2, h3, h4.mono n.ex⟩
  | x C fs =>
    obtain ⟨h1, h2, h3, h4, fv, h5, h6⟩ := s
    exact ⟨h1, h2, h3, h4, fv, h5, h6.mono n.ex⟩
  | ob C fs =>
    obtain ⟨rfl, dx, vs, h1, h2, h3, h4⟩ := s
    obtain ⟨n1, n2⟩ := ne _ h4
    refine ⟨rfl, dx, vs, n.go _ _ h1 n1 n2, h2.mono n.ex, ?_, h4⟩
    cases e : Hf' B.me with
    | none => rfl
    | some u =>
      rcases n.fr _ u e with q | q
      · rw [h3] at q; cases q
      · rw [h1] at q; cases q
/-- behind an expression -/
theorem R.next (r : R B bs Hf ρ S σ H) (n : Nx B Hf H Hf' H') (d : DrR B Hf' S' H') : R B bs Hf' ρ S' σ H' where
  ex := n.exf
  exb := r.exb.trans n.ex
  fr := fun a o h => by
    rcases n.fr a o h with q | q
    · exact r.fr a o q
    · right
      cases e : bs.2 a with
      | none => rfl
      | some u =>
        by_cases e1 : a = B.dr
        · rw [e1, n.nd.1] at h; cases h
        by_cases e2 : a = B.rs
        · rw [e2, n.nd.2] at h; cases h
        rw [r.go a u e e1 e2] at q; cases q
  nd := n.nd
  go := r.go.trans n.go
  h0 := r.h0
  drw := d
  len := r.len
  sl := fun i o h => by
    obtain ⟨v, e, s⟩ := r.sl i o h
    exact ⟨v, e, SlR.next r n s⟩
  inj := r.inj
theorem R.nx0 (r : R B bs Hf ρ S σ H) : Nx B Hf H Hf H := ⟨Ex.refl _, r.ex, fun _ _ h => .inl h, Go.refl, r.nd⟩
theorem R.dr_ne (r : R B bs Hf ρ S σ H) {p : Addr} (h : H p = none) : p ≠ B.dr ∧ p ≠ B.rs := by
  constructor
  · intro e; rw [e, r.drw.dr] at h; cases h
  · intro e; rw [e, r.drw.rs] at h; cases h
/-- the draws stand when a new object is laid -/
theorem DrR.new (d : DrR B Hf S H) {p : Addr} {o : HO} (h : H p = none) (e : Ex Hf Hf') : DrR B Hf' S (upd H p o) :=
  ⟨by rw [upd_ne (ne_of_none d.dr h)]; exact d.dr, e _ _ d.cl, by rw [upd_ne (ne_of_none d.rs h)]; exact d.rs, d.ne⟩
/-- a new object, not frozen -/
theorem R.new (r : R B bs Hf ρ S σ H) {p : Addr} {o : HO} (h : H p = none) : Nx B Hf H Hf (upd H p o) :=
  ⟨Ex.refl _, r.ex.trans (Ex.new h), fun _ _ z => .inl z, Go.new h, r.nd⟩
theorem R.freeH (r : R B bs Hf ρ S σ H) {p : Addr} (h : H p = none) : Hf p = none := by
  cases e : Hf p with
  | none => rfl
  | some u => rw [r.ex p u e] at h; cases h
theorem R.free0 (r : R B bs Hf ρ S σ H) {p : Addr} (h : H p = none) : bs.2 p = none := by
  obtain ⟨n1, n2⟩ := r.dr_ne h
  cases e : bs.2 p with
  | none => rfl
  | some u => rw [r.go p u e n1 n2] at h; cases h
/-- a new object, frozen at once -/
theorem R.newF (r : R B bs Hf ρ S σ H) {p : Addr} {o : HO} (h : H p = none) : Nx B Hf H (upd Hf p o) (upd H p o) := by
  have hf := r.freeH h
  obtain ⟨n1, n2⟩ := r.dr_ne h
  refine ⟨Ex.new hf, fun a u e => ?_, fun a u e => ?_, Go.new h, by rw [upd_ne (Ne.symm n1)]; exact r.nd.1, by rw [upd_ne (Ne.symm n2)]; exact r.nd.2⟩
  · by_cases q : a = p
    · subst q; rw [upd_same] at e ⊢; exact e
    · rw [upd_ne q] at e ⊢; exact r.ex a u e
  · by_cases q : a = p
    · subst q; exact .inr h
    · rw [upd_ne q] at e; exact .inl e
end

/-! ### what an expression gives -/
/-- a frozen value; a list, a dict that is looked at; a new one that nobody holds -/
inductive E where
  | v (d : D) | b (ds : List D) | n (ds : List D) | bd (kvs : List (Key × D)) | nd (kvs : List (Key × D))
def ER (B : Bs) (Hs Hf H : Hp) (v : V) : E → Prop
  | .v d => Rep B.K B.dr Hf v d
  | .b ds => ∃ a vs, v = .ref a ∧ H a = some (.lst vs) ∧ a ≠ B.dr ∧ a ≠ B.rs ∧ RepL B.K B.dr Hf vs ds
  | .bd ds => ∃ a vs, v = .ref a ∧ Rd H a (.dK vs) ∧ a ≠ B.dr ∧ a ≠ B.rs ∧ RepK B.K B.dr Hf vs ds
  | .n ds => ∃ a vs, v = .ref a ∧ H a = some (.lst vs) ∧ a ≠ B.dr ∧ a ≠ B.rs ∧ RepL B.K B.dr Hf vs ds ∧ Hf a = none ∧ Hs a = none
  | .nd ds => ∃ a vs, v = .ref a ∧ H a = some (.dK vs) ∧ a ≠ B.dr ∧ a ≠ B.rs ∧ RepK B.K B.dr Hf vs ds ∧ Hf a = none ∧ Hs a = none
inductive Out (α : Type) where
  | ok (a : α) (S : Dr) | exc (C : Addr) (fs : List (Str × D)) (S : Dr) | stk
def ExR (B : Bs) (Hf' H' : Hp) (C : Addr) (fs : List (Str × D)) (d : Option Addr) : Prop := ∃ dd fv, d = some dd ∧ H' dd = some (.xd fv) ∧ Hf' dd = none ∧ RepF B.K B.dr Hf' fv fs
/-- the wanted end of an expression that comes out as o -/
def EPost (B : Bs) (W : WX) (Hf : Hp) (σ : L2.St) (H : Hp) {α β : Type} (rel : Hp → α → β → Hp → Hp → Prop) (o : Out α) (Q : β → Hp → Prop) : Prop :=
  match o with
  | .ok e S' => ∀ v Hf' H', Nx B Hf H Hf' H' → DrR B Hf' S' H' → rel H e v Hf' H' → Q v H'
  | .exc C fs S' => ∀ d Hf' H', Nx B Hf H Hf' H' → DrR B Hf' S' H' → ExR B Hf' H' C fs d → W (.ref C) d σ H'
  | .stk => False
abbrev erel (B : Bs) : Hp → E → V → Hp → Hp → Prop := fun Hs e v Hf' H' => ER B Hs Hf' H' v e
abbrev trel : Hp → Bool → Bool → Hp → Hp → Prop := fun _ b c _ _ => b = c
/-- the widest readings -/
def tW (X : Cx) (e : Expr) : TE := fun σ H Q => ∀ (pins : List (Addr × Obj)) (s : Shared), Inv X pins σ H s → wpAny (model X.prog X.w) X.A (eval e X.env) (EP X pins σ Q) X.xe s
def tWT (X : Cx) (e : Expr) : TT := fun σ H Q => ∀ (pins : List (Addr × Obj)) (s : Shared), Inv X pins σ H s → wpAny (model X.prog X.w) X.A (isTrue e X.env (eval e X.env)) (TP X pins σ Q) X.xe s
def tWA (X : Cx) (es : List Expr) : TA := fun σ H Q => ∀ (pos : Pos) (pins : List (Addr × Obj)) (s : Shared), Inv X pins σ H s → wpAny (model X.prog X.w) X.A (spliced (backTo pos (starEach es X.env))) (AP X pins σ Q) X.xe s
def tWS (X : Cx) (st : Stmt) : TS := fun D σ H => ∀ (pins : List (Addr × Obj)) (s : Shared), Inv X pins σ H s → wpAny (model X.prog X.w) X.A (exec st X.env) (SP X pins D) X.xe s
def tWSs (X : Cx) (st : List Stmt) : TS := fun D σ H => ∀ (pins : List (Addr × Obj)) (s : Shared), Inv X pins σ H s → wpAny (model X.prog X.w) X.A (execs st X.env) (SP X pins D) X.xe s
theorem pe_W {X : Cx} {e : Expr} : PE X e (tW X e) := ⟨fun pins s _ _ _ I h => h pins s I⟩
theorem pt_W {X : Cx} {e : Expr} : PT X e (tWT X e) := ⟨fun pins s _ _ _ I h => h pins s I⟩
theorem pa_W {X : Cx} {es : List Expr} : PA X es (tWA X es) := ⟨fun pos pins s _ _ _ I h => h pos pins s I⟩
theorem ps_W {X : Cx} {st : Stmt} : PS X st (tWS X st) := ⟨fun pins s _ _ _ I h => h pins s I⟩
theorem pss_W {X : Cx} {st : List Stmt} : PSs X st (tWSs X st) := ⟨fun pins s _ _ _ I h => h pins s I⟩
theorem tW_of {X : Cx} {e : Expr} {t : TE} (p : PE X e t) {σ : L2.St} {H : Hp} {Q : VK} (h : t σ H Q) : tW X e σ H Q := fun pins s I => p.run pins s σ H Q I h
theorem tWT_of {X : Cx} {e : Expr} {t : TT} (p : PT X e t) {σ : L2.St} {H : Hp} {Q : Bool → Hp → Prop} (h : t σ H Q) : tWT X e σ H Q := fun pins s I => p.run pins s σ H Q I h
theorem tWA_of {X : Cx} {es : List Expr} {t : TA} (p : PA X es t) {σ : L2.St} {H : Hp} {Q : List V → Hp → Prop} (h : t σ H Q) : tWA X es σ H Q := fun pos pins s I => p.run pos pins s σ H Q I h
theorem tWS_of {X : Cx} {st : Stmt} {t : TS} (p : PS X st t) {σ : L2.St} {H : Hp} {D : Ends} (h : t D σ H) : tWS X st D σ H := fun pins s I => p.run pins s σ H D I h
theorem tWSs_of {X : Cx} {st : List Stmt} {t : TS} (p : PSs X st t) {σ : L2.St} {H : Hp} {D : Ends} (h : t D σ H) : tWSs X st D σ H := fun pins s I => p.run pins s σ H D I h

structure JE (X : Cx) (W : WX) (B : Bs) (e : Expr) (f : Env → Dr → Out E) : Prop where
  of ::
  go : ∀ (bs : Hp × Hp) (σ : L2.St) (H : Hp) (ρ : Env) (S : Dr) (Hf : Hp) (Q : VK), R B bs Hf ρ S σ H → EPost B W Hf σ H (erel B) (f ρ S) Q → tW X e σ H Q
/-- a test -/
structure JT (X : Cx) (W : WX) (B : Bs) (e : Expr) (f : Env → Dr → Out Bool) : Prop where
  of ::
  go : ∀ (bs : Hp × Hp) (σ : L2.St) (H : Hp) (ρ : Env) (S : Dr) (Hf : Hp) (Q : Bool → Hp → Prop), R B bs Hf ρ S σ H → EPost B W Hf σ H trel (f ρ S) Q → tWT X e σ H Q
def ArR (B : Bs) (Hf H : Hp) (v : V) (o : O) : Prop := match o with
  | .v d => Rep B.K B.dr Hf v d
  | .lt ds => ∃ a vs, v = .ref a ∧ H a = some (.lst vs) ∧ a ≠ B.dr ∧ a ≠ B.rs ∧ RepL B.K B.dr Hf vs ds
  | .ld kvs => ∃ a vs, v = .ref a ∧ Rd H a (.dK vs) ∧ a ≠ B.dr ∧ a ≠ B.rs ∧ RepK B.K B.dr Hf vs kvs
  | _ => False
def AsR (B : Bs) (Hf H : Hp) : List V → List O → Prop := Paired (ArR B Hf H)
abbrev arel (B : Bs) : Hp → List O → List V → Hp → Hp → Prop := fun _ os vs Hf' H' => AsR B Hf' H' vs os
/-- arguments -/
structure JA (X : Cx) (W : WX) (B : Bs) (es : List Expr) (f : Env → Dr → Out (List O)) : Prop where
  of ::
  go : ∀ (bs : Hp × Hp) (σ : L2.St) (H : Hp) (ρ : Env) (S : Dr) (Hf : Hp) (Q : List V → Hp → Prop), R B bs Hf ρ S σ H → EPost B W Hf σ H (arel B) (f ρ S) Q → tWA X es σ H Q

/-- what is new behind a step was new ahead of it -/
def Back (B : Bs) {α β : Type} (rel : Hp → α → β → Hp → Hp → Prop) : Prop :=
  ∀ (Hf H Hf' H' : Hp) (S' : Dr), Nx B Hf H Hf' H' → DrR B Hf' S' H' → ∀ e v Hf2 H2, rel H' e v Hf2 H2 → rel H e v Hf2 H2
theorem Nx.free {B : Bs} {Hf H Hf' H' : Hp} {S' : Dr} (n : Nx B Hf H Hf' H') (d : DrR B Hf' S' H') {a : Addr} (h : H' a = none) : H a = none := by
  cases e : H a with
  | none => rfl
  | some u =>
    by_cases e1 : a = B.dr
    · rw [e1, d.dr] at h; cases h
    by_cases e2 : a = B.rs
    · rw [e2, d.rs] at h; cases h
    rw [n.go a u e e1 e2] at h; cases h
theorem back_e {B : Bs} : Back B (erel B) := fun Hf H Hf' H' S' n d e v Hf2 H2 z => by
  cases e with
  | n ds => obtain ⟨a, vs, h1, h2, k1, k2, h3, h4, h5⟩ := z; exact ⟨a, vs, h1, h2, k1, k2, h3, h4, n.free d h5⟩
  | nd ds => obtain ⟨a, vs, h1, h2, k1, k2, h3, h4, h5⟩ := z; exact ⟨a, vs, h1, h2, k1, k2, h3, h4, n.free d h5⟩
  | _ => exact z
theorem back_t {B : Bs} : Back B trel := fun _ _ _ _ _ _ _ _ _ _ _ z => z
theorem back_a {B : Bs} : Back B (arel B) := fun _ _ _ _ _ _ _ _ _ _ _ z => z
section
variable {B : Bs} {bs : Hp × Hp} {W : WX} {Hs Hf Hf' H H' : Hp} {ρ : Env} {S S' : Dr} {σ : L2.St} {α β : Type} {rel : Hp → α → β → Hp → Hp → Prop} {o : Out α} {Q : β → Hp → Prop}
theorem EPost.mono {Q' : β → Hp → Prop} (h : EPost B W Hf σ H rel o Q) (k : ∀ v H', Q v H' → Q' v H') : EPost B W Hf σ H rel o Q' := by
  cases o with
  | ok e S' => exact fun v Hf' H' n d r => k _ _ (h v Hf' H' n d r)
  | exc C fs S' => exact h
  | stk => exact h
/-- behind a first step -/
theorem EPost.step (hb : Back B rel) (n : Nx B Hf H Hf' H') (d1 : DrR B Hf' S' H') (h : EPost B W Hf σ H rel o Q) : EPost B W Hf' σ H' rel o Q := by
  cases o with
  | ok e S' => exact fun v Hf2 H2 n2 d r => h v Hf2 H2 (n.trans n2) d (hb _ _ _ _ _ n d1 _ _ _ _ r)
  | exc C fs S' => exact fun d Hf2 H2 n2 z r => h d Hf2 H2 (n.trans n2) z r
  | stk => exact h
theorem ER.next (r : R B bs Hf ρ S σ H) (n : Nx B Hf H Hf' H') {v : V} {e : E} (s : ER B Hs Hf H v e) : ER B Hs Hf' H' v e := by
  have nf : ∀ {a u}, H a = some u → Hf a = none → Hf' a = none := fun {a u} h1 h3 => by
    cases e : Hf' a with
    | none => rfl
    | some u =>
      rcases n.fr a u e with q | q
      · rw [h3] at q; cases q
      · rw [h1] at q; cases q
  cases e with
  | v d => exact Rep.mono n.ex s
  | b ds =>
    obtain ⟨a, vs, rfl, h1, h2, h3, h4⟩ := s
    exact ⟨a, vs, rfl, n.go a _ h1 h2 h3, h2, h3, h4.mono n.ex⟩
  | bd ds =>
    obtain ⟨a, vs, rfl, h1, h2, h3, h4⟩ := s
    exact ⟨a, vs, rfl, n.go.rd h1 h2 h3, h2, h3, h4.mono n.ex⟩
  | n ds =>
    obtain ⟨a, vs, rfl, h1, k1, k2, h2, h3, h4⟩ := s
    exact ⟨a, vs, rfl, n.go a _ h1 k1 k2, k1, k2, h2.mono n.ex, nf h1 h3, h4⟩
  | nd ds =>
    obtain ⟨a, vs, rfl, h1, k1, k2, h2, h3, h4⟩ := s
    exact ⟨a, vs, rfl, n.go a _ h1 k1 k2, k1, k2, h2.mono n.ex, nf h1 h3, h4⟩
end

/-! ### argument lists without stars -/
def notStar : Expr → Bool
  | .Starred _ _ => false
  | _ => true
theorem star_c {e : Expr} {es : List Expr} {env : PySem.Env} (h : notStar e = true) : starEach (e :: es) env = (false, eval e env) :: starEach es env := by
  cases e <;> first | rfl | cases h
theorem star_0 {env : PySem.Env} : starEach [] env = [] := by rw [starEach]
theorem star_1 {e : Expr} {env : PySem.Env} (h : notStar e = true) : starEach [e] env = [(false, eval e env)] := by rw [star_c h, star_0]
theorem star_2 {e e' : Expr} {env : PySem.Env} (h : notStar e = true) (h' : notStar e' = true) : starEach [e, e'] env = [(false, eval e env), (false, eval e' env)] := by rw [star_c h, star_1 h']
theorem star_any {pos : Pos} {env : PySem.Env} : ∀ {es : List Expr}, es.all notStar = true → (backTo pos (starEach es env)).any (·.1) = false
  | [], _ => by rw [star_0]; rfl
  | e :: es, h => by
    rw [List.all_cons, Bool.and_eq_true] at h
    rw [star_c h.1]
    have ih := star_any (pos := pos) (env := env) h.2
    unfold backTo at ih ⊢
    rw [List.map_cons, List.any_cons]
    exact ih
end Dn

set_option Elab.async false
set_option linter.all false
set_option maxRecDepth 100000
set_option maxHeartbeats 4000000
namespace Dn
open PySem PySem.Spec PyProof.Rows L2

def Out.bind {α β : Type} (o : Out α) (k : α → Dr → Out β) : Out β := match o with
  | .ok a S => k a S
  | .exc C fs S => .exc C fs S
  | .stk => .stk
def Out.of {α : Type} (o : Option α) (S : Dr) : Out α := match o with
  | some a => .ok a S
  | none => .stk

section
variable {X : Cx} {W : WX} {B : Bs} {bs : Hp × Hp} {Hs Hf H : Hp} {ρ : Env} {S : Dr} {σ : L2.St} {α β : Type} {rel : Hp → α → β → Hp → Hp → Prop} {Q : β → Hp → Prop}
/-- an expression, then what is done with its value -/
theorem JE.bind {e : Expr} {fa : Env → Dr → Out E} {k : E → Dr → Out α} {P : VK} (ha : JE X W B e fa) (r : R B bs Hf ρ S σ H) (h : EPost B W Hf σ H rel ((fa ρ S).bind k) Q) (hb : Back B rel)
    (hk : ∀ e1 S1 v H1 Hf1, R B bs Hf1 ρ S1 σ H1 → Nx B Hf H Hf1 H1 → ER B H Hf1 H1 v e1 → EPost B W Hf1 σ H1 rel (k e1 S1) Q → P v H1) : tW X e σ H P := by
  refine ha.go bs σ H ρ S Hf P r ?_
  cases q : fa ρ S with
  | ok e1 S1 =>
    rw [q] at h
    exact fun v Hf1 H1 n d z => hk e1 S1 v H1 Hf1 (r.next n d) n z (EPost.step hb n d h)
  | exc C fs S1 => rw [q] at h; exact h
  | stk => rw [q] at h; exact h
theorem JT.bind {e : Expr} {fa : Env → Dr → Out Bool} {k : Bool → Dr → Out α} {P : Bool → Hp → Prop} (ha : JT X W B e fa) (r : R B bs Hf ρ S σ H) (h : EPost B W Hf σ H rel ((fa ρ S).bind k) Q) (hb : Back B rel)
    (hk : ∀ b S1 H1 Hf1, R B bs Hf1 ρ S1 σ H1 → Nx B Hf H Hf1 H1 → EPost B W Hf1 σ H1 rel (k b S1) Q → P b H1) : tWT X e σ H P := by
  refine ha.go bs σ H ρ S Hf P r ?_
  cases q : fa ρ S with
  | ok e1 S1 =>
    rw [q] at h
    refine fun v Hf1 H1 n d z => ?_
    subst z
    exact hk e1 S1 H1 Hf1 (r.next n d) n (EPost.step hb n d h)
  | exc C fs S1 => rw [q] at h; exact h
  | stk => rw [q] at h; exact h
theorem JA.bind {es : List Expr} {fa : Env → Dr → Out (List O)} {k : List O → Dr → Out α} {P : List V → Hp → Prop} (ha : JA X W B es fa) (r : R B bs Hf ρ S σ H) (h : EPost B W Hf σ H rel ((fa ρ S).bind k) Q) (hb : Back B rel)
    (hk : ∀ os S1 vs H1 Hf1, R B bs Hf1 ρ S1 σ H1 → Nx B Hf H Hf1 H1 → AsR B Hf1 H1 vs os → EPost B W Hf1 σ H1 rel (k os S1) Q → P vs H1) : tWA X es σ H P := by
  refine ha.go bs σ H ρ S Hf P r ?_
  cases q : fa ρ S with
  | ok e1 S1 =>
    rw [q] at h
    exact fun v Hf1 H1 n d z => hk e1 S1 v H1 Hf1 (r.next n d) n z (EPost.step hb n d h)
  | exc C fs S1 => rw [q] at h; exact h
  | stk => rw [q] at h; exact h
theorem JE.mk {e : Expr} {t : TE} {f : Env → Dr → Out E} (p : PE X e t) (h : ∀ (bs : Hp × Hp) (σ : L2.St) (H : Hp) (ρ : Env) (S : Dr) (Hf : Hp) (Q : VK), R B bs Hf ρ S σ H → EPost B W Hf σ H (erel B) (f ρ S) Q → t σ H Q) : JE X W B e f :=
  .of fun bs σ H ρ S Hf Q r q => tW_of p (h bs σ H ρ S Hf Q r q)
theorem JT.mk {e : Expr} {t : TT} {f : Env → Dr → Out Bool} (p : PT X e t) (h : ∀ (bs : Hp × Hp) (σ : L2.St) (H : Hp) (ρ : Env) (S : Dr) (Hf : Hp) (Q : Bool → Hp → Prop), R B bs Hf ρ S σ H → EPost B W Hf σ H trel (f ρ S) Q → t σ H Q) : JT X W B e f :=
  .of fun bs σ H ρ S Hf Q r q => tWT_of p (h bs σ H ρ S Hf Q r q)
/-- an end without a change -/
theorem EPost.now {e : E} {v : V} {Q : VK} (r : R B bs Hf ρ S σ H) (h : EPost B W Hf σ H (erel B) (.ok e S) Q) (z : ER B H Hf H v e) : Q v H := h v Hf H r.nx0 r.drw z
theorem EPost.nowT {b : Bool} {Q : Bool → Hp → Prop} (r : R B bs Hf ρ S σ H) (h : EPost B W Hf σ H trel (.ok b S) Q) : Q b H := h b Hf H r.nx0 r.drw rfl
end

/-! ### names and constants -/
def readO : O → Option E
  | .v d => some (.v d)
  | .l ds => some (.b ds)
  | .lt ds => some (.b ds)
  | .d k => some (.bd k)
  | .ld k => some (.bd k)
  | .x _ _ => none
  | .ob _ _ => none
def fVar (i : Nat) : Env → Dr → Out E := fun ρ S => match ρ[i]? with
  | some (some o) => Out.of (readO o) S
  | _ => .stk
def fC (d : D) : Env → Dr → Out E := fun _ S => .ok (.v d) S
section
variable {X : Cx} {W : WX} {B : Bs} {bs : Hp × Hp} {Hs Hf H : Hp} {ρ : Env} {S : Dr} {σ : L2.St}
theorem R.ne0 (r : R B bs Hf ρ S σ H) : ∀ a, bs.2 a = none → a ≠ B.dr ∧ a ≠ B.rs := fun a h => by
    obtain ⟨⟨o1, h1⟩, o2, h2⟩ := r.h0
    constructor
    · intro e; rw [e, h1] at h; cases h
    · intro e; rw [e, h2] at h; cases h
theorem readO_ok (r : R B bs Hf ρ S σ H) {v : V} {o : O} {e : E} (s : SlR B bs Hf H v o) (q : readO o = some e) : ER B H Hf H v e := by
  cases o with
  | v d => cases q; exact s
  | l ds => cases q; obtain ⟨a, vs, rfl, h1, h2, h3, h4⟩ := s; exact ⟨a, vs, rfl, h1, (r.ne0 a h4).1, (r.ne0 a h4).2, h2⟩
  | d ds => cases q; obtain ⟨a, vs, rfl, h1, h2, h3, h4⟩ := s; exact ⟨a, vs, rfl, .inl h1, (r.ne0 a h4).1, (r.ne0 a h4).2, h2⟩
  | lt ds => cases q; obtain ⟨a, vs, rfl, h1, h2, h3, h4⟩ := s; exact ⟨a, vs, rfl, r.go a _ h1 h2 h3, h2, h3, h4⟩
  | ld ds => cases q; obtain ⟨a, vs, rfl, h1, h2, h3, h4⟩ := s; exact ⟨a, vs, rfl, r.go.rd h1 h2 h3, h2, h3, h4⟩
  | x C fs => cases q
  | ob C fs => cases q
theorem je_var (i : Nat) {x : Str} {pos : Pos} (hN : X.N[i]? = some x := by rfl) (hv : Vis X.env.scope x := by first | exact Or.inl rfl | exact Or.inr (Or.inl rfl) | exact Or.inr (Or.inr rfl)) (hd : (x == ("__debug__" : Str)) = false := by decide)
    (hcd : (x == ("__classdict__" : Str)) = false := by decide) : JE X W B (.Name x pos) (fVar i) := JE.mk (pe_var hN hv hd hcd) fun bs σ H ρ S Hf Q r h => by
  unfold fVar at h
  split at h
  · rename_i o e
    obtain ⟨v, e2, s⟩ := r.sl i o e
    cases q : readO o with
    | none => rw [q] at h; exact h.elim
    | some e' => rw [q] at h; exact ⟨v, e2, EPost.now r h (readO_ok r s q)⟩
  · exact h.elim
theorem je_int {i j pos} : JE X W B (.Constant (.int i) j pos) (fC (.int i)) := JE.mk pe_int fun bs σ H ρ S Hf Q r h => EPost.now r h (Rep.int i)
theorem je_bl {i j pos} : JE X W B (.Constant (.bool i) j pos) (fC (.bl i)) := JE.mk pe_bl fun bs σ H ρ S Hf Q r h => EPost.now r h (Rep.bl i)
theorem je_non {j pos} : JE X W B (.Constant .none j pos) (fC .non) := JE.mk pe_non fun bs σ H ρ S Hf Q r h => EPost.now r h Rep.non
theorem je_str {x j pos} : JE X W B (.Constant (.str x) j pos) (fC (.str x)) := JE.mk pe_str fun bs σ H ρ S Hf Q r h => EPost.now r h (Rep.str x)
/-- a module's int -/
theorem je_globI {x : Str} {i : Int} {t : Tok} {pos : Pos} (hm : X.mg x = some (.int i t)) (hg : Gl X x := by rfl) (hd : (x == ("__debug__" : Str)) = false := by decide) : JE X W B (.Name x pos) (fC (.int i)) :=
  JE.mk (pe_glob (v := .int i) hg hm ⟨_, rfl⟩ hd) fun bs σ H ρ S Hf Q r h => EPost.now r h (Rep.int i)
theorem je_globS {x : Str} {i : Str} {t : Tok} {pos : Pos} (hm : X.mg x = some (.str i t)) (hg : Gl X x := by rfl) (hd : (x == ("__debug__" : Str)) = false := by decide) : JE X W B (.Name x pos) (fC (.str i)) :=
  JE.mk (pe_glob (v := .str i) hg hm ⟨_, rfl⟩ hd) fun bs σ H ρ S Hf Q r h => EPost.now r h (Rep.str i)
theorem je_globR {x : Str} {a : Addr} {pos : Pos} (hm : X.mg x = some (.ref a)) (hg : Gl X x := by rfl) (hd : (x == ("__debug__" : Str)) = false := by decide) : JE X W B (.Name x pos) (fC (.ref a)) :=
  JE.mk (pe_glob (v := .ref a) hg hm rfl hd) fun bs σ H ρ S Hf Q r h => EPost.now r h (Rep.ref a)
theorem je_ty {x : Str} {n : String} {pos : Pos} (hm : X.mg x = none) (hv : bootBuiltins x = some (.type n)) (hg : Gl X x := by rfl) (hn : x ≠ "__name__" := by decide) (hd : (x == ("__debug__" : Str)) = false := by decide) : JE X W B (.Name x pos) (fC (.ty n)) :=
  JE.mk (pe_bltn (v := .ty n) hg hm hv rfl hn hd) fun bs σ H ρ S Hf Q r h => EPost.now r h (Rep.ty n)
end

/-! ### lists and dicts behind what an expression gives -/
def E.ls : E → Option (List D)
  | .v (.lst ds) => some ds
  | .b ds => some ds
  | .n ds => some ds
  | _ => none
def E.kd : E → Option (List (Key × D))
  | .v (.dct ds) => some ds
  | .bd ds => some ds
  | .nd ds => some ds
  | _ => none
section
variable {X : Cx} {W : WX} {B : Bs} {bs : Hp × Hp} {Hs Hf H : Hp} {ρ : Env} {S : Dr} {σ : L2.St}
theorem ER.ls (r : R B bs Hf ρ S σ H) {v : V} {e : E} {ds : List D} (h : ER B Hs Hf H v e) (q : e.ls = some ds) : ∃ a vs, v = .ref a ∧ H a = some (.lst vs) ∧ RepL B.K B.dr Hf vs ds := by
  cases e with
  | v d =>
    cases d <;> simp [E.ls] at q
    subst q
    cases h with
    | lst h1 h2 => exact ⟨_, _, rfl, r.ex _ _ h1, h2⟩
  | b ds => simp [E.ls] at q; subst q; obtain ⟨a, vs, h1, h2, _, _, h3⟩ := h; exact ⟨a, vs, h1, h2, h3⟩
  | n ds => simp [E.ls] at q; subst q; obtain ⟨a, vs, h1, h2, _, _, h3, _⟩ := h; exact ⟨a, vs, h1, h2, h3⟩
  | _ => cases q
theorem ER.kd (r : R B bs Hf ρ S σ H) {v : V} {e : E} {ds : List (Key × D)} (h : ER B Hs Hf H v e) (q : e.kd = some ds) : ∃ a vs, v = .ref a ∧ Rd H a (.dK vs) ∧ RepK B.K B.dr Hf vs ds := by
  cases e with
  | v d =>
    cases d <;> simp [E.kd] at q
    subst q
    cases h with
    | dct h1 h2 => exact ⟨_, _, rfl, ex_rd r.ex h1, h2⟩
  | bd ds => simp [E.kd] at q; subst q; obtain ⟨a, vs, h1, h2, _, _, h3⟩ := h; exact ⟨a, vs, h1, h2, h3⟩
  | nd ds => simp [E.kd] at q; subst q; obtain ⟨a, vs, h1, h2, _, _, h3, _⟩ := h; exact ⟨a, vs, h1, .inl h2, h3⟩
  | _ => cases q
theorem rep_tup {K : PySem.W.Frag} {dr : Addr} (e : Ex Hf H) {v : V} {ds : List D} (h : Rep K dr Hf v (.tup ds)) : ∃ a vs, v = .ref a ∧ SqT K H a vs ∧ RepL K dr Hf vs ds := by
  cases h with
  | tup h1 h2 => exact ⟨_, _, rfl, ex_t e h1, h2⟩

/-! ### what is put into something that stays: a new list is frozen -/
def per : E → Option D
  | .v d => some d
  | .n ds => some (.lst ds)
  | .nd ds => some (.dct ds)
  | _ => none
theorem per_ok {Hf1 H1 : Hp} {S1 : Dr} (r1 : R B bs Hf1 ρ S1 σ H1) (n : Nx B Hf H Hf1 H1) {v : V} {e : E} {d : D} (h : ER B H Hf1 H1 v e) (q : per e = some d) :
    ∃ Hf2, Nx B Hf H Hf2 H1 ∧ Ex Hf1 Hf2 ∧ DrR B Hf2 S1 H1 ∧ Rep B.K B.dr Hf2 v d := by
  have fin : ∀ {a : Addr} {u : HO}, H1 a = some u → a ≠ B.dr → a ≠ B.rs → Hf1 a = none → H a = none → Nx B Hf H (upd Hf1 a u) H1 ∧ Ex Hf1 (upd Hf1 a u) ∧ DrR B (upd Hf1 a u) S1 H1 := fun {a u} h1 k1 k2 h3 h4 => by
    refine ⟨⟨n.ex.trans (Ex.new h3), fun b o e => ?_, fun b o e => ?_, n.go, by rw [upd_ne (Ne.symm k1)]; exact n.nd.1, by rw [upd_ne (Ne.symm k2)]; exact n.nd.2⟩, Ex.new h3, ⟨r1.drw.dr, Ex.new h3 _ _ r1.drw.cl, r1.drw.rs, r1.drw.ne⟩⟩
    · by_cases q : b = a
      · subst q; rw [upd_same] at e; rw [← e]; exact h1
      · rw [upd_ne q] at e; exact n.exf b o e
    · by_cases q : b = a
      · subst q; exact .inr h4
      · rw [upd_ne q] at e; exact n.fr b o e
  cases e with
  | v d' => simp [per] at q; subst q; exact ⟨Hf1, n, Ex.refl _, r1.drw, h⟩
  | n ds =>
    simp [per] at q; subst q
    obtain ⟨a, vs, rfl, h1, k1, k2, h2, h3, h4⟩ := h
    obtain ⟨x, y, z⟩ := fin h1 k1 k2 h3 h4
    exact ⟨_, x, y, z, .lst upd_same (h2.mono y)⟩
  | nd ds =>
    simp [per] at q; subst q
    obtain ⟨a, vs, rfl, h1, k1, k2, h2, h3, h4⟩ := h
    obtain ⟨x, y, z⟩ := fin h1 k1 k2 h3 h4
    exact ⟨_, x, y, z, .dct (.inl upd_same) (h2.mono y)⟩
  | _ => cases q
end
end Dn

set_option Elab.async false
set_option linter.all false
set_option maxRecDepth 100000
set_option maxHeartbeats 4000000
namespace Dn
open PySem PySem.Spec PyProof.Rows L2

/-! ### operators -/
theorem OpR.or {X : Cx} {f : Value → Value → Sem Value} {r r' : R2} (h : OpR X f r) (h' : OpR X f r') : OpR X f (fun x y H Q => r x y H Q ∨ r' x y H Q) := by
  intro pins s σ H x y v u Q I rx ry q
  rcases q with q | q
  · exact h pins s σ H x y v u Q I rx ry q
  · exact h' pins s σ H x y v u Q I rx ry q
/-- what is wanted behind a pure step that gives e -/
def VP (B : Bs) (S : Dr) (Hf H : Hp) (e : E) (Q : VK) : Prop := ∀ v Hf' H', Nx B Hf H Hf' H' → DrR B Hf' S H' → ER B H Hf' H' v e → Q v H'
/-- the operator's reading gives what g says -/
def OpJ (B : Bs) (r : R2) (g : E → E → Option E) : Prop :=
  ∀ (bs : Hp × Hp) (σ : L2.St) (H : Hp) (ρ : Env) (S : Dr) (Hf Hs1 Hs2 : Hp) (x y : V) (e1 e2 e : E) (Q : VK), R B bs Hf ρ S σ H → ER B Hs1 Hf H x e1 → ER B Hs2 Hf H y e2 → g e1 e2 = some e → VP B S Hf H e Q → r x y H Q
def fOp (g : E → E → Option E) (fa fb : Env → Dr → Out E) : Env → Dr → Out E := fun ρ S => (fa ρ S).bind fun x S1 => (fb ρ S1).bind fun y S2 => Out.of (g x y) S2
section
variable {X : Cx} {W : WX} {B : Bs} {bs : Hp × Hp} {Hs Hf H : Hp} {ρ : Env} {S : Dr} {σ : L2.St} {a b : Expr} {fa fb : Env → Dr → Out E} {pos : Pos} {r : R2} {g : E → E → Option E}
theorem VP.now {e : E} {v : V} {Q : VK} (r : R B bs Hf ρ S σ H) (h : VP B S Hf H e Q) (z : ER B H Hf H v e) : Q v H := h v Hf H r.nx0 r.drw z
theorem op2 (hj : OpJ B r g) (ha : JE X W B a fa) (hb : JE X W B b fb) {Q : VK} (R0 : R B bs Hf ρ S σ H) (h : EPost B W Hf σ H (erel B) (fOp g fa fb ρ S) Q) : tOp r (tW X a) (tW X b) σ H Q := by
  show tW X a σ H (fun x H1 => tW X b σ H1 (fun y H2 => r x y H2 Q))
  refine ha.bind R0 h back_e fun e1 S1 v H1 Hf1 r1 n1 z1 h1 => ?_
  refine hb.bind r1 h1 back_e fun e2 S2 v2 H2 Hf2 r2 n2 z2 h2 => ?_
  cases q : g e1 e2 with
  | none => rw [q] at h2; exact h2.elim
  | some e =>
    rw [q] at h2
    exact hj _ _ _ _ _ _ _ _ _ _ _ _ _ _ r2 (z1.next r1 n2) z2 q fun v Hf' H' n d z => h2 v Hf' H' n d z
theorem je_op {op : Operator} (ho : OpR X (binaryOp op) r) (hj : OpJ B r g) (ha : JE X W B a fa) (hb : JE X W B b fb) : JE X W B (.BinOp a op b pos) (fOp g fa fb) :=
  JE.mk (pe_op ho pe_W pe_W) fun bs σ H ρ S Hf Q R0 h => op2 hj ha hb R0 h
theorem je_cmp {op : CmpOp} (ho : OpR X (compareOp op) r) (hj : OpJ B r g) (ha : JE X W B a fa) (hb : JE X W B b fb) (hm : behindInMarks op b = false := by first | exact nomark _ | rfl | (with_unfolding_all rfl)) : JE X W B (.Compare a [op] [b] pos) (fOp g fa fb) :=
  JE.mk (pe_cmpR ho pe_W pe_W hm) fun bs σ H ρ S Hf Q R0 h => op2 hj ha hb R0 h
/-- a bool that an expression gives, as a test -/
def E.bl? : E → Option Bool
  | .v (.bl b) => some b
  | _ => none
theorem ER.bl {v : V} {e : E} {b : Bool} (h : ER B Hs Hf H v e) (q : e.bl? = some b) : v = .bl b := by
  cases e with
  | v d =>
    cases d <;> simp [E.bl?] at q
    subst q
    cases h
    rfl
  | _ => cases q
def fTst (f : Env → Dr → Out E) : Env → Dr → Out Bool := fun ρ S => (f ρ S).bind fun e S1 => Out.of e.bl? S1
theorem tstB (ha : JE X W B a fa) {Q : Bool → Hp → Prop} (R0 : R B bs Hf ρ S σ H) (h : EPost B W Hf σ H trel (fTst fa ρ S) Q) : tW X a σ H (fun x H1 => ∃ c, x = .bl c ∧ Q c H1) := by
  refine ha.bind R0 h back_t fun e1 S1 v H1 Hf1 r1 n1 z1 h1 => ?_
  cases q : e1.bl? with
  | none => rw [q] at h1; exact h1.elim
  | some b =>
    rw [q] at h1
    exact ⟨b, z1.bl q, EPost.nowT r1 h1⟩
theorem jt_val (ha : JE X W B a fa) (he : ∀ whole, isTrue a X.env whole = (do let v ← whole; standAt a.pos; holding [v] (truthy v)) := by intro _; rfl) : JT X W B a (fTst fa) :=
  JT.mk (pt_val pe_W he) fun bs σ H ρ S Hf Q R0 h => tstB ha R0 h
theorem jt_cmp {op : CmpOp} (ho : OpR X (compareOp op) r) (hj : OpJ B r g) (ha : JE X W B a fa) (hb : JE X W B b fb) (hm : behindInMarks op b = false := by first | exact nomark _ | rfl | (with_unfolding_all rfl)) : JT X W B (.Compare a [op] [b] pos) (fTst (fOp g fa fb)) :=
  JT.mk (pt_cmpR ho pe_W pe_W hm) fun bs σ H ρ S Hf Q R0 h => by
    show tW X a σ H (fun x H1 => tW X b σ H1 (fun y H2 => r x y H2 (fun x H' => ∃ k, x = .bl k ∧ Q k H')))
    refine ha.bind (k := fun x S1 => ((fb ρ S1).bind fun y S2 => Out.of (g x y) S2).bind fun e S1 => Out.of e.bl? S1) (Q := Q) R0 (by
      unfold fTst fOp at h
      cases q : fa ρ S with
      | ok e1 S1 => rw [q] at h; exact h
      | exc C fs S1 => rw [q] at h; exact h
      | stk => rw [q] at h; exact h) back_t fun e1 S1 v H1 Hf1 r1 n1 z1 h1 => ?_
    refine hb.bind (k := fun y S2 => (Out.of (g e1 y) S2).bind fun e S1 => Out.of e.bl? S1) (Q := Q) r1 (by
      cases q : fb ρ S1 with
      | ok e2 S2 => rw [q] at h1; exact h1
      | exc C fs S2 => rw [q] at h1; exact h1
      | stk => rw [q] at h1; exact h1) back_t fun e2 S2 v2 H2 Hf2 r2 n2 z2 h2 => ?_
    cases q : g e1 e2 with
    | none => rw [q] at h2; exact h2.elim
    | some e =>
      rw [q] at h2
      refine hj _ _ _ _ _ _ _ _ _ _ _ _ _ _ r2 (z1.next r1 n2) z2 q fun v Hf' H' n d z => ?_
      have h3 : EPost B W Hf2 σ H2 trel (Out.of e.bl? S2) Q := h2
      cases q2 : e.bl? with
      | none => rw [q2] at h3; exact h3.elim
      | some c =>
        rw [q2] at h3
        exact ⟨c, z.bl q2, h3 c Hf' H' n d rfl⟩
end

/-! ### and, or, not, if -/
def fAnd (fa fb : Env → Dr → Out Bool) : Env → Dr → Out Bool := fun ρ S => (fa ρ S).bind fun c S1 => if c = true then fb ρ S1 else .ok false S1
def fOr (fa fb : Env → Dr → Out Bool) : Env → Dr → Out Bool := fun ρ S => (fa ρ S).bind fun c S1 => if c = true then .ok true S1 else fb ρ S1
def fNot (fa : Env → Dr → Out Bool) : Env → Dr → Out Bool := fun ρ S => (fa ρ S).bind fun c S1 => .ok (!c) S1
def fAndV (fa fb : Env → Dr → Out E) : Env → Dr → Out E := fun ρ S => (fTst fa ρ S).bind fun c S1 => if c = true then fb ρ S1 else .ok (.v (.bl false)) S1
def fOrV (fa fb : Env → Dr → Out E) : Env → Dr → Out E := fun ρ S => (fTst fa ρ S).bind fun c S1 => if c = true then .ok (.v (.bl true)) S1 else fb ρ S1
def fNotV (fa : Env → Dr → Out E) : Env → Dr → Out E := fun ρ S => (fTst fa ρ S).bind fun c S1 => .ok (.v (.bl !c)) S1
def fIf (fc : Env → Dr → Out Bool) (fa fb : Env → Dr → Out E) : Env → Dr → Out E := fun ρ S => (fc ρ S).bind fun c S1 => if c = true then fa ρ S1 else fb ρ S1
/-- a chain of tests, whatever its whole -/
structure JW (X : Cx) (W : WX) (B : Bs) (e : Expr) (f : Env → Dr → Out Bool) : Prop where
  of ::
  go : ∀ (bs : Hp × Hp) (σ : L2.St) (H : Hp) (ρ : Env) (S : Dr) (Hf : Hp) (Q : Bool → Hp → Prop), R B bs Hf ρ S σ H → EPost B W Hf σ H trel (f ρ S) Q →
    ∀ (whole : Sem Value) (pins : List (Addr × Obj)) (s : Shared), Inv X pins σ H s → wpAny (model X.prog X.w) X.A (isTrue e X.env whole) (TP X pins σ Q) X.xe s
def tWW (X : Cx) (e : Expr) : TT := fun σ H Q => ∀ (whole : Sem Value) (pins : List (Addr × Obj)) (s : Shared), Inv X pins σ H s → wpAny (model X.prog X.w) X.A (isTrue e X.env whole) (TP X pins σ Q) X.xe s
theorem pw_W {X : Cx} {e : Expr} : PW X e (tWW X e) := ⟨fun wh pins s _ _ _ I h => h wh pins s I⟩
section
variable {X : Cx} {W : WX} {B : Bs} {bs : Hp × Hp} {Hs Hf H : Hp} {ρ : Env} {S : Dr} {σ : L2.St} {a b c : Expr} {fa fb : Env → Dr → Out E} {ga gb gc : Env → Dr → Out Bool} {pos : Pos} {rest : List Expr}
theorem JW.mk {e : Expr} {t : TT} {f : Env → Dr → Out Bool} (p : PW X e t) (h : ∀ (bs : Hp × Hp) (σ : L2.St) (H : Hp) (ρ : Env) (S : Dr) (Hf : Hp) (Q : Bool → Hp → Prop), R B bs Hf ρ S σ H → EPost B W Hf σ H trel (f ρ S) Q → t σ H Q) : JW X W B e f :=
  .of fun bs σ H ρ S Hf Q r q wh pins s I => p.run wh pins s σ H Q I (h bs σ H ρ S Hf Q r q)
theorem JW.jt {e : Expr} {f : Env → Dr → Out Bool} (h : JW X W B e f) : JT X W B e f := .of fun bs σ H ρ S Hf Q r q pins s I => h.go bs σ H ρ S Hf Q r q _ pins s I
theorem jw_and1 (ha : JT X W B a ga) : JW X W B (.BoolOp .And [a] pos) ga := JW.mk (pw_and1 pt_W) fun bs σ H ρ S Hf Q r h => ha.go bs σ H ρ S Hf Q r h
theorem jw_or1 (ha : JT X W B a ga) : JW X W B (.BoolOp .Or [a] pos) ga := JW.mk (pw_or1 pt_W) fun bs σ H ρ S Hf Q r h => ha.go bs σ H ρ S Hf Q r h
theorem jw_and (ha : JT X W B a ga) (hb : JW X W B (.BoolOp .And (b :: rest) pos) gb) : JW X W B (.BoolOp .And (a :: b :: rest) pos) (fAnd ga gb) :=
  JW.mk (pw_and pt_W pw_W) fun bs σ H ρ S Hf Q r h => by
    show tWT X a σ H (fun c H1 => if c = true then tWW X _ σ H1 Q else Q false H1)
    refine ha.bind r h back_t fun c S1 H1 Hf1 r1 n1 h1 => ?_
    cases c with
    | true => exact iteT (hb.go bs σ H1 ρ S1 Hf1 Q r1 h1)
    | false => exact iteF (EPost.nowT r1 h1)
theorem jw_or (ha : JT X W B a ga) (hb : JW X W B (.BoolOp .Or (b :: rest) pos) gb) : JW X W B (.BoolOp .Or (a :: b :: rest) pos) (fOr ga gb) :=
  JW.mk (pw_or pt_W pw_W) fun bs σ H ρ S Hf Q r h => by
    show tWT X a σ H (fun c H1 => if c = true then Q true H1 else tWW X _ σ H1 Q)
    refine ha.bind r h back_t fun c S1 H1 Hf1 r1 n1 h1 => ?_
    cases c with
    | true => exact iteT (EPost.nowT r1 h1)
    | false => exact iteF (hb.go bs σ H1 ρ S1 Hf1 Q r1 h1)
theorem jt_not (ha : JT X W B a ga) : JT X W B (.UnaryOp .Not a pos) (fNot ga) := JT.mk (pt_not pt_W) fun bs σ H ρ S Hf Q r h => by
  show tWT X a σ H (fun c H1 => Q (!c) H1)
  exact ha.bind r h back_t fun c S1 H1 Hf1 r1 n1 h1 => EPost.nowT r1 h1
theorem je_one {op} (ha : JE X W B a fa) : JE X W B (.BoolOp op [a] pos) fa := JE.mk (pe_one pe_W) fun bs σ H ρ S Hf Q r h => ha.go bs σ H ρ S Hf Q r h
/-- fTst ahead of something else -/
theorem JE.bindT {α β : Type} {rel : Hp → α → β → Hp → Hp → Prop} {Q : β → Hp → Prop} {k : Bool → Dr → Out α} {P : VK} (ha : JE X W B a fa) (r : R B bs Hf ρ S σ H) (h : EPost B W Hf σ H rel ((fTst fa ρ S).bind k) Q) (hb : Back B rel)
    (hk : ∀ c S1 H1 Hf1, R B bs Hf1 ρ S1 σ H1 → Nx B Hf H Hf1 H1 → EPost B W Hf1 σ H1 rel (k c S1) Q → P (.bl c) H1) : tW X a σ H P := by
  refine ha.bind (k := fun e S1 => (Out.of e.bl? S1).bind k) (Q := Q) r (by
    unfold fTst at h
    cases q : fa ρ S with
    | ok e1 S1 => rw [q] at h; exact h
    | exc C fs S1 => rw [q] at h; exact h
    | stk => rw [q] at h; exact h) hb fun e1 S1 v H1 Hf1 r1 n1 z1 h1 => ?_
  cases q : e1.bl? with
  | none => rw [q] at h1; exact h1.elim
  | some c =>
    rw [q] at h1
    rw [z1.bl q]
    exact hk c S1 H1 Hf1 r1 n1 h1
theorem je_and (ha : JE X W B a fa) (hb : JE X W B (.BoolOp .And (b :: rest) pos) fb) : JE X W B (.BoolOp .And (a :: b :: rest) pos) (fAndV fa fb) := JE.mk (pe_and pe_W pe_W) fun bs σ H ρ S Hf Q r h => by
  show tW X a σ H fun x H1 => ∃ c, x = .bl c ∧ if c = true then tW X _ σ H1 Q else Q (.bl false) H1
  refine ha.bindT r h back_e fun c S1 H1 Hf1 r1 n1 h1 => ⟨c, rfl, ?_⟩
  cases c with
  | true => exact iteT (hb.go bs σ H1 ρ S1 Hf1 Q r1 h1)
  | false => exact iteF (EPost.now r1 h1 (Rep.bl false))
theorem je_or (ha : JE X W B a fa) (hb : JE X W B (.BoolOp .Or (b :: rest) pos) fb) : JE X W B (.BoolOp .Or (a :: b :: rest) pos) (fOrV fa fb) := JE.mk (pe_or pe_W pe_W) fun bs σ H ρ S Hf Q r h => by
  show tW X a σ H fun x H1 => ∃ c, x = .bl c ∧ if c = true then Q (.bl true) H1 else tW X _ σ H1 Q
  refine ha.bindT r h back_e fun c S1 H1 Hf1 r1 n1 h1 => ⟨c, rfl, ?_⟩
  cases c with
  | true => exact iteT (EPost.now r1 h1 (Rep.bl true))
  | false => exact iteF (hb.go bs σ H1 ρ S1 Hf1 Q r1 h1)
theorem je_not (ha : JE X W B a fa) : JE X W B (.UnaryOp .Not a pos) (fNotV fa) := JE.mk (pe_not pe_W) fun bs σ H ρ S Hf Q r h => by
  show tW X a σ H fun x H1 => ∃ c, x = .bl c ∧ Q (.bl (!c)) H1
  exact ha.bindT r h back_e fun c S1 H1 Hf1 r1 n1 h1 => ⟨c, rfl, EPost.now r1 h1 (Rep.bl _)⟩
theorem je_ifExp (hc : JT X W B c gc) (ha : JE X W B a fa) (hb : JE X W B b fb) : JE X W B (.IfExp c a b pos) (fIf gc fa fb) := JE.mk (pe_ifExp pt_W pe_W pe_W) fun bs σ H ρ S Hf Q r h => by
  show tWT X c σ H fun d H1 => if d = true then tW X a σ H1 Q else tW X b σ H1 Q
  refine hc.bind r h back_e fun d S1 H1 Hf1 r1 n1 h1 => ?_
  cases d with
  | true => exact iteT (ha.go bs σ H1 ρ S1 Hf1 Q r1 h1)
  | false => exact iteF (hb.go bs σ H1 ρ S1 Hf1 Q r1 h1)
end

/-! ### the operators' functions -/
def gInt (p : Int → Int → Option D) : E → E → Option E
  | .v (.int i), .v (.int j) => (p i j).map .v
  | _, _ => none
section
variable {X : Cx} {W : WX} {B : Bs} {bs : Hp × Hp} {Hs Hf H : Hp} {ρ : Env} {S : Dr} {σ : L2.St}
theorem ER.v_ok {v : V} {d : D} (h : ER B Hs Hf H v (.v d)) : Rep B.K B.dr Hf v d := h
theorem gInt_inv {p : Int → Int → Option D} {e1 e2 e : E} (h : gInt p e1 e2 = some e) : ∃ i j d, e1 = .v (.int i) ∧ e2 = .v (.int j) ∧ p i j = some d ∧ e = .v d := by
  unfold gInt at h
  split at h
  · rename_i i j
    cases q : p i j with
    | none => rw [q] at h; cases h
    | some d => rw [q] at h; cases h; exact ⟨i, j, d, rfl, rfl, q, rfl⟩
  · cases h
/-- an operator on ints whose answer is g under C -/
theorem opJ_I {C : Int → Int → Prop} [∀ i j, Decidable (C i j)] {g : Int → Int → V} {gd : Int → Int → D} (hg : ∀ (K : PySem.W.Frag) (dr : Addr) (H : Hp) (i j : Int), Rep K dr H (g i j) (gd i j)) : OpJ B (rI C g) (gInt fun i j => if C i j then some (gd i j) else none) :=
  fun bs σ H ρ S Hf Hs1 Hs2 x y e1 e2 e Q r h1 h2 q k => by
    obtain ⟨i, j, d, rfl, rfl, q2, rfl⟩ := gInt_inv q
    split at q2
    · rename_i hc
      cases q2
      cases h1.v_ok
      cases h2.v_ok
      exact ⟨i, j, rfl, rfl, hc, VP.now r k (hg _ _ _ i j)⟩
    · cases q2
theorem opJ_I0 {g : Int → Int → V} {gd : Int → Int → D} (hg : ∀ (K : PySem.W.Frag) (dr : Addr) (H : Hp) (i j : Int), Rep K dr H (g i j) (gd i j)) : OpJ B (rI0 g) (gInt fun i j => some (gd i j)) :=
  fun bs σ H ρ S Hf Hs1 Hs2 x y e1 e2 e Q r h1 h2 q k => by
    obtain ⟨i, j, d, rfl, rfl, q2, rfl⟩ := gInt_inv q
    cases q2
    cases h1.v_ok
    cases h2.v_ok
    exact ⟨i, j, rfl, rfl, VP.now r k (hg _ _ _ i j)⟩
theorem OpJ.or {r r' : R2} {g g' : E → E → Option E} (h : OpJ B r g) (h' : OpJ B r' g') : OpJ B (fun x y H Q => r x y H Q ∨ r' x y H Q) (fun x y => match g x y with
    | some e => some e
    | none => g' x y) := fun bs σ H ρ S Hf Hs1 Hs2 x y e1 e2 e Q R h1 h2 q k => by
  change (match g e1 e2 with | some e => some e | none => g' e1 e2) = some e at q
  show r x y H Q ∨ r' x y H Q
  split at q
  · rename_i e' q'
    cases q
    exact .inl (h bs σ H ρ S Hf Hs1 Hs2 x y e1 e2 _ Q R h1 h2 q' k)
  · exact .inr (h' bs σ H ρ S Hf Hs1 Hs2 x y e1 e2 e Q R h1 h2 q k)
instance (i j : Int) : Decidable (CMul i j) := by unfold CMul; infer_instance
instance (i j : Int) : Decidable (CDivN i j) := by unfold CDivN; infer_instance
instance (i j : Int) : Decidable (CPow i j) := by unfold CPow; infer_instance
def gSub : E → E → Option E := gInt fun i j => some (.int (i - j))
def gMulI : E → E → Option E := gInt fun i j => if CMul i j then some (.int (i * j)) else none
def gFdiv : E → E → Option E := gInt fun i j => if CDivN i j then some (.int (i.fdiv j)) else none
def gMod : E → E → Option E := gInt fun i j => if j ≠ 0 then some (.int (i.fmod j)) else none
def gPow : E → E → Option E := gInt fun i j => if CPow i j then some (.int (i ^ j.toNat)) else none
def gLt : E → E → Option E := gInt fun i j => some (.bl (decide (i < j)))
def gLe : E → E → Option E := gInt fun i j => some (.bl (decide (i ≤ j)))
def gGt : E → E → Option E := gInt fun i j => some (.bl (decide (j < i)))
def gGe : E → E → Option E := gInt fun i j => some (.bl (decide (j ≤ i)))
theorem oj_sub : OpJ B (rI0 fun i j => V.int (i - j)) gSub := opJ_I0 fun _ _ _ i j => .int _
theorem oj_mulI : OpJ B (rI CMul fun i j => V.int (i * j)) gMulI := opJ_I fun _ _ _ i j => .int _
theorem oj_fdiv : OpJ B (rI CDivN fun i j => V.int (i.fdiv j)) gFdiv := opJ_I fun _ _ _ i j => .int _
theorem oj_mod : OpJ B (rI (fun _ j => j ≠ 0) fun i j => V.int (i.fmod j)) gMod := opJ_I fun _ _ _ i j => .int _
theorem oj_pow : OpJ B (rI CPow fun i j => V.int (i ^ j.toNat)) gPow := opJ_I fun _ _ _ i j => .int _
theorem oj_lt : OpJ B (rI0 fun i j => V.bl (decide (i < j))) gLt := opJ_I0 fun _ _ _ i j => .bl _
theorem oj_le : OpJ B (rI0 fun i j => V.bl (decide (i ≤ j))) gLe := opJ_I0 fun _ _ _ i j => .bl _
theorem oj_gt : OpJ B (rI0 fun i j => V.bl (decide (j < i))) gGt := opJ_I0 fun _ _ _ i j => .bl _
theorem oj_ge : OpJ B (rI0 fun i j => V.bl (decide (j ≤ i))) gGe := opJ_I0 fun _ _ _ i j => .bl _

/-- + : ints, texts, tuples, lists -/
def gAddS : E → E → Option E
  | .v (.str a), .v (.str b) => if a.length + b.length ≤ sizeLine then some (.v (.str (a ++ b))) else none
  | _, _ => none
def gAddT : E → E → Option E
  | .v (.tup a), .v (.tup b) => if a.length + b.length ≤ sizeLine then some (.v (.tup (a ++ b))) else none
  | _, _ => none
def gAddL : E → E → Option E := fun x y => match x.ls, y.ls with
  | some a, some b => if a.length + b.length ≤ sizeLine then some (.n (a ++ b)) else none
  | _, _ => none
def gAddI : E → E → Option E := gInt fun i j => some (.int (i + j))
theorem oj_addI : OpJ B (rI0 fun i j => V.int (i + j)) gAddI := opJ_I0 fun _ _ _ i j => .int _
theorem oj_addS : OpJ B (fun x y H Q => ∃ i j, x = .str i ∧ y = .str j ∧ i.length + j.length ≤ sizeLine ∧ Q (.str (i ++ j)) H) gAddS := fun bs σ H ρ S Hf Hs1 Hs2 x y e1 e2 e Q r h1 h2 q k => by
  unfold gAddS at q
  split at q
  · split at q
    · rename_i hc
      cases q
      cases h1.v_ok
      cases h2.v_ok
      exact ⟨_, _, rfl, rfl, hc, VP.now r k (Rep.str _)⟩
    · cases q
  · cases q
theorem oj_addT : OpJ B (rCatA B.K) gAddT := fun bs σ H ρ S Hf Hs1 Hs2 x y e1 e2 e Q r h1 h2 q k => by
  unfold gAddT at q
  split at q
  · split at q
    · rename_i hc
      cases q
      obtain ⟨a, vs, rfl, t1, l1⟩ := rep_tup (Ex.refl Hf) h1.v_ok
      obtain ⟨b, ws, rfl, t2, l2⟩ := rep_tup (Ex.refl Hf) h2.v_ok
      refine ⟨a, b, vs, ws, rfl, rfl, ex_t r.ex t1, ex_t r.ex t2, by rw [l1.length, l2.length]; exact hc, fun e => ?_, fun _ e => ?_, fun _ _ p hp => ?_⟩
      · subst e
        cases l1
        exact VP.now r k (Rep.tup t2 l2)
      · subst e
        cases l2
        rw [List.append_nil] at k
        exact VP.now r k (Rep.tup t1 l1)
      · have n := r.newF (o := .tup (vs ++ ws)) hp
        exact k _ _ _ n (r.drw.new hp n.ex) (Rep.tup (SqT.of upd_same) ((l1.append l2).mono n.ex))
    · cases q
  · cases q
/-- a new list is laid -/
theorem VP.newL (r : R B bs Hf ρ S σ H) {ds : List D} {vs : List V} {Q : VK} (k : VP B S Hf H (.n ds) Q) (l : RepL B.K B.dr Hf vs ds) {p : Addr} (hp : H p = none) : Q (.ref p) (upd H p (.lst vs)) := by
  obtain ⟨n1, n2⟩ := r.dr_ne hp
  exact k _ _ _ (r.new hp) (r.drw.new hp (Ex.refl _)) ⟨p, vs, rfl, upd_same, n1, n2, l, r.freeH hp, hp⟩
theorem VP.newT (r : R B bs Hf ρ S σ H) {ds : List D} {vs : List V} {Q : VK} (k : VP B S Hf H (.v (.tup ds)) Q) (l : RepL B.K B.dr Hf vs ds) {p : Addr} (hp : H p = none) : Q (.ref p) (upd H p (.tup vs)) := by
  have n := r.newF (o := .tup vs) hp
  exact k _ _ _ n (r.drw.new hp n.ex) (Rep.tup (SqT.of upd_same) (l.mono n.ex))
theorem oj_addL : OpJ B rCat gAddL := fun bs σ H ρ S Hf Hs1 Hs2 x y e1 e2 e Q r h1 h2 q k => by
  unfold gAddL at q
  split at q
  · rename_i a b q1 q2
    split at q
    · rename_i hc
      cases q
      obtain ⟨l, vs, rfl, t1, l1⟩ := h1.ls r q1
      obtain ⟨m, ws, rfl, t2, l2⟩ := h2.ls r q2
      exact ⟨l, m, vs, ws, rfl, rfl, t1, t2, by rw [l1.length, l2.length]; exact hc, fun p hp => VP.newL r k (l1.append l2) hp⟩
    · cases q
  · cases q
def gAdd : E → E → Option E := fun x y => match gAddI x y with
  | some e => some e
  | none => match gAddS x y with
    | some e => some e
    | none => match gAddT x y with
      | some e => some e
      | none => gAddL x y
theorem je_add {a b : Expr} {fa fb : Env → Dr → Out E} {pos : Pos} (hK : X.K = B.K) (ha : JE X W B a fa) (hb : JE X W B b fb) : JE X W B (.BinOp a .Add b pos) (fOp gAdd fa fb) :=
  je_op (OpR.or op_add (OpR.or op_add_str (OpR.or op_catA op_cat))) (OpJ.or oj_addI (OpJ.or oj_addS (OpJ.or (hK ▸ oj_addT) oj_addL))) ha hb
/-- * : ints, a list and an int -/
def gMulL : E → E → Option E := fun x y => match x.ls, y with
  | some a, .v (.int k) => if -(2 ^ 63) ≤ k ∧ k < 2 ^ 63 ∧ a.length * k.toNat ≤ sizeLine then some (.n (List.replicate k.toNat a).flatten) else none
  | _, _ => none
theorem RepL.rep {K : PySem.W.Frag} {dr : Addr} {vs : List V} {ds : List D} (l : RepL K dr Hf vs ds) : ∀ n : Nat, RepL K dr Hf (List.replicate n vs).flatten (List.replicate n ds).flatten
  | 0 => .nil
  | n + 1 => by
    rw [List.replicate_succ, List.replicate_succ, List.flatten_cons, List.flatten_cons]
    exact l.append (RepL.rep l n)
theorem oj_mulL : OpJ B rRep gMulL := fun bs σ H ρ S Hf Hs1 Hs2 x y e1 e2 e Q r h1 h2 q k => by
  unfold gMulL at q
  split at q
  · rename_i a j q1
    split at q
    · rename_i hc
      cases q
      obtain ⟨l, vs, rfl, t1, l1⟩ := h1.ls r q1
      cases h2.v_ok
      exact ⟨l, _, vs, rfl, rfl, t1, hc.1, hc.2.1, by rw [l1.length]; exact hc.2.2, fun p hp => VP.newL r k (l1.rep _) hp⟩
    · cases q
  · cases q
def gMul : E → E → Option E := fun x y => match gMulI x y with
  | some e => some e
  | none => gMulL x y
theorem je_mul {a b : Expr} {fa fb : Env → Dr → Out E} {pos : Pos} (ha : JE X W B a fa) (hb : JE X W B b fb) : JE X W B (.BinOp a .Mult b pos) (fOp gMul fa fb) :=
  je_op (OpR.or op_mul op_rep) (OpJ.or oj_mulI oj_mulL) ha hb
theorem je_sub {a b : Expr} {fa fb : Env → Dr → Out E} {pos : Pos} (ha : JE X W B a fa) (hb : JE X W B b fb) : JE X W B (.BinOp a .Sub b pos) (fOp gSub fa fb) := je_op op_sub oj_sub ha hb
theorem je_fdiv {a b : Expr} {fa fb : Env → Dr → Out E} {pos : Pos} (ha : JE X W B a fa) (hb : JE X W B b fb) : JE X W B (.BinOp a .FloorDiv b pos) (fOp gFdiv fa fb) := je_op op_fdivN oj_fdiv ha hb
theorem je_mod {a b : Expr} {fa fb : Env → Dr → Out E} {pos : Pos} (ha : JE X W B a fa) (hb : JE X W B b fb) : JE X W B (.BinOp a .Mod b pos) (fOp gMod fa fb) := je_op op_modN oj_mod ha hb
theorem je_pow {a b : Expr} {fa fb : Env → Dr → Out E} {pos : Pos} (ha : JE X W B a fa) (hb : JE X W B b fb) : JE X W B (.BinOp a .Pow b pos) (fOp gPow fa fb) := je_op op_pow oj_pow ha hb

/-! ### equality of data -/
mutual
def toPy : D → Option PyData
  | .non => some .none
  | .bl b => some (.bool b)
  | .int i => some (.int i)
  | .str x => some (.str x)
  | .tup ds => (toPyL ds).map .tuple
  | .lst ds => (toPyL ds).map .list
  | _ => none
def toPyL : List D → Option (List PyData)
  | [] => some []
  | d :: ds => match toPy d, toPyL ds with
    | some p, some ps => some (p :: ps)
    | _, _ => none
end
mutual
theorem dp_of {K : PySem.W.Frag} {dr : Addr} : ∀ {d : D} {v : V} {p : PyData}, Rep K dr H v d → toPy d = some p → Dp K H v p
  | .non, _, _, .non, q => by simp [toPy] at q; subst q; exact .non
  | .bl b, _, _, .bl _, q => by simp [toPy] at q; subst q; exact .bl b
  | .int b, _, _, .int _, q => by simp [toPy] at q; subst q; exact .int b
  | .str b, _, _, .str _, q => by simp [toPy] at q; subst q; exact .str b
  | .tup ds, _, _, .tup h l, q => by
    simp [toPy] at q
    obtain ⟨ps, q, rfl⟩ := q
    exact .tup h (dpL_of l q)
  | .lst ds, _, _, .lst h l, q => by
    simp [toPy] at q
    obtain ⟨ps, q, rfl⟩ := q
    exact .lst (SqL.of h) (dpL_of l q)
  | .dct _, _, _, _, q => by simp [toPy] at q
  | .obj _ _, _, _, _, q => by simp [toPy] at q
  | .exn _ _, _, _, _, q => by simp [toPy] at q
  | .ref _, _, _, _, q => by simp [toPy] at q
  | .ty _, _, _, _, q => by simp [toPy] at q
  | .drw, _, _, _, q => by simp [toPy] at q
  | .scr _, _, _, _, q => by simp [toPy] at q
theorem dpL_of {K : PySem.W.Frag} {dr : Addr} : ∀ {ds : List D} {vs : List V} {ps : List PyData}, RepL K dr H vs ds → toPyL ds = some ps → DpAll K H vs ps
  | [], _, _, .nil, q => by simp [toPyL] at q; subst q; exact .nil
  | d :: ds, _, _, .cons h l, q => by
    simp [toPyL] at q
    split at q
    · rename_i p ps q1 q2
      simp at q
      subst q
      exact .cons (dp_of h q1) (dpL_of l q2)
    · cases q
end
def E.py : E → Option PyData
  | .v d => toPy d
  | .b ds => (toPyL ds).map .list
  | .n ds => (toPyL ds).map .list
  | _ => none
theorem E.dp (r : R B bs Hf ρ S σ H) {v : V} {e : E} {p : PyData} (h : ER B Hs Hf H v e) (q : e.py = some p) : Dp B.K H v p := by
  cases e with
  | v d => exact dp_of (h.v_ok.mono r.ex) q
  | b ds =>
    obtain ⟨a, vs, rfl, h1, _, _, l⟩ := h
    simp [E.py] at q
    obtain ⟨ps, q, rfl⟩ := q
    exact .lst (SqL.of h1) (dpL_of (l.mono r.ex) q)
  | n ds =>
    obtain ⟨a, vs, rfl, h1, _, _, l, _⟩ := h
    simp [E.py] at q
    obtain ⟨ps, q, rfl⟩ := q
    exact .lst (SqL.of h1) (dpL_of (l.mono r.ex) q)
  | _ => cases q
def gCmpD (f : PyData → PyData → Bool) : E → E → Option E := fun x y => match x.py, y.py with
  | some p, some q => if SeqAt.shaped p = true ∧ SeqAt.shaped q = true then some (.v (.bl (f p q))) else none
  | _, _ => none
def gEq : E → E → Option E := gCmpD PyData.eqv
def gNe : E → E → Option E := gCmpD fun p q => !PyData.eqv p q
theorem oj_eq : OpJ B (rEqD B.K) gEq := fun bs σ H ρ S Hf Hs1 Hs2 x y e1 e2 e Q r h1 h2 q k => by
  unfold gEq gCmpD at q
  split at q
  · rename_i p1 p2 q1 q2
    split at q
    · rename_i hc
      cases q
      exact ⟨_, _, E.dp r h1 q1, E.dp r h2 q2, hc.1, hc.2, VP.now r k (Rep.bl _)⟩
    · cases q
  · cases q
theorem oj_ne : OpJ B (rNeD B.K) gNe := fun bs σ H ρ S Hf Hs1 Hs2 x y e1 e2 e Q r h1 h2 q k => by
  unfold gNe gCmpD at q
  split at q
  · rename_i p1 p2 q1 q2
    split at q
    · rename_i hc
      cases q
      exact ⟨_, _, E.dp r h1 q1, E.dp r h2 q2, hc.1, hc.2, VP.now r k (Rep.bl _)⟩
    · cases q
  · cases q
/-- x is None, x is not None -/
def isNone : E → Bool
  | .v .non => true
  | _ => false
def gIsN : E → E → Option E := fun x y => match y with
  | .v .non => some (.v (.bl (isNone x)))
  | _ => none
def gNotN : E → E → Option E := fun x y => match y with
  | .v .non => some (.v (.bl (!isNone x)))
  | _ => none
theorem isNone_ok {v : V} {e : E} (h : ER B Hs Hf H v e) : decide (v = .non) = isNone e := by
  cases e with
  | v d =>
    cases d <;> cases h <;> simp [isNone]
  | b ds => obtain ⟨a, vs, rfl, _⟩ := h; simp [isNone]
  | n ds => obtain ⟨a, vs, rfl, _⟩ := h; simp [isNone]
  | bd ds => obtain ⟨a, vs, rfl, _⟩ := h; simp [isNone]
  | nd ds => obtain ⟨a, vs, rfl, _⟩ := h; simp [isNone]
theorem oj_isN : OpJ B (fun x y H Q => y = .non ∧ Q (.bl (decide (x = .non))) H) gIsN := fun bs σ H ρ S Hf Hs1 Hs2 x y e1 e2 e Q r h1 h2 q k => by
  unfold gIsN at q
  split at q
  · cases q
    cases h2.v_ok
    refine ⟨rfl, ?_⟩
    rw [isNone_ok h1]
    exact VP.now r k (Rep.bl _)
  · cases q
theorem oj_notN : OpJ B (fun x y H Q => y = .non ∧ Q (.bl (!decide (x = .non))) H) gNotN := fun bs σ H ρ S Hf Hs1 Hs2 x y e1 e2 e Q r h1 h2 q k => by
  unfold gNotN at q
  split at q
  · cases q
    cases h2.v_ok
    refine ⟨rfl, ?_⟩
    rw [isNone_ok h1]
    exact VP.now r k (Rep.bl _)
  · cases q
/-- x in a list -/
def gInL (neg : Bool) : E → E → Option E := fun x y => match x.py, y.py with
  | some p, some (.list qs) => if SeqAt.shaped p = true ∧ SeqAt.shaped (.list qs) = true then some (.v (.bl (if neg then !qs.any (fun z => PyData.eqv z p) else qs.any (fun z => PyData.eqv z p)))) else none
  | _, _ => none
theorem oj_inL : OpJ B (rInD B.K) (gInL false) := fun bs σ H ρ S Hf Hs1 Hs2 x y e1 e2 e Q r h1 h2 q k => by
  unfold gInL at q
  split at q
  · rename_i p1 p2 q1 q2
    split at q
    · rename_i hc
      cases q
      exact ⟨_, _, E.dp r h1 q1, E.dp r h2 q2, hc.1, hc.2, VP.now r k (Rep.bl _)⟩
    · cases q
  · cases q
theorem oj_notInL : OpJ B (rNotInD B.K) (gInL true) := fun bs σ H ρ S Hf Hs1 Hs2 x y e1 e2 e Q r h1 h2 q k => by
  unfold gInL at q
  split at q
  · rename_i p1 p2 q1 q2
    split at q
    · rename_i hc
      cases q
      exact ⟨_, _, E.dp r h1 q1, E.dp r h2 q2, hc.1, hc.2, VP.now r k (Rep.bl _)⟩
    · cases q
  · cases q
end
end Dn

set_option Elab.async false
set_option linter.all false
set_option maxRecDepth 100000
set_option maxHeartbeats 4000000
namespace Dn
open PySem PySem.Spec PyProof.Rows L2

/-! ### arguments -/
def toO : E → O
  | .v d => .v d
  | .n ds => .v (.lst ds)
  | .nd k => .v (.dct k)
  | .b ds => .lt ds
  | .bd k => .ld k
def aNil : Env → Dr → Out (List O) := fun _ S => .ok [] S
def aCons (fa : Env → Dr → Out E) (fr : Env → Dr → Out (List O)) : Env → Dr → Out (List O) := fun ρ S => (fa ρ S).bind fun e S1 => (fr ρ S1).bind fun os S2 => .ok (toO e :: os) S2
section
variable {X : Cx} {W : WX} {B : Bs} {bs : Hp × Hp} {Hs Hf H : Hp} {ρ : Env} {S : Dr} {σ : L2.St} {α β : Type} {rel : Hp → α → β → Hp → Hp → Prop} {Q : β → Hp → Prop} {e : Expr} {es : List Expr} {fa : Env → Dr → Out E} {fr : Env → Dr → Out (List O)}
/-- as JE.bind, the end told from the start -/
theorem JE.bind0 {k : E → Dr → Out α} {P : VK} (ha : JE X W B e fa) (r : R B bs Hf ρ S σ H) (h : EPost B W Hf σ H rel ((fa ρ S).bind k) Q)
    (hk : ∀ e1 S1 v H1 Hf1, R B bs Hf1 ρ S1 σ H1 → Nx B Hf H Hf1 H1 → ER B H Hf1 H1 v e1 → EPost B W Hf σ H rel (k e1 S1) Q → P v H1) : tW X e σ H P := by
  refine ha.go bs σ H ρ S Hf P r ?_
  cases q : fa ρ S with
  | ok e1 S1 =>
    rw [q] at h
    exact fun v Hf1 H1 n d z => hk e1 S1 v H1 Hf1 (r.next n d) n z h
  | exc C fs S1 => rw [q] at h; exact h
  | stk => rw [q] at h; exact h
theorem froz {Hf1 H1 : Hp} {S1 : Dr} (r1 : R B bs Hf1 ρ S1 σ H1) (n : Nx B Hf H Hf1 H1) {a : Addr} {u : HO} (h1 : H1 a = some u) (k1 : a ≠ B.dr) (k2 : a ≠ B.rs) (h3 : Hf1 a = none) (h4 : H a = none) :
    Nx B Hf H (upd Hf1 a u) H1 ∧ Ex Hf1 (upd Hf1 a u) ∧ DrR B (upd Hf1 a u) S1 H1 := by
  refine ⟨⟨n.ex.trans (Ex.new h3), fun b o e => ?_, fun b o e => ?_, n.go, by rw [upd_ne (Ne.symm k1)]; exact n.nd.1, by rw [upd_ne (Ne.symm k2)]; exact n.nd.2⟩, Ex.new h3, ⟨r1.drw.dr, Ex.new h3 _ _ r1.drw.cl, r1.drw.rs, r1.drw.ne⟩⟩
  · by_cases q : b = a
    · subst q; rw [upd_same] at e; rw [← e]; exact h1
    · rw [upd_ne q] at e; exact n.exf b o e
  · by_cases q : b = a
    · subst q; exact .inr h4
    · rw [upd_ne q] at e; exact n.fr b o e
theorem toO_ok {Hf1 H1 : Hp} {S1 : Dr} (r1 : R B bs Hf1 ρ S1 σ H1) (n : Nx B Hf H Hf1 H1) {v : V} {e : E} (h : ER B H Hf1 H1 v e) :
    ∃ Hf2, Nx B Hf H Hf2 H1 ∧ Ex Hf1 Hf2 ∧ DrR B Hf2 S1 H1 ∧ ArR B Hf2 H1 v (toO e) := by
  cases e with
  | v d => exact ⟨Hf1, n, Ex.refl _, r1.drw, h⟩
  | b ds => exact ⟨Hf1, n, Ex.refl _, r1.drw, h⟩
  | bd ds => exact ⟨Hf1, n, Ex.refl _, r1.drw, h⟩
  | n ds =>
    obtain ⟨a, vs, rfl, h1, k1, k2, h2, h3, h4⟩ := h
    obtain ⟨x, y, z⟩ := froz r1 n h1 k1 k2 h3 h4
    exact ⟨_, x, y, z, .lst upd_same (h2.mono y)⟩
  | nd ds =>
    obtain ⟨a, vs, rfl, h1, k1, k2, h2, h3, h4⟩ := h
    obtain ⟨x, y, z⟩ := froz r1 n h1 k1 k2 h3 h4
    exact ⟨_, x, y, z, .dct (.inl upd_same) (h2.mono y)⟩
theorem ArR.next {Hf' H' : Hp} (n : Nx B Hf H Hf' H') {v : V} {o : O} (h : ArR B Hf H v o) : ArR B Hf' H' v o := by
  cases o with
  | v d => exact Rep.mono n.ex h
  | lt ds =>
    obtain ⟨a, vs, rfl, h1, h2, h3, h4⟩ := h
    exact ⟨a, vs, rfl, n.go a _ h1 h2 h3, h2, h3, h4.mono n.ex⟩
  | ld ds =>
    obtain ⟨a, vs, rfl, h1, h2, h3, h4⟩ := h
    exact ⟨a, vs, rfl, n.go.rd h1 h2 h3, h2, h3, h4.mono n.ex⟩
  | _ => exact h.elim
theorem ja_nil : JA X W B [] aNil := .of fun bs σ H ρ S Hf Q r h => tWA_of pa_nil (h [] Hf H r.nx0 r.drw .nil)
theorem ja_cons (ha : JE X W B e fa) (hr : JA X W B es fr) (hs : starEach (e :: es) X.env = (false, eval e X.env) :: starEach es X.env := by exact star_c rfl) : JA X W B (e :: es) (aCons fa fr) := .of fun bs σ H ρ S Hf Q r h => by
  refine tWA_of (pa_cons pe_W pa_W hs) ?_
  show tW X e σ H fun x H1 => tWA X es σ H1 fun xs H2 => Q (x :: xs) H2
  refine ha.bind0 r h fun e1 S1 v H1 Hf1 r1 n1 z1 h1 => ?_
  obtain ⟨Hf2, n2, x2, d2, z2⟩ := toO_ok r1 n1 z1
  have r2 : R B bs Hf2 ρ S1 σ H1 := r.next n2 d2
  refine hr.bind r2 (EPost.step back_a n2 d2 h1) back_a fun os S2 vs H2 Hf3 r3 n3 z3 h3 => ?_
  exact h3 _ Hf3 H2 r3.nx0 r3.drw (.cons (z2.next n3) z3)

/-! ### displays -/
def vals : List O → Option (List D)
  | [] => some []
  | .v d :: os => (vals os).map (d :: ·)
  | _ :: _ => none
theorem vals_ok : ∀ {os : List O} {vs : List V} {ds : List D}, AsR B Hf H vs os → vals os = some ds → RepL B.K B.dr Hf vs ds
  | [], _, _, .nil, q => by simp [vals] at q; subst q; exact .nil
  | .v d :: os, _, _, .cons h l, q => by
    simp [vals] at q
    obtain ⟨ds, q, rfl⟩ := q
    exact .cons h (vals_ok l q)
  | .l _ :: os, _, _, .cons h l, q => by simp [vals] at q
  | .d _ :: os, _, _, .cons h l, q => by simp [vals] at q
  | .lt _ :: os, _, _, .cons h l, q => by simp [vals] at q
  | .ld _ :: os, _, _, .cons h l, q => by simp [vals] at q
  | .x _ _ :: os, _, _, .cons h l, q => by simp [vals] at q
  | .ob _ _ :: os, _, _, .cons h l, q => by simp [vals] at q
def gTupD (os : List O) : Option E := match vals os with
  | some ds => if ds.length ≤ sizeLine then some (.v (.tup ds)) else none
  | none => none
def gLstD (os : List O) : Option E := match vals os with
  | some ds => if ds.length ≤ sizeLine then some (.n ds) else none
  | none => none
def fCall (g : List O → Option E) (fa : Env → Dr → Out (List O)) : Env → Dr → Out E := fun ρ S => (fa ρ S).bind fun os S1 => Out.of (g os) S1
theorem je_tup {x1} {pos : Pos} (ha : JA X W B es fr) : JE X W B (.Tuple es x1 pos) (fCall gTupD fr) := JE.mk (pe_tup pa_W) fun bs σ H ρ S Hf Q r h => by
  show tWA X es σ H fun xs H1 => xs.length ≤ sizeLine ∧ ∀ p, H1 p = none → Q (.ref p) (upd H1 p (.tup xs))
  refine ha.bind r h back_e fun os S1 vs H1 Hf1 r1 n1 z1 h1 => ?_
  cases q : gTupD os with
  | none => rw [q] at h1; exact h1.elim
  | some e =>
    rw [q] at h1
    unfold gTupD at q
    split at q
    · rename_i ds q1
      split at q
      · rename_i hl
        cases q
        have l := vals_ok z1 q1
        exact ⟨by rw [l.length]; exact hl, fun p hp => VP.newT r1 (fun v Hf' H' n d z => h1 v Hf' H' n d z) l hp⟩
      · cases q
    · cases q
theorem je_lst {pos : Pos} (ha : JA X W B es fr) : JE X W B (.List es pos) (fCall gLstD fr) := JE.mk (pe_lst pa_W) fun bs σ H ρ S Hf Q r h => by
  show tWA X es σ H fun xs H1 => xs.length ≤ sizeLine ∧ ∀ p, H1 p = none → Q (.ref p) (upd H1 p (.lst xs))
  refine ha.bind r h back_e fun os S1 vs H1 Hf1 r1 n1 z1 h1 => ?_
  cases q : gLstD os with
  | none => rw [q] at h1; exact h1.elim
  | some e =>
    rw [q] at h1
    unfold gLstD at q
    split at q
    · rename_i ds q1
      split at q
      · rename_i hl
        cases q
        have l := vals_ok z1 q1
        exact ⟨by rw [l.length]; exact hl, fun p hp => VP.newL r1 (fun v Hf' H' n d z => h1 v Hf' H' n d z) l hp⟩
      · cases q
    · cases q
/-- {} -/
theorem je_dict0 {pos : Pos} : JE X W B (.Dict [] [] pos) (fun _ S => .ok (.nd []) S) := JE.mk pe_dnewK fun bs σ H ρ S Hf Q r h => fun p hp => by
  obtain ⟨n1, n2⟩ := r.dr_ne hp
  exact h _ _ _ (r.new hp) (r.drw.new hp (Ex.refl _)) ⟨p, [], rfl, upd_same, n1, n2, .nil, r.freeH hp, hp⟩

/-! ### built-ins by name -/
theorem CallR.or {f : Value} {r r' : List V → Hp → VK → Prop} (h : CallR X f r) (h' : CallR X f r') : CallR X f (fun xs H Q => r xs H Q ∨ r' xs H Q) := by
  intro pins s σ H xs us Q I rx q
  rcases q with q | q
  · exact h pins s σ H xs us Q I rx q
  · exact h' pins s σ H xs us Q I rx q
def CallJ (B : Bs) (r : List V → Hp → VK → Prop) (g : List O → Option E) : Prop :=
  ∀ (bs : Hp × Hp) (σ : L2.St) (H : Hp) (ρ : Env) (S : Dr) (Hf : Hp) (vs : List V) (os : List O) (e : E) (Q : VK), R B bs Hf ρ S σ H → AsR B Hf H vs os → g os = some e → VP B S Hf H e Q → r vs H Q
theorem CallJ.or {r r' : List V → Hp → VK → Prop} {g g' : List O → Option E} (h : CallJ B r g) (h' : CallJ B r' g') : CallJ B (fun xs H Q => r xs H Q ∨ r' xs H Q) (fun os => match g os with
    | some e => some e
    | none => g' os) := fun bs σ H ρ S Hf vs os e Q R z q k => by
  change (match g os with | some e => some e | none => g' os) = some e at q
  show r vs H Q ∨ r' vs H Q
  split at q
  · rename_i e' q'
    cases q
    exact .inl (h bs σ H ρ S Hf vs os _ Q R z q' k)
  · exact .inr (h' bs σ H ρ S Hf vs os e Q R z q k)
theorem callj {r : List V → Hp → VK → Prop} {g : List O → Option E} (hj : CallJ B r g) (ha : JA X W B es fr) {Q : VK} (R0 : R B bs Hf ρ S σ H) (h : EPost B W Hf σ H (erel B) (fCall g fr ρ S) Q) : tCB r (tWA X es) σ H Q := by
  show tWA X es σ H fun vs H1 => r vs H1 Q
  refine ha.bind R0 h back_e fun os S1 vs H1 Hf1 r1 n1 z1 h1 => ?_
  cases q : g os with
  | none => rw [q] at h1; exact h1.elim
  | some e =>
    rw [q] at h1
    exact hj _ _ _ _ _ _ _ _ _ _ r1 z1 q fun v Hf' H' n d z => h1 v Hf' H' n d z
theorem je_callB {r : List V → Hp → VK → Prop} {g : List O → Option E} {x : Str} {id : String} {p pos : Pos} (hc : CallR X (.builtin id) r) (hj : CallJ B r g) (hm : X.mg x = none) (ha : JA X W B (e :: es) fr) (hg : Gl X x := by rfl) (hv : bootBuiltins x = some (.builtin id) := by decide +kernel) (hn : x ≠ "__name__" := by decide)
    (hdb : (x == ("__debug__" : Str)) = false := by decide) (he : starEach (e :: es) X.env = (false, eval e X.env) :: starEach es X.env := by exact star_c rfl) (hpl : (backTo pos (starEach es X.env)).any (·.1) = false := by exact star_any rfl) : JE X W B (.Call (.Name x p) (e :: es) [] pos) (fCall g fr) :=
  JE.mk (pe_callB hc hg hm hv pa_W hn hdb he hpl) fun bs σ H ρ S Hf Q r h => callj hj ha r h
theorem je_callTy {r : List V → Hp → VK → Prop} {g : List O → Option E} {x : Str} {id : String} {p pos : Pos} (hc : CallR X (.type id) r) (hj : CallJ B r g) (hm : X.mg x = none) (ha : JA X W B (e :: es) fr) (hg : Gl X x := by rfl) (hv : bootBuiltins x = some (.type id) := by decide +kernel) (hn : x ≠ "__name__" := by decide)
    (hdb : (x == ("__debug__" : Str)) = false := by decide) (he : starEach (e :: es) X.env = (false, eval e X.env) :: starEach es X.env := by exact star_c rfl) (hpl : (backTo pos (starEach es X.env)).any (·.1) = false := by exact star_any rfl) : JE X W B (.Call (.Name x p) (e :: es) [] pos) (fCall g fr) :=
  JE.mk (pe_callTy hc hg hm hv pa_W hn hdb he hpl) fun bs σ H ρ S Hf Q r h => callj hj ha r h

/-- the items of a list, lent or not -/
def O.ls : O → Option (List D)
  | .v (.lst ds) => some ds
  | .lt ds => some ds
  | _ => none
def O.tu : O → Option (List D)
  | .v (.tup ds) => some ds
  | _ => none
theorem ArR.ls (r : R B bs Hf ρ S σ H) {v : V} {o : O} {ds : List D} (h : ArR B Hf H v o) (q : o.ls = some ds) : ∃ a vs, v = .ref a ∧ H a = some (.lst vs) ∧ RepL B.K B.dr Hf vs ds := by
  cases o with
  | v d =>
    cases d <;> simp [O.ls] at q
    subst q
    cases h with
    | lst h1 h2 => exact ⟨_, _, rfl, r.ex _ _ h1, h2⟩
  | lt ds => simp [O.ls] at q; subst q; obtain ⟨a, vs, h1, h2, _, _, h3⟩ := h; exact ⟨a, vs, h1, h2, h3⟩
  | _ => cases q
theorem ArR.tu (r : R B bs Hf ρ S σ H) {v : V} {o : O} {ds : List D} (h : ArR B Hf H v o) (q : o.tu = some ds) : ∃ a vs, v = .ref a ∧ SqT B.K Hf a vs ∧ SqT B.K H a vs ∧ RepL B.K B.dr Hf vs ds := by
  cases o with
  | v d =>
    cases d <;> simp [O.tu] at q
    subst q
    cases h with
    | tup h1 h2 => exact ⟨_, _, rfl, h1, ex_t r.ex h1, h2⟩
  | _ => cases q
theorem as1 {vs : List V} {o : O} (z : AsR B Hf H vs [o]) : ∃ v, vs = [v] ∧ ArR B Hf H v o := by
  cases z with | cons h t => cases t; exact ⟨_, rfl, h⟩
theorem as2 {vs : List V} {o o2 : O} (z : AsR B Hf H vs [o, o2]) : ∃ v v2, vs = [v, v2] ∧ ArR B Hf H v o ∧ ArR B Hf H v2 o2 := by
  cases z with | cons h t => cases t with | cons h2 t2 => cases t2; exact ⟨_, _, rfl, h, h2⟩

/-! len -/
def gLen : List O → Option E
  | [.v (.str x)] => if x.length ≤ sizeLine then some (.v (.int x.length)) else none
  | [o] => match o.ls with
    | some ds => some (.v (.int ds.length))
    | none => match o.tu with
      | some ds => some (.v (.int ds.length))
      | none => none
  | _ => none
theorem cj_len : CallJ B (fun xs H Q => ∃ x n, xs = [x] ∧ LenV B.K x H n ∧ Q (.int n) H) gLen := fun bs σ H ρ S Hf vs os e Q r z q k => by
  unfold gLen at q
  split at q
  · split at q
    · rename_i hl
      cases q
      obtain ⟨v, rfl, h⟩ := as1 z
      cases (show Rep _ _ _ v (.str _) from h)
      exact ⟨_, _, rfl, ⟨hl, rfl⟩, VP.now r k (Rep.int _)⟩
    · cases q
  · obtain ⟨v, rfl, h⟩ := as1 z
    split at q
    · rename_i ds q1
      cases q
      obtain ⟨a, vs, rfl, h1, l⟩ := h.ls r q1
      exact ⟨_, vs.length, rfl, .inl ⟨vs, SqL.of h1, rfl⟩, by rw [l.length]; exact VP.now r k (Rep.int _)⟩
    · split at q
      · rename_i ds q1
        cases q
        obtain ⟨a, vs, rfl, _, h1, l⟩ := h.tu r q1
        exact ⟨_, vs.length, rfl, .inr ⟨vs, h1, rfl⟩, by rw [l.length]; exact VP.now r k (Rep.int _)⟩
      · cases q
  · cases q
theorem je_len {p pos : Pos} (hK : X.K = B.K) (hm : X.mg "len" = none) (ha : JA X W B (e :: es) fr) (hg : Gl X "len" := by rfl) (he : starEach (e :: es) X.env = (false, eval e X.env) :: starEach es X.env := by exact star_c rfl) (hpl : (backTo pos (starEach es X.env)).any (·.1) = false := by exact star_any rfl) :
    JE X W B (.Call (.Name "len" p) (e :: es) [] pos) (fCall gLen fr) := je_callB call_len (hK ▸ cj_len) hm ha hg PySem.boot_len (by decide) (by decide) he hpl

/-! tuple(..), list(..) -/
def gTupleOf : List O → Option E
  | [o] => match o.ls with
    | some ds => some (.v (.tup ds))
    | none => match o.tu with
      | some ds => some (.v (.tup ds))
      | none => none
  | _ => none
theorem cj_tuple : CallJ B (fun xs H Q => ∃ p ys, xs = [.ref p] ∧ ((SqL B.K H p ys ∧ ∀ l, H l = none → Q (.ref l) (upd H l (.tup ys))) ∨ (SqT B.K H p ys ∧ Q (.ref p) H))) gTupleOf := fun bs σ H ρ S Hf vs os e Q r z q k => by
  unfold gTupleOf at q
  split at q
  · obtain ⟨v, rfl, h⟩ := as1 z
    split at q
    · rename_i ds q1
      cases q
      obtain ⟨a, vs, rfl, h1, l⟩ := h.ls r q1
      exact ⟨_, vs, rfl, .inl ⟨SqL.of h1, fun p hp => VP.newT r k l hp⟩⟩
    · split at q
      · rename_i ds q1
        cases q
        obtain ⟨a, vs, rfl, h0, h1, l⟩ := h.tu r q1
        exact ⟨_, vs, rfl, .inr ⟨h1, VP.now r k (Rep.tup h0 l)⟩⟩
      · cases q
  · cases q
def gListOf : List O → Option E
  | [o] => match o.ls with
    | some ds => some (.n ds)
    | none => match o.tu with
      | some ds => some (.n ds)
      | none => none
  | _ => none
theorem cj_list : CallJ B (fun xs H Q => ∃ p ys, xs = [.ref p] ∧ (SqL B.K H p ys ∨ SqT B.K H p ys) ∧ ∀ l, H l = none → Q (.ref l) (upd H l (.lst ys))) gListOf := fun bs σ H ρ S Hf vs os e Q r z q k => by
  unfold gListOf at q
  split at q
  · obtain ⟨v, rfl, h⟩ := as1 z
    split at q
    · rename_i ds q1
      cases q
      obtain ⟨a, vs, rfl, h1, l⟩ := h.ls r q1
      exact ⟨_, vs, rfl, .inl (SqL.of h1), fun p hp => VP.newL r k l hp⟩
    · split at q
      · rename_i ds q1
        cases q
        obtain ⟨a, vs, rfl, h0, h1, l⟩ := h.tu r q1
        exact ⟨_, vs, rfl, .inr h1, fun p hp => VP.newL r k l hp⟩
      · cases q
  · cases q
/-! int(..) -/
def gIntOf : List O → Option E
  | [.v (.int i)] => some (.v (.int i))
  | [.v (.bl b)] => some (.v (.int (if b then 1 else 0)))
  | [.v (.str x)] => match PySem.intText? x with
    | some n => if x.length ≤ 640 then some (.v (.int n)) else none
    | none => none
  | _ => none
theorem cj_int : CallJ B (fun xs H Q => ((∃ i, xs = [.int i] ∧ Q (.int i) H) ∨ ∃ k, xs = [.bl k] ∧ Q (.int (if k then 1 else 0)) H) ∨ ∃ a n, xs = [.str a] ∧ PySem.intText? a = some n ∧ a.length ≤ 640 ∧ Q (.int n) H) gIntOf := fun bs σ H ρ S Hf vs os e Q r z q k => by
  unfold gIntOf at q
  split at q
  · cases q
    obtain ⟨v, rfl, h⟩ := as1 z
    cases (show Rep _ _ _ v (.int _) from h)
    exact .inl (.inl ⟨_, rfl, VP.now r k (Rep.int _)⟩)
  · cases q
    obtain ⟨v, rfl, h⟩ := as1 z
    cases (show Rep _ _ _ v (.bl _) from h)
    exact .inl (.inr ⟨_, rfl, VP.now r k (Rep.int _)⟩)
  · obtain ⟨v, rfl, h⟩ := as1 z
    split at q
    · rename_i n qn
      split at q
      · rename_i hl
        cases q
        cases (show Rep _ _ _ v (.str _) from h)
        exact .inr ⟨_, _, rfl, qn, hl, VP.now r k (Rep.int _)⟩
      · cases q
    · cases q
  · cases q
/-! str(..) of an int -/
def gStrOf : List O → Option E
  | [.v (.int i)] => if i.natAbs.log2 < 1920 then some (.v (.str (toString i))) else none
  | _ => none
theorem cj_str : CallJ B (fun xs H Q => ∃ i : Int, xs = [.int i] ∧ i.natAbs.log2 < 1920 ∧ Q (.str (toString i)) H) gStrOf := fun bs σ H ρ S Hf vs os e Q r z q k => by
  unfold gStrOf at q
  split at q
  · obtain ⟨v, rfl, h⟩ := as1 z
    split at q
    · rename_i hl
      cases q
      cases (show Rep _ _ _ v (.int _) from h)
      exact ⟨_, rfl, hl, VP.now r k (Rep.str _)⟩
    · cases q
  · cases q
/-! all, any, sum, min, max -/
def blsD : List D → Option (List Bool)
  | [] => some []
  | .bl b :: ds => (blsD ds).map (b :: ·)
  | _ :: _ => none
theorem bls_ok {K : PySem.W.Frag} {dr : Addr} : ∀ {ds : List D} {vs : List V} {cs : List Bool}, RepL K dr Hf vs ds → blsD ds = some cs → vs = cs.map V.bl
  | [], _, _, .nil, q => by simp [blsD] at q; subst q; rfl
  | .bl b :: ds, _, _, .cons h l, q => by
    simp [blsD] at q
    obtain ⟨cs, q, rfl⟩ := q
    cases h
    rw [bls_ok l q]; rfl
  | .non :: ds, _, _, _, q => by simp [blsD] at q
  | .int _ :: ds, _, _, _, q => by simp [blsD] at q
  | .str _ :: ds, _, _, _, q => by simp [blsD] at q
  | .tup _ :: ds, _, _, _, q => by simp [blsD] at q
  | .lst _ :: ds, _, _, _, q => by simp [blsD] at q
  | .dct _ :: ds, _, _, _, q => by simp [blsD] at q
  | .obj _ _ :: ds, _, _, _, q => by simp [blsD] at q
  | .exn _ _ :: ds, _, _, _, q => by simp [blsD] at q
  | .ref _ :: ds, _, _, _, q => by simp [blsD] at q
  | .ty _ :: ds, _, _, _, q => by simp [blsD] at q
  | .drw :: ds, _, _, _, q => by simp [blsD] at q
  | .scr _ :: ds, _, _, _, q => by simp [blsD] at q
def intsD : List D → Option (List Int)
  | [] => some []
  | .int b :: ds => (intsD ds).map (b :: ·)
  | _ :: _ => none
theorem ints_ok {K : PySem.W.Frag} {dr : Addr} : ∀ {ds : List D} {vs : List V} {cs : List Int}, RepL K dr Hf vs ds → intsD ds = some cs → vs = cs.map V.int
  | [], _, _, .nil, q => by simp [intsD] at q; subst q; rfl
  | .int b :: ds, _, _, .cons h l, q => by
    simp [intsD] at q
    obtain ⟨cs, q, rfl⟩ := q
    cases h
    rw [ints_ok l q]; rfl
  | .non :: ds, _, _, _, q => by simp [intsD] at q
  | .bl _ :: ds, _, _, _, q => by simp [intsD] at q
  | .str _ :: ds, _, _, _, q => by simp [intsD] at q
  | .tup _ :: ds, _, _, _, q => by simp [intsD] at q
  | .lst _ :: ds, _, _, _, q => by simp [intsD] at q
  | .dct _ :: ds, _, _, _, q => by simp [intsD] at q
  | .obj _ _ :: ds, _, _, _, q => by simp [intsD] at q
  | .exn _ _ :: ds, _, _, _, q => by simp [intsD] at q
  | .ref _ :: ds, _, _, _, q => by simp [intsD] at q
  | .ty _ :: ds, _, _, _, q => by simp [intsD] at q
  | .drw :: ds, _, _, _, q => by simp [intsD] at q
  | .scr _ :: ds, _, _, _, q => by simp [intsD] at q
theorem ints_map (ns : List Int) : intsD (ns.map D.int) = some ns := by
  induction ns with
  | nil => rfl
  | cons n r ih => simp [intsD, ih]
theorem bls_map (ns : List Bool) : blsD (ns.map D.bl) = some ns := by
  induction ns with
  | nil => rfl
  | cons n r ih => simp [blsD, ih]
def gB (f : List Bool → Bool) : List O → Option E
  | [o] => match o.ls with
    | some ds => match blsD ds with
      | some cs => some (.v (.bl (f cs)))
      | none => none
    | none => none
  | _ => none
theorem gB_inv {f : List Bool → Bool} {vs : List V} {os : List O} {e : E} (r : R B bs Hf ρ S σ H) (z : AsR B Hf H vs os) (q : gB f os = some e) : ∃ a cs, vs = [.ref a] ∧ SqL B.K H a (cs.map V.bl) ∧ e = .v (.bl (f cs)) := by
  unfold gB at q
  split at q
  · obtain ⟨v, rfl, h⟩ := as1 z
    split at q
    · rename_i ds q1
      split at q
      · rename_i cs q2
        cases q
        obtain ⟨a, vs, rfl, h1, l⟩ := h.ls r q1
        rw [bls_ok l q2] at h1
        exact ⟨_, cs, rfl, SqL.of h1, rfl⟩
      · cases q
    · cases q
  · cases q
def gAll : List O → Option E := gB fun cs => cs.all id
def gAny : List O → Option E := gB fun cs => cs.any id
theorem cj_all : CallJ B (rAll B.K) gAll := fun bs σ H ρ S Hf vs os e Q r z q k => by
  obtain ⟨a, cs, rfl, h, rfl⟩ := gB_inv r z q
  exact ⟨a, cs, rfl, h, VP.now r k (Rep.bl _)⟩
theorem cj_any : CallJ B (rAny B.K) gAny := fun bs σ H ρ S Hf vs os e Q r z q k => by
  obtain ⟨a, cs, rfl, h, rfl⟩ := gB_inv r z q
  exact ⟨a, cs, rfl, h, VP.now r k (Rep.bl _)⟩
def gSum : List O → Option E
  | [o] => match o.ls with
    | some ds => match intsD ds with
      | some cs => some (.v (.int cs.sum))
      | none => none
    | none => none
  | _ => none
theorem cj_sum : CallJ B (rSum B.K) gSum := fun bs σ H ρ S Hf vs os e Q r z q k => by
  unfold gSum at q
  split at q
  · obtain ⟨v, rfl, h⟩ := as1 z
    split at q
    · rename_i ds q1
      split at q
      · rename_i cs q2
        cases q
        obtain ⟨a, vs, rfl, h1, l⟩ := h.ls r q1
        rw [ints_ok l q2] at h1
        exact ⟨_, cs, rfl, SqL.of h1, VP.now r k (Rep.int _)⟩
      · cases q
    · cases q
  · cases q
def gMax2 : List O → Option E
  | [.v (.int i), .v (.int j)] => some (.v (.int (if j > i then j else i)))
  | _ => none
def gMin2 : List O → Option E
  | [.v (.int i), .v (.int j)] => some (.v (.int (if j < i then j else i)))
  | _ => none
theorem cj_max2 : CallJ B (fun xs H Q => ∃ i j, xs = [.int i, .int j] ∧ Q (.int (if j > i then j else i)) H) gMax2 := fun bs σ H ρ S Hf vs os e Q r z q k => by
  unfold gMax2 at q
  split at q
  · cases q
    obtain ⟨v, v2, rfl, h, h2⟩ := as2 z
    cases (show Rep _ _ _ v (.int _) from h)
    cases (show Rep _ _ _ v2 (.int _) from h2)
    exact ⟨_, _, rfl, VP.now r k (Rep.int _)⟩
  · cases q
theorem cj_min2 : CallJ B (fun xs H Q => ∃ i j, xs = [.int i, .int j] ∧ Q (.int (if j < i then j else i)) H) gMin2 := fun bs σ H ρ S Hf vs os e Q r z q k => by
  unfold gMin2 at q
  split at q
  · cases q
    obtain ⟨v, v2, rfl, h, h2⟩ := as2 z
    cases (show Rep _ _ _ v (.int _) from h)
    cases (show Rep _ _ _ v2 (.int _) from h2)
    exact ⟨_, _, rfl, VP.now r k (Rep.int _)⟩
  · cases q
end
end Dn

set_option Elab.async false
set_option linter.all false
set_option maxRecDepth 100000
set_option maxHeartbeats 4000000
namespace Dn
open PySem PySem.Spec PyProof.Rows L2

/-! ### subscripts, slices -/
section
variable {X : Cx} {W : WX} {B : Bs} {bs : Hp × Hp} {Hs Hf H : Hp} {ρ : Env} {S : Dr} {σ : L2.St} {a b e : Expr} {fa fb : Env → Dr → Out E} {pos p2 : Pos}
/-- a[i]: lists, tuples, texts -/
def gIx : E → E → Option E := fun x y => match y with
  | .v (.int i) => match x with
    | .v (.tup ds) => (atI ds i).map .v
    | .v (.str z) => if z.length ≤ sizeLine then (atI z.cps.toList i).map fun c => .v (.str ⟨#[c]⟩) else none
    | x => match x.ls with
      | some ds => (atI ds i).map .v
      | none => none
  | _ => none
theorem atI_rep {K : PySem.W.Frag} {dr : Addr} {vs : List V} {ds : List D} {i : Int} {d : D} (l : RepL K dr Hf vs ds) (q : atI ds i = some d) : ∃ v, atI vs i = some v ∧ Rep K dr Hf v d := by
  unfold atI at q ⊢
  rw [l.length]
  cases e : ixN ds.length i with
  | none => rw [e] at q; cases q
  | some j =>
    rw [e] at q
    exact l.get q
theorem oj_ix : OpJ B (rIx B.K) gIx := fun bs σ H ρ S Hf Hs1 Hs2 x y e1 e2 e Q r h1 h2 q k => by
  unfold gIx at q
  split at q
  · cases h2.v_ok
    split at q
    · rename_i i ds
      simp only [Option.map_eq_some_iff] at q
      obtain ⟨d, q, rfl⟩ := q
      obtain ⟨a, vs, rfl, t, l⟩ := rep_tup r.ex h1.v_ok
      obtain ⟨v, qv, rv⟩ := atI_rep l q
      exact .inr (.inl ⟨a, vs, _, v, rfl, rfl, t, qv, VP.now r k rv⟩)
    · split at q
      · rename_i hl
        simp only [Option.map_eq_some_iff] at q
        obtain ⟨c, q, rfl⟩ := q
        cases h1.v_ok
        exact .inr (.inr ⟨_, _, c, rfl, rfl, hl, q, VP.now r k (Rep.str _)⟩)
      · cases q
    · split at q
      · rename_i ds q1
        simp only [Option.map_eq_some_iff] at q
        obtain ⟨d, q, rfl⟩ := q
        obtain ⟨a, vs, rfl, t, l⟩ := h1.ls r q1
        obtain ⟨v, qv, rv⟩ := atI_rep l q
        exact .inl ⟨a, vs, _, v, rfl, rfl, SqL.of t, qv, VP.now r k rv⟩
      · cases q
  · cases q
theorem je_ix (hK : X.K = B.K) (ha : JE X W B a fa) (hb : JE X W B b fb) (hs : PlainIx b := by exact fun _ _ => rfl) : JE X W B (.Subscript a b pos) (fOp gIx fa fb) :=
  JE.mk (pe_ix ix_seq pe_W pe_W hs) fun bs σ H ρ S Hf Q R0 h => by rw [hK]; exact op2 oj_ix ha hb R0 h

/-- a part of a slice -/
abbrev orel : Hp → Option Int → Option Int → Hp → Hp → Prop := fun _ b c _ _ => b = c
def JO (X : Cx) (W : WX) (B : Bs) (e : Option Expr) (f : Env → Dr → Out (Option Int)) : Prop :=
  ∃ t, PO X e t ∧ ∀ (bs : Hp × Hp) (σ : L2.St) (H : Hp) (ρ : Env) (S : Dr) (Hf : Hp) (Q : Option Int → Hp → Prop), R B bs Hf ρ S σ H → EPost B W Hf σ H orel (f ρ S) Q → t σ H Q
def oNone : Env → Dr → Out (Option Int) := fun _ S => .ok none S
def E.int? : E → Option Int
  | .v (.int i) => some i
  | _ => none
def oSome (fa : Env → Dr → Out E) : Env → Dr → Out (Option Int) := fun ρ S => (fa ρ S).bind fun e S1 => Out.of (e.int?.map some) S1
theorem jo_none : JO X W B none oNone := ⟨_, po_none, fun bs σ H ρ S Hf Q r h => h none Hf H r.nx0 r.drw rfl⟩
theorem back_o : Back B orel := fun _ _ _ _ _ _ _ _ _ _ _ z => z
theorem jo_some (ha : JE X W B a fa) : JO X W B (some a) (oSome fa) := ⟨_, po_some pe_W, fun bs σ H ρ S Hf Q r h => by
  show tW X a σ H fun x H1 => ∃ i, x = .int i ∧ Q (some i) H1
  refine ha.bind r h back_o fun e1 S1 v H1 Hf1 r1 n1 z1 h1 => ?_
  cases e1 with
  | v d =>
    cases d with
    | int i =>
      cases z1.v_ok
      exact ⟨i, rfl, h1 _ Hf1 H1 r1.nx0 r1.drw rfl⟩
    | _ => exact h1.elim
  | _ => exact h1.elim⟩
theorem JO.run {lo : Option Expr} {f : Env → Dr → Out (Option Int)} (h : JO X W B lo f) : ∃ t, PO X lo t ∧ ∀ (bs : Hp × Hp) (σ : L2.St) (H : Hp) (ρ : Env) (S : Dr) (Hf : Hp) {α β : Type} (rel : Hp → α → β → Hp → Hp → Prop) (Q : β → Hp → Prop) (P : Option Int → Hp → Prop) (k : Option Int → Dr → Out α),
    R B bs Hf ρ S σ H → EPost B W Hf σ H rel ((f ρ S).bind k) Q → Back B rel → (∀ o S1 H1 Hf1, R B bs Hf1 ρ S1 σ H1 → Nx B Hf H Hf1 H1 → EPost B W Hf1 σ H1 rel (k o S1) Q → P o H1) → t σ H P := by
  obtain ⟨t, p, q⟩ := h
  refine ⟨t, p, fun bs σ H ρ S Hf α β rel Q P k r h hb hk => q bs σ H ρ S Hf P r ?_⟩
  cases e : f ρ S with
  | ok o S1 =>
    rw [e] at h
    refine fun v Hf1 H1 n d z => ?_
    subst z
    exact hk o S1 H1 Hf1 (r.next n d) n (EPost.step hb n d h)
  | exc C fs S1 => rw [e] at h; exact h
  | stk => rw [e] at h; exact h
def cutD {α : Type} (xs : List α) (lo hi : Option Int) : List α := (xs.drop (HT.sIx xs.length 0 lo)).take (HT.sIx xs.length xs.length hi - HT.sIx xs.length 0 lo)
theorem cut_rep {K : PySem.W.Frag} {dr : Addr} {vs : List V} {ds : List D} (l : RepL K dr Hf vs ds) (lo hi : Option Int) : RepL K dr Hf (cutV vs lo hi) (cutD ds lo hi) := by
  unfold cutV cutD
  rw [l.length]
  exact (l.drop _).take _
def gSl (lo hi : Option Int) : E → Option E
  | .v (.tup ds) => some (.v (.tup (cutD ds lo hi)))
  | .v (.str z) => if z.length ≤ sizeLine then some (.v (.str (cutS z lo hi))) else none
  | x => match x.ls with
    | some ds => some (.n (cutD ds lo hi))
    | none => none
def fSl (fl fh : Env → Dr → Out (Option Int)) (fa : Env → Dr → Out E) : Env → Dr → Out E := fun ρ S => (fa ρ S).bind fun x S1 => (fl ρ S1).bind fun l S2 => (fh ρ S2).bind fun u S3 => Out.of (gSl l u x) S3
theorem je_slice {lo hi : Option Expr} {fl fh : Env → Dr → Out (Option Int)} (hK : X.K = B.K) (ha : JE X W B a fa) (hl : JO X W B lo fl) (hh : JO X W B hi fh) : JE X W B (.Subscript a (.Slice lo hi none p2) pos) (fSl fl fh fa) := by
  obtain ⟨tl, pl, ql⟩ := hl.run
  obtain ⟨th, ph, qh⟩ := hh.run
  refine JE.mk (pe_slice (SlR.or sl_list (SlR.or sl_tupA sl_str)) pe_W pl ph) fun bs σ H ρ S Hf Q r h => ?_
  refine ha.bind r h back_e fun e1 S1 v H1 Hf1 r1 n1 z1 h1 => ?_
  refine ql bs σ H1 ρ S1 Hf1 (erel B) Q _ _ r1 h1 back_e fun l S2 H2 Hf2 r2 n2 h2 => ?_
  refine qh bs σ H2 ρ S2 Hf2 (erel B) Q _ _ r2 h2 back_e fun u S3 H3 Hf3 r3 n3 h3 => ?_
  have z3 := (z1.next r1 n2).next r2 n3
  rw [hK]
  cases q : gSl l u e1 with
  | none => rw [q] at h3; exact h3.elim
  | some e =>
    rw [q] at h3
    have k : VP B S3 Hf3 H3 e Q := fun v Hf' H' n d z => h3 v Hf' H' n d z
    unfold gSl at q
    split at q
    · rename_i ds
      cases q
      have z4 : Rep B.K B.dr Hf3 v (.tup ds) := z3
      obtain ⟨a, vs, rfl, t, lr⟩ := rep_tup (Ex.refl Hf3) z4
      refine .inr (.inl ⟨a, vs, rfl, ex_t r3.ex t, fun w => ?_, fun _ p hp => VP.newT r3 k (cut_rep lr l u) hp⟩)
      refine VP.now r3 k (Rep.tup t ?_)
      have e1 : cutD ds l u = ds := by
        unfold cutD
        rw [lr.length] at w
        rw [w.1, w.2]
        simp
      rw [e1]
      exact lr
    · split at q
      · rename_i hl
        cases q
        cases (show Rep B.K B.dr Hf3 v (.str _) from z3)
        exact .inr (.inr ⟨_, rfl, hl, VP.now r3 k (Rep.str _)⟩)
      · cases q
    · split at q
      · rename_i ds q1
        cases q
        obtain ⟨a, vs, rfl, t, lr⟩ := z3.ls r3 q1
        exact .inl ⟨a, vs, rfl, SqL.of t, fun p hp => VP.newL r3 k (cut_rep lr l u) hp⟩
      · cases q
end

/-! ### statements -/
inductive SO where
  | nx (ρ : Env) (S : Dr) | rt (e : E) (S : Dr) | bk (ρ : Env) (S : Dr) | ct (ρ : Env) (S : Dr) | exc (C : Addr) (fs : List (Str × D)) (ρ : Env) (S : Dr) | stk
def SPost (B : Bs) (W : WX) (bs : Hp × Hp) (D : Ends) : SO → Prop
  | .nx ρ S => ∀ σ Hf H, R B bs Hf ρ S σ H → D.nx σ H
  | .bk ρ S => ∀ σ Hf H, R B bs Hf ρ S σ H → D.bk σ H
  | .ct ρ S => ∀ σ Hf H, R B bs Hf ρ S σ H → D.ct σ H
  | .rt e S => ∀ v Hf H, Nx B bs.1 bs.2 Hf H → DrR B Hf S H → ER B bs.2 Hf H v e → D.rt v H
  | .exc C fs ρ S => ∀ σ d Hf H, R B bs Hf ρ S σ H → ExR B Hf H C fs d → W (.ref C) d σ H
  | .stk => False
structure JS (X : Cx) (W : WX) (B : Bs) (st : Stmt) (g : Env → Dr → SO) : Prop where
  of ::
  go : ∀ (bs : Hp × Hp) (σ : L2.St) (H : Hp) (ρ : Env) (S : Dr) (Hf : Hp) (D : Ends), R B bs Hf ρ S σ H → SPost B W bs D (g ρ S) → tWS X st D σ H
structure JB (X : Cx) (W : WX) (B : Bs) (sts : List Stmt) (g : Env → Dr → SO) : Prop where
  of ::
  go : ∀ (bs : Hp × Hp) (σ : L2.St) (H : Hp) (ρ : Env) (S : Dr) (Hf : Hp) (D : Ends), R B bs Hf ρ S σ H → SPost B W bs D (g ρ S) → tWSs X sts D σ H
def sNx : Env → Dr → SO := fun ρ S => .nx ρ S
def sSeq (g1 g2 : Env → Dr → SO) : Env → Dr → SO := fun ρ S => match g1 ρ S with
  | .nx ρ' S' => g2 ρ' S'
  | o => o
/-- an expression ahead of a statement's end -/
def Out.so {α : Type} (o : Out α) (ρ : Env) (k : α → Dr → SO) : SO := match o with
  | .ok a S => k a S
  | .exc C fs S => .exc C fs ρ S
  | .stk => .stk
section
variable {X : Cx} {W : WX} {B : Bs} {bs : Hp × Hp} {Hs Hf H : Hp} {ρ : Env} {S : Dr} {σ : L2.St} {a b e c : Expr} {fa fb : Env → Dr → Out E} {fc : Env → Dr → Out Bool} {pos p2 : Pos} {st : Stmt} {rest sts sts2 : List Stmt} {g g1 g2 : Env → Dr → SO} {D : Ends}
theorem JS.mk {t : TS} (p : PS X st t) (h : ∀ (bs : Hp × Hp) (σ : L2.St) (H : Hp) (ρ : Env) (S : Dr) (Hf : Hp) (D : Ends), R B bs Hf ρ S σ H → SPost B W bs D (g ρ S) → t D σ H) : JS X W B st g :=
  .of fun bs σ H ρ S Hf D r q => tWS_of p (h bs σ H ρ S Hf D r q)
theorem jb_nil : JB X W B [] sNx := .of fun bs σ H ρ S Hf D r h => tWSs_of pss_nil (h σ Hf H r)
theorem jb_cons (h1 : JS X W B st g1) (h2 : JB X W B rest g2) : JB X W B (st :: rest) (sSeq g1 g2) := .of fun bs σ H ρ S Hf D r h => by
  refine tWSs_of (pss_cons ps_W pss_W) ?_
  show tWS X st { D with nx := tWSs X rest D } σ H
  refine h1.go bs σ H ρ S Hf _ r ?_
  unfold sSeq at h
  cases q : g1 ρ S with
  | nx ρ1 S1 =>
    rw [q] at h
    exact fun σ1 Hf1 H1 r1 => h2.go bs σ1 H1 ρ1 S1 Hf1 D r1 h
  | rt e S1 => rw [q] at h; exact h
  | bk ρ1 S1 => rw [q] at h; exact h
  | ct ρ1 S1 => rw [q] at h; exact h
  | exc C fs ρ1 S1 => rw [q] at h; exact h
  | stk => rw [q] at h; exact h
theorem jb_one (h1 : JS X W B st g1) : JB X W B [st] g1 := .of fun bs σ H ρ S Hf D r h => tWSs_of (pss_one ps_W) (h1.go bs σ H ρ S Hf D r h)
/-- an expression in a statement -/
theorem JE.so {k : E → Dr → SO} {P : VK} (ha : JE X W B a fa) (r : R B bs Hf ρ S σ H) (h : SPost B W bs D ((fa ρ S).so ρ k))
    (hk : ∀ e1 S1 v H1 Hf1, R B bs Hf1 ρ S1 σ H1 → Nx B Hf H Hf1 H1 → ER B H Hf1 H1 v e1 → SPost B W bs D (k e1 S1) → P v H1) : tW X a σ H P := by
  refine ha.go bs σ H ρ S Hf P r ?_
  cases q : fa ρ S with
  | ok e1 S1 =>
    rw [q] at h
    exact fun v Hf1 H1 n d z => hk e1 S1 v H1 Hf1 (r.next n d) n z h
  | exc C fs S1 =>
    rw [q] at h
    exact fun d Hf1 H1 n dr x => h σ d Hf1 H1 (r.next n dr) x
  | stk => rw [q] at h; exact h
theorem JT.so {k : Bool → Dr → SO} {P : Bool → Hp → Prop} (ha : JT X W B a fc) (r : R B bs Hf ρ S σ H) (h : SPost B W bs D ((fc ρ S).so ρ k))
    (hk : ∀ c S1 H1 Hf1, R B bs Hf1 ρ S1 σ H1 → Nx B Hf H Hf1 H1 → SPost B W bs D (k c S1) → P c H1) : tWT X a σ H P := by
  refine ha.go bs σ H ρ S Hf P r ?_
  cases q : fc ρ S with
  | ok e1 S1 =>
    rw [q] at h
    refine fun v Hf1 H1 n d z => ?_
    subst z
    exact hk e1 S1 H1 Hf1 (r.next n d) n h
  | exc C fs S1 =>
    rw [q] at h
    exact fun d Hf1 H1 n dr x => h σ d Hf1 H1 (r.next n dr) x
  | stk => rw [q] at h; exact h
/-- the whole run of a def so far, as a step -/
theorem R.whole (r : R B bs Hf ρ S σ H) : Nx B bs.1 bs.2 Hf H := ⟨r.exb, r.ex, r.fr, r.go, r.nd⟩
def retE : E → Option E
  | .v d => some (.v d)
  | .n ds => some (.n ds)
  | .nd ds => some (.nd ds)
  | _ => none
def sRet (fa : Env → Dr → Out E) : Env → Dr → SO := fun ρ S => (fa ρ S).so ρ fun e S1 => match retE e with
  | some e' => .rt e' S1
  | none => .stk
theorem ER.fromStart (r : R B bs Hf ρ S σ H) {v : V} {e : E} {Hf1 H1 : Hp} (z : ER B H Hf1 H1 v e) : ER B bs.2 Hf1 H1 v e := by
  cases e with
  | n ds => obtain ⟨a, vs, h1, h2, h3, h4, h5, h6, h7⟩ := z; exact ⟨a, vs, h1, h2, h3, h4, h5, h6, r.free0 h7⟩
  | nd ds => obtain ⟨a, vs, h1, h2, h3, h4, h5, h6, h7⟩ := z; exact ⟨a, vs, h1, h2, h3, h4, h5, h6, r.free0 h7⟩
  | _ => exact z
theorem js_ret (ha : JE X W B a fa) : JS X W B (.Return (some a) pos) (sRet fa) := JS.mk (ps_ret pe_W) fun bs σ H ρ S Hf D r h => by
  show tW X a σ H D.rt
  refine ha.so r h fun e1 S1 v H1 Hf1 r1 n1 z1 h1 => ?_
  have z2 := ER.fromStart r z1
  cases e1 with
  | v d => exact h1 v Hf1 H1 r1.whole r1.drw z2
  | n d => exact h1 v Hf1 H1 r1.whole r1.drw z2
  | nd d => exact h1 v Hf1 H1 r1.whole r1.drw z2
  | b d => exact h1.elim
  | bd d => exact h1.elim
def sRetN : Env → Dr → SO := fun _ S => .rt (.v .non) S
theorem js_retN : JS X W B (.Return none pos) sRetN := JS.mk ps_retN fun bs σ H ρ S Hf D r h => h .non Hf H r.whole r.drw Rep.non
/-- return x, a list of the def's own goes with it -/
def retO : O → Option E
  | .v d => some (.v d)
  | .l ds => some (.n ds)
  | .d ds => some (.nd ds)
  | _ => none
def sRetV (i : Nat) : Env → Dr → SO := fun ρ S => match ρ[i]? with
  | some (some o) => match retO o with
    | some e => .rt e S
    | none => .stk
  | _ => .stk
theorem js_retV (i : Nat) {x : Str} {pos : Pos} {p : Pos} (hN : X.N[i]? = some x := by rfl) (hv : Vis X.env.scope x := by first | exact Or.inl rfl | exact Or.inr (Or.inl rfl) | exact Or.inr (Or.inr rfl)) (hd : (x == ("__debug__" : Str)) = false := by decide)
    (hcd : (x == ("__classdict__" : Str)) = false := by decide) : JS X W B (.Return (some (.Name x p)) pos) (sRetV i) := JS.mk (ps_ret (pe_var hN hv hd hcd)) fun bs σ H ρ S Hf D r h => by
  unfold sRetV at h
  split at h
  · rename_i o e
    obtain ⟨v, e2, s⟩ := r.sl i o e
    refine ⟨v, e2, ?_⟩
    cases o with
    | v d => exact h v Hf H r.whole r.drw s
    | l ds =>
      obtain ⟨a, vs, rfl, h1, h2, h3, h4⟩ := s
      exact h _ Hf H r.whole r.drw ⟨a, vs, rfl, h1, (r.ne0 a h4).1, (r.ne0 a h4).2, h2, h3, h4⟩
    | d ds =>
      obtain ⟨a, vs, rfl, h1, h2, h3, h4⟩ := s
      exact h _ Hf H r.whole r.drw ⟨a, vs, rfl, h1, (r.ne0 a h4).1, (r.ne0 a h4).2, h2, h3, h4⟩
    | lt ds => exact h.elim
    | ld ds => exact h.elim
    | x C fs => exact h.elim
    | ob C fs => exact h.elim
  · exact h.elim
def sDrop (fa : Env → Dr → Out E) : Env → Dr → SO := fun ρ S => (fa ρ S).so ρ fun _ S1 => .nx ρ S1
theorem js_expr (ha : JE X W B a fa) (hs : swapsWith a none pos.line X.env = pure false := by rfl) : JS X W B (.Expr a pos) (sDrop fa) := JS.mk (ps_expr pe_W hs) fun bs σ H ρ S Hf D r h => by
  show tW X a σ H fun _ H1 => D.nx σ H1
  exact ha.so r h fun e1 S1 v H1 Hf1 r1 n1 z1 h1 => h1 σ Hf1 H1 r1
theorem js_pass : JS X W B (.Pass pos) sNx := JS.mk ps_pass fun bs σ H ρ S Hf D r h => h σ Hf H r
theorem js_doc {x j pos pos'} : JS X W B (.Expr (.Constant (.str x) j pos) pos') sNx := JS.mk ps_doc fun bs σ H ρ S Hf D r h => h σ Hf H r
def sBrk : Env → Dr → SO := fun ρ S => .bk ρ S
def sCnt : Env → Dr → SO := fun ρ S => .ct ρ S
theorem js_break : JS X W B (.Break pos) sBrk := JS.mk ps_break fun bs σ H ρ S Hf D r h => h σ Hf H r
theorem js_continue : JS X W B (.Continue pos) sCnt := JS.mk ps_continue fun bs σ H ρ S Hf D r h => h σ Hf H r
def sIf (fc : Env → Dr → Out Bool) (g1 g2 : Env → Dr → SO) : Env → Dr → SO := fun ρ S => (fc ρ S).so ρ fun c S1 => if c = true then g1 ρ S1 else g2 ρ S1
theorem js_if (hc : JT X W B c fc) (h1 : JB X W B sts g1) (h2 : JB X W B sts2 g2) : JS X W B (.If c sts sts2 pos) (sIf fc g1 g2) := JS.mk (ps_if pt_W pss_W pss_W) fun bs σ H ρ S Hf D r h => by
  show tWT X c σ H fun b H1 => if b = true then tWSs X sts D σ H1 else tWSs X sts2 D σ H1
  refine hc.so r h fun d S1 H1 Hf1 r1 n1 q => ?_
  cases d with
  | true => exact iteT (h1.go bs σ H1 ρ S1 Hf1 D r1 q)
  | false => exact iteF (h2.go bs σ H1 ρ S1 Hf1 D r1 q)

/-! storing at a name -/
def stO : E → Option O
  | .v d => some (.v d)
  | .n ds => some (.l ds)
  | .nd ds => some (.d ds)
  | _ => none
theorem set_some {α : Type} {l : List α} {i j : Nat} {x y : α} (h : (l.set i x)[j]? = some y) : (j = i ∧ y = x ∧ i < l.length) ∨ (j ≠ i ∧ l[j]? = some y) := by
  rw [List.getElem?_set] at h
  split at h
  · rename_i e
    split at h
    · rename_i hl
      cases h
      exact .inl ⟨e.symm, rfl, hl⟩
    · cases h
  · rename_i e
    exact .inr ⟨fun q => e q.symm, h⟩
/-- slot i is forgotten, or gets a new content -/
theorem R.store (r : R B bs Hf ρ S σ H) {i : Nat} {v : V} {o : O} (hi : i < ρ.length) (s : SlR B bs Hf H v o) (nw : o.own = true → ∀ a, v = .ref a → ∀ (j : Nat) oj, ρ[j]? = some (some oj) → oj.own = true → σ[j]? = some (some (V.ref a)) → j = i) :
    R B bs Hf (ρ.set i (some o)) S (σ.set i (some v)) H where
  ex := r.ex
  exb := r.exb
  fr := r.fr
  nd := r.nd
  go := r.go
  h0 := r.h0
  drw := r.drw
  len := by rw [List.length_set, List.length_set, r.len]
  sl := fun j oj h => by
    rcases set_some h with ⟨rfl, e, _⟩ | ⟨ne, h⟩
    · cases e
      exact ⟨v, by rw [List.getElem?_set_self (by rw [← r.len]; exact hi)], s⟩
    · obtain ⟨w, e, z⟩ := r.sl j oj h
      exact ⟨w, by rw [List.getElem?_set_ne (Ne.symm ne)]; exact e, z⟩
  inj := fun j k oj ok a hj hk wj wk ej ek => by
    rcases set_some hj with ⟨rfl, e1, _⟩ | ⟨n1, hj⟩
    · rcases set_some hk with ⟨rfl, e2, _⟩ | ⟨n2, hk⟩
      · rfl
      · cases e1
        rw [List.getElem?_set_self (by rw [← r.len]; exact hi)] at ej
        rw [List.getElem?_set_ne (Ne.symm n2)] at ek
        cases ej
        exact (nw wj a rfl k ok hk wk ek).symm
    · rcases set_some hk with ⟨rfl, e2, _⟩ | ⟨n2, hk⟩
      · cases e2
        rw [List.getElem?_set_self (by rw [← r.len]; exact hi)] at ek
        rw [List.getElem?_set_ne (Ne.symm n1)] at ej
        cases ek
        exact nw wk a rfl j oj (by assumption) wj ej
      · rw [List.getElem?_set_ne (Ne.symm n1)] at ej
        rw [List.getElem?_set_ne (Ne.symm n2)] at ek
        exact r.inj j k oj ok a hj hk wj wk ej ek
theorem R.ltN (r : R B bs Hf ρ S σ H) {N : List Str} {i : Nat} {x : Str} (hl : ρ.length = N.length) (hi : N[i]? = some x) : i < ρ.length := by
  rw [hl]; exact (List.getElem?_eq_some_iff.mp hi).1
theorem stO_ok (r : R B bs Hf ρ S σ H) {Hf1 H1 : Hp} {S1 : Dr} (r1 : R B bs Hf1 ρ S1 σ H1) {v : V} {e : E} {o : O} {i : Nat} (hi : i < ρ.length) (z : ER B H Hf1 H1 v e) (q : stO e = some o) : R B bs Hf1 (ρ.set i (some o)) S1 (σ.set i (some v)) H1 := by
  have fresh : ∀ a, H a = none → ∀ (j : Nat) oj, ρ[j]? = some (some oj) → oj.own = true → σ[j]? = some (some (V.ref a)) → j = i := fun a ha j oj hj wj ej => by
    obtain ⟨b, u, e2, h2, _⟩ := r.own_at hj wj
    rw [ej] at e2
    cases e2
    rw [ha] at h2
    cases h2
  cases e with
  | v d => cases q; exact r1.store hi z fun w => by cases w
  | n ds =>
    cases q
    obtain ⟨a, vs, rfl, h1, k1, k2, l, h2, h3⟩ := z
    refine r1.store hi ⟨a, vs, rfl, h1, l, h2, r.free0 h3⟩ fun _ b hb => ?_
    cases hb
    exact fresh a h3
  | nd ds =>
    cases q
    obtain ⟨a, vs, rfl, h1, k1, k2, l, h2, h3⟩ := z
    refine r1.store hi ⟨a, vs, rfl, h1, l, h2, r.free0 h3⟩ fun _ b hb => ?_
    cases hb
    exact fresh a h3
  | b ds => cases q
  | bd ds => cases q
/-- x = e -/
def sSet (i : Nat) (fa : Env → Dr → Out E) : Env → Dr → SO := fun ρ S => if i < ρ.length then (fa ρ S).so ρ fun e S1 => match stO e with
  | some o => .nx (ρ.set i (some o)) S1
  | none => .stk else .stk
theorem js_set (i : Nat) {x : Str} {pos' : Pos} (hN : X.N.Nodup) (ha : JE X W B a fa) (hi : X.N[i]? = some x := by rfl) (hx : Loc X.env.scope x := by first | exact .inl rfl | exact .inr rfl) (hs : swapsWith a (some (.Name x pos')) pos.line X.env = pure false := by rfl)
    (hf : X.fn x = true ∨ X.env.scope.names.lookup x = some .local := by first | exact .inl rfl | exact .inr rfl | assumption) : JS X W B (.Assign [.Name x pos'] a pos) (sSet i fa) := JS.mk (ps_set hN hi hx pe_W hs hf) fun bs σ H ρ S Hf D r h => by
  show tW X a σ H fun x H1 => gName i x σ H1 D.nx
  unfold sSet at h
  split at h
  · rename_i hi
    refine ha.so r h fun e1 S1 v H1 Hf1 r1 n1 z1 h1 => ?_
    cases q : stO e1 with
    | none => rw [q] at h1; exact h1.elim
    | some o =>
      rw [q] at h1
      exact h1 _ Hf1 H1 (stO_ok r r1 hi z1 q)
  · exact h.elim
/-- x = e, a new list is frozen at once -/
def sSetF (i : Nat) (fa : Env → Dr → Out E) : Env → Dr → SO := fun ρ S => if i < ρ.length then (fa ρ S).so ρ fun e S1 => match per e with
  | some d => .nx (ρ.set i (some (.v d))) S1
  | none => .stk else .stk
theorem js_setF (i : Nat) {x : Str} {pos' : Pos} (hN : X.N.Nodup) (ha : JE X W B a fa) (hi : X.N[i]? = some x := by rfl) (hx : Loc X.env.scope x := by first | exact .inl rfl | exact .inr rfl) (hs : swapsWith a (some (.Name x pos')) pos.line X.env = pure false := by rfl)
    (hf : X.fn x = true ∨ X.env.scope.names.lookup x = some .local := by first | exact .inl rfl | exact .inr rfl | assumption) : JS X W B (.Assign [.Name x pos'] a pos) (sSetF i fa) := JS.mk (ps_set hN hi hx pe_W hs hf) fun bs σ H ρ S Hf D r h => by
  show tW X a σ H fun x H1 => gName i x σ H1 D.nx
  unfold sSetF at h
  split at h
  · rename_i hi
    refine ha.so r h fun e1 S1 v H1 Hf1 r1 n1 z1 h1 => ?_
    cases q : per e1 with
    | none => rw [q] at h1; exact h1.elim
    | some d =>
      rw [q] at h1
      obtain ⟨Hf2, n2, x2, d2, z2⟩ := per_ok r1 n1 z1 q
      exact h1 _ Hf2 H1 ((r.next n2 d2).store hi z2 fun w => by cases w)
  · exact h.elim

/-! a list, a dict of the def's own is changed -/
theorem R.mut (r : R B bs Hf ρ S σ H) {i : Nat} {o o' : O} {a : Addr} {u : HO} (h : ρ[i]? = some (some o)) (w : o.own = true) (e : σ[i]? = some (some (V.ref a))) (s : SlR B bs Hf (upd H a u) (.ref a) o') (w' : o'.own = true) : R B bs Hf (ρ.set i (some o')) S σ (upd H a u) := by
  obtain ⟨a', u', e1, h1, h2, h3⟩ := r.own_at h w
  rw [e] at e1
  cases e1
  obtain ⟨n1, n2⟩ := r.ne0 a h3
  have hi : i < ρ.length := (List.getElem?_eq_some_iff.mp h).1
  refine ⟨fun b v q => ?_, r.exb, r.fr, r.nd, fun b v q m1 m2 => ?_, r.h0, ⟨?_, r.drw.cl, ?_, r.drw.ne⟩, by rw [List.length_set]; exact r.len, fun j oj hj => ?_, fun j k oj ok b hj hk wj wk ej ek => ?_⟩
  · rw [upd_ne (fun q2 => by rw [q2, h2] at q; cases q)]; exact r.ex b v q
  · rw [upd_ne (fun q2 => by rw [q2, h3] at q; cases q)]; exact r.go b v q m1 m2
  · rw [upd_ne (Ne.symm n1)]; exact r.drw.dr
  · rw [upd_ne (Ne.symm n2)]; exact r.drw.rs
  · rcases set_some hj with ⟨rfl, e2, _⟩ | ⟨ne, hj⟩
    · cases e2
      exact ⟨_, e, s⟩
    · obtain ⟨v, e2, z⟩ := r.sl j oj hj
      refine ⟨v, e2, ?_⟩
      have oth : ∀ b, oj.own = true → v = .ref b → b ≠ a := fun b wj hv q => by
        subst hv
        subst q
        exact ne (r.inj j i oj o b hj h wj w e2 e)
      cases oj with
      | v d => exact z
      | l ds =>
        obtain ⟨b, vs, rfl, k1, k2, k3, k4⟩ := z
        exact ⟨b, vs, rfl, by rw [upd_ne (oth b rfl rfl)]; exact k1, k2, k3, k4⟩
      | d ds =>
        obtain ⟨b, vs, rfl, k1, k2, k3, k4⟩ := z
        exact ⟨b, vs, rfl, by rw [upd_ne (oth b rfl rfl)]; exact k1, k2, k3, k4⟩
      | lt ds => exact z
      | ld ds => exact z
      | x C fs => exact z
      | ob C fs =>
        obtain ⟨rfl, dx, vs, k1, k2, k3, k4⟩ := z
        exact ⟨rfl, dx, vs, by rw [upd_ne (oth _ rfl rfl)]; exact k1, k2, k3, k4⟩
  · have og : ∀ {m : Nat} {om : O}, (ρ.set i (some o'))[m]? = some (some om) → om.own = true → ∃ om', ρ[m]? = some (some om') ∧ om'.own = true := fun {m om} hm wm => by
      rcases set_some hm with ⟨rfl, e2, _⟩ | ⟨ne, hm⟩
      · exact ⟨o, h, w⟩
      · exact ⟨om, hm, wm⟩
    obtain ⟨oj', hj', wj'⟩ := og hj wj
    obtain ⟨ok', hk', wk'⟩ := og hk wk
    exact r.inj j k oj' ok' b hj' hk' wj' wk' ej ek
/-- x.append(e) -/
def sApp (i : Nat) (fa : Env → Dr → Out E) : Env → Dr → SO := fun ρ S => match ρ[i]? with
  | some (some (.l ds)) => (fa ρ S).so ρ fun e S1 => match per e with
    | some d => if ds.length < sizeLine then .nx (ρ.set i (some (.l (ds ++ [d])))) S1 else .stk
    | none => .stk
  | _ => .stk
theorem js_app (i : Nat) {x : Str} {p pp cpos : Pos} (hK : X.K = B.K) (ha : JE X W B a fa) (hN : X.N[i]? = some x := by rfl) (hv : Vis X.env.scope x := by first | exact Or.inl rfl | exact Or.inr (Or.inl rfl) | exact Or.inr (Or.inr rfl)) (hd : (x == ("__debug__" : Str)) = false := by decide)
    (hcd : (x == ("__classdict__" : Str)) = false := by decide)
    (hbase : attributeBase (.Name x p) "append" X.env (eval (.Name x p) X.env) = eval (.Name x p) X.env := by rfl)
    (hfew : ((backTo cpos (starEach [a] X.env)).all (fun x => !x.1) && (backToKw cpos (keywordEach [] X.env)).all (fun x => x.1.isSome)
      && decide (([a] : List Expr).length + ([] : List Keyword).length + (if ([] : List Keyword).isEmpty then 0 else 1) < 30)) = true := by rfl)
    (hline : (pp.endLine == cpos.line) = true := by rfl) (hs : starEach [a] X.env = (false, eval a X.env) :: starEach [] X.env := by exact star_c rfl) (hplain : (backTo cpos (starEach [] X.env)).any (·.1) = false := by exact star_any rfl)
    (hsw : swapsWith (.Call (.Attribute (.Name x p) "append" pp) [a] [] cpos) none pos.line X.env = pure false := by rfl) :
    JS X W B (.Expr (.Call (.Attribute (.Name x p) "append" pp) [a] [] cpos) pos) (sApp i fa) :=
  JS.mk (ps_expr (pe_bm PySem.F.plainAttrs_list PySem.F.slot_list_append PySem.F.type_list_append mt_append (pe_var hN hv hd hcd) (pa_cons pe_W pa_nil hs) hbase hfew hline hs hplain) hsw) fun bs σ H ρ S Hf D r h => by
    unfold sApp at h
    split at h
    · rename_i ds e
      obtain ⟨v, e2, s⟩ := r.sl i _ e
      obtain ⟨l, vs, rfl, h1, h2, h3, h4⟩ := s
      obtain ⟨n1, n2⟩ := r.ne0 l h4
      refine ⟨_, e2, .inl ⟨rfl, _, .inl (.inl h1)⟩, ?_⟩
      show tW X a σ H fun y H1 => _
      refine ha.so r h fun e1 S1 y H1 Hf1 r1 m1 z1 q => ?_
      cases qp : per e1 with
      | none => rw [qp] at q; exact q.elim
      | some d =>
        rw [qp] at q
        dsimp only at q
        split at q
        · rename_i hl
          obtain ⟨Hf2, m2, x2, d2, z2⟩ := per_ok r1 m1 z1 qp
          have r2 := r.next m2 d2
          obtain ⟨v', e3, s'⟩ := r2.sl i _ e
          rw [e2] at e3
          cases e3
          obtain ⟨l', vs', el, k1, k2, k3, k4⟩ := s'
          cases el
          refine ⟨l, vs', y, rfl, rfl, k1, by rw [k2.length]; exact hl, ?_⟩
          exact q _ Hf2 _ (r2.mut e rfl e2 ⟨l, _, rfl, upd_same, k2.append (.one z2), k3, k4⟩ rfl)
        · exact q.elim
    · exact h.elim
end
end Dn

set_option Elab.async false
set_option linter.all false
set_option maxRecDepth 100000
set_option maxHeartbeats 4000000
namespace Dn
open PySem PySem.Spec PyProof.Rows L2

/-! ### targets -/
/-- target tg of reading t stores data as g says, into the slots of ix alone -/
def JG (X : Cx) (B : Bs) (tg : Expr) (t : TG) (ix : List Nat) (g : D → Env → Option Env) : Prop :=
  PG X tg t ∧ ∀ (bs : Hp × Hp) (σ : L2.St) (H : Hp) (ρ : Env) (S : Dr) (Hf : Hp) (v : V) (d : D) (ρ' : Env) (Q : L2.St → Hp → Prop), R B bs Hf ρ S σ H → Rep B.K B.dr Hf v d → g d ρ = some ρ' →
    (∀ σ' : L2.St, R B bs Hf ρ' S σ' H → σ'.length = σ.length → (∀ j, j ∉ ix → σ'[j]? = σ[j]?) → Q σ' H) → t v σ H Q
def JGs (X : Cx) (B : Bs) (tgs : List Expr) (t : TGs) (ix : List Nat) (g : List D → Env → Option Env) : Prop :=
  PGs X tgs t ∧ ∀ (bs : Hp × Hp) (σ : L2.St) (H : Hp) (ρ : Env) (S : Dr) (Hf : Hp) (vs : List V) (ds : List D) (ρ' : Env) (Q : L2.St → Hp → Prop), R B bs Hf ρ S σ H → RepL B.K B.dr Hf vs ds → g ds ρ = some ρ' →
    (∀ σ' : L2.St, R B bs Hf ρ' S σ' H → σ'.length = σ.length → (∀ j, j ∉ ix → σ'[j]? = σ[j]?) → Q σ' H) → t vs σ H Q
def tgN (i : Nat) : D → Env → Option Env := fun d ρ => if i < ρ.length then some (ρ.set i (some (.v d))) else none
def tgNil : List D → Env → Option Env := fun ds ρ => match ds with
  | [] => some ρ
  | _ => none
def tgCons (g : D → Env → Option Env) (gs : List D → Env → Option Env) : List D → Env → Option Env := fun ds ρ => match ds with
  | d :: r => (g d ρ).bind (gs r)
  | [] => none
def tgT (n : Nat) (gs : List D → Env → Option Env) : D → Env → Option Env := fun d ρ => match d with
  | .tup ds => if ds.length = n then gs ds ρ else none
  | _ => none
section
variable {X : Cx} {W : WX} {B : Bs} {bs : Hp × Hp} {Hs Hf H : Hp} {ρ : Env} {S : Dr} {σ : L2.St} {a b e : Expr} {es : List Expr} {fa fb : Env → Dr → Out E} {pos p2 : Pos} {t : TG} {ts : TGs} {ix jx : List Nat} {g : D → Env → Option Env} {gs : List D → Env → Option Env}
theorem jg_name (i : Nat) {x : Str} (hN : X.N.Nodup) (hi : X.N[i]? = some x := by rfl) (hx : Loc X.env.scope x := by first | exact .inl rfl | exact .inr rfl) (hf : X.fn x = true ∨ X.env.scope.names.lookup x = some .local := by first | exact .inl rfl | exact .inr rfl | assumption) :
    JG X B (.Name x pos) (gName i) [i] (tgN i) := ⟨pg_name hN hi hx hf, fun bs σ H ρ S Hf v d ρ' Q r z q k => by
  unfold tgN at q
  split at q
  · rename_i hl
    cases q
    exact k _ (r.store hl z fun w => by cases w) List.length_set fun j hj => List.getElem?_set_ne fun e => hj (by simp [e])
  · cases q⟩
theorem jgs_nil : JGs X B [] gNil [] tgNil := ⟨pgs_nil, fun bs σ H ρ S Hf vs ds ρ' Q r z q k => by
  cases z with
  | nil => cases q; exact ⟨rfl, k σ r rfl fun _ _ => rfl⟩
  | cons _ _ => cases q⟩
theorem jgs_cons (h : JG X B e t ix g) (hs : JGs X B es ts jx gs)
    (hst : (assignEach (e :: es) X.env).map (·.2) = assign e X.env :: (assignEach es X.env).map (·.2) := by rfl) : JGs X B (e :: es) (gCons t ts) (ix ++ jx) (tgCons g gs) := ⟨pgs_cons h.1 hs.1 hst, fun bs σ H ρ S Hf vs ds ρ' Q r z q k => by
  cases z with
  | nil => cases q
  | cons z1 zs =>
    rename_i v vs d ds
    unfold tgCons at q
    dsimp only at q
    cases q1 : g d ρ with
    | none => rw [q1] at q; cases q
    | some ρ1 =>
      rw [q1] at q
      refine ⟨v, vs, rfl, ?_⟩
      refine h.2 bs σ H ρ S Hf v d ρ1 _ r z1 q1 fun σ1 r1 l1 u1 => ?_
      refine hs.2 bs σ1 H ρ1 S Hf vs ds ρ' _ r1 zs q fun σ2 r2 l2 u2 => k σ2 r2 (l2.trans l1) fun j hj => ?_
      rw [u2 j fun m => hj (List.mem_append_right _ m), u1 j fun m => hj (List.mem_append_left _ m)]⟩
theorem jg_tup {k n : Nat} (hK : X.K = B.K) (hc : X.calm = true) (h : JGs X B es ts ix gs) (hn : (assignEach es X.env).length = n := by rfl) (hst : (assignEach es X.env).findIdx? (·.1) = none := by rfl) :
    JG X B (.Tuple es k pos) (gTup B.K n ts) ix (tgT n gs) := ⟨hK ▸ pg_tup hc h.1 hn hst, fun bs σ H ρ S Hf v d ρ' Q r z q k => by
  unfold tgT at q
  split at q
  · split at q
    · rename_i hl
      obtain ⟨a, vs, rfl, t, l⟩ := rep_tup (Ex.refl Hf) z
      exact ⟨a, vs, rfl, ex_t r.ex t, by rw [l.length]; exact hl, h.2 bs σ H ρ S Hf vs _ ρ' Q r l q k⟩
    · cases q
  · cases q⟩
/-- targets = e -/
def sAsg (g : D → Env → Option Env) (fa : Env → Dr → Out E) : Env → Dr → SO := fun ρ S => (fa ρ S).so ρ fun e S1 => match per e with
  | some d => match g d ρ with
    | some ρ' => .nx ρ' S1
    | none => .stk
  | none => .stk
theorem js_asg (h : JG X B b t ix g) (ha : JE X W B a fa) (hs : swapsWithSole [b] a pos.line X.env = pure false := by rfl) (hw : swappedStores [b] a X.env = pure none := by rfl)
    (h1 : (assignEach [b] X.env).map (·.2) = [assign b X.env] := by rfl) : JS X W B (.Assign [b] a pos) (sAsg g fa) := JS.mk (ps_asg pe_W h.1 hs hw h1) fun bs σ H ρ S Hf D r q => by
  show tW X a σ H fun x H1 => t x σ H1 D.nx
  refine ha.so r q fun e1 S1 v H1 Hf1 r1 n1 z1 h1 => ?_
  cases qp : per e1 with
  | none => rw [qp] at h1; exact h1.elim
  | some d =>
    rw [qp] at h1
    dsimp only at h1
    cases qg : g d ρ with
    | none => rw [qg] at h1; exact h1.elim
    | some ρ' =>
      rw [qg] at h1
      obtain ⟨Hf2, n2, x2, d2, z2⟩ := per_ok r1 n1 z1 qp
      exact h.2 bs σ H1 ρ S1 Hf2 v d ρ' _ (r.next n2 d2) z2 qg fun σ' r' _ _ => h1 σ' Hf2 H1 r'
end

/-! ### what is walked -/
def Wk (B : Bs) (bs : Hp × Hp) (c : Bool) (Hf1 H1 : Hp) (J : It) (ds : List D) : Prop :=
  ∃ (G : Hp → Prop) (Y : Nat → Hp → V → Hp → Prop), Walk J ds.length G Y ∧ (∀ Hf H ρ S σ, R B bs Hf ρ S σ H → Ex Hf1 Hf → (c = true → Go B H1 H) → G H) ∧
    ∀ i Hf H ρ S σ x H', i < ds.length → R B bs Hf ρ S σ H → Ex Hf1 Hf → (c = true → Go B H1 H) → Y i H x H' → ∃ d Hf', ds[i]? = some d ∧ Nx B Hf H Hf' H' ∧ DrR B Hf' S H' ∧ Rep B.K B.dr Hf' x d
def IPost (B : Bs) (W : WX) (bs : Hp × Hp) (c : Bool) (ρ : Env) (σ : L2.St) (Hf H : Hp) (o : Out (List D)) (P : It → Hp → Prop) : Prop := match o with
  | .ok ds S1 => ∀ J H1 Hf1, R B bs Hf1 ρ S1 σ H1 → Nx B Hf H Hf1 H1 → Wk B bs c Hf1 H1 J ds → P J H1
  | .exc C fs S1 => ∀ d Hf1 H1, Nx B Hf H Hf1 H1 → DrR B Hf1 S1 H1 → ExR B Hf1 H1 C fs d → W (.ref C) d σ H1
  | .stk => False
/-- an iterable; c: it may stand on a list that all stands (a comprehension's) -/
def JI (X : Cx) (W : WX) (B : Bs) (c : Bool) (tg iter : Expr) (f : Env → Dr → Out (List D)) : Prop :=
  ∃ wi, PI X tg iter wi ∧ ∀ (bs : Hp × Hp) (σ : L2.St) (H : Hp) (ρ : Env) (S : Dr) (Hf : Hp) (P : It → Hp → Prop), R B bs Hf ρ S σ H → IPost B W bs c ρ σ Hf H (f ρ S) P → wi σ H P
theorem PI.or {X : Cx} {tg iter : Expr} {w w' : TI} (h : PI X tg iter w) (h' : PI X tg iter w') : PI X tg iter (fun σ H P => w σ H P ∨ w' σ H P) :=
  ⟨fun pins s σ H P I q => q.elim (h.run pins s σ H P I) (h'.run pins s σ H P I)⟩
section
variable {X : Cx} {W : WX} {B : Bs} {bs : Hp × Hp} {Hs Hf H : Hp} {ρ : Env} {S : Dr} {σ : L2.St} {tg a b e : Expr} {es : List Expr} {fa fb : Env → Dr → Out E} {fr : Env → Dr → Out (List O)} {pos p2 : Pos} {c : Bool}
/-- the items of a frozen (or, in a comprehension, any) list -/
theorem wk_list {a : Addr} {vs : List V} {ds : List D} {Hf1 H1 : Hp} (l : RepL B.K B.dr Hf1 vs ds) (h : Hf1 a = some (.lst vs) ∨ (c = true ∧ H1 a = some (.lst vs) ∧ a ≠ B.dr ∧ a ≠ B.rs)) : Wk B bs c Hf1 H1 (Itl B.K a) ds := by
  refine ⟨fun H => SqL B.K H a vs, YAt vs, by rw [← l.length]; exact walk_list, fun Hf H ρ S σ r x g => ?_, fun i Hf H ρ S σ v H' hi r x g y => ?_⟩
  · rcases h with h | ⟨hc, h, n1, n2⟩
    · exact SqL.of (r.ex _ _ (x _ _ h))
    · exact SqL.of (g hc _ _ h n1 n2)
  · obtain ⟨rfl, y⟩ := y
    obtain ⟨d, hd, z⟩ := l.getV y
    exact ⟨d, Hf, hd, r.nx0, r.drw, z.mono x⟩
theorem wk_tup {a : Addr} {vs : List V} {ds : List D} {Hf1 H1 : Hp} (l : RepL B.K B.dr Hf1 vs ds) (h : SqT B.K Hf1 a vs) : Wk B bs c Hf1 H1 (Itt B.K a) ds := by
  refine ⟨fun H => SqT B.K H a vs, YAt vs, by rw [← l.length]; exact walk_tup, fun Hf H ρ S σ r x g => ex_t (x.trans r.ex) h, fun i Hf H ρ S σ v H' hi r x g y => ?_⟩
  obtain ⟨rfl, y⟩ := y
  obtain ⟨d, hd, z⟩ := l.getV y
  exact ⟨d, Hf, hd, r.nx0, r.drw, z.mono x⟩
/-- a list or a tuple, as a value -/
def itE (c : Bool) : E → Option (List D)
  | .v (.lst ds) => some ds
  | .v (.tup ds) => some ds
  | .n ds => some ds
  | .b ds => if c = true then some ds else none
  | _ => none
def fItr (c : Bool) (fa : Env → Dr → Out E) : Env → Dr → Out (List D) := fun ρ S => (fa ρ S).bind fun e S1 => Out.of (itE c e) S1
theorem ji_seq (hK : X.K = B.K) (ha : JE X W B a fa) : JI X W B c tg a (fItr c fa) := by
  refine ⟨_, PI.or (pi_list pe_W) (pi_tup pe_W), fun bs σ H ρ S Hf P r h => ?_⟩
  unfold fItr at h
  rw [hK]
  cases q : fa ρ S with
  | stk => rw [q] at h; exact h.elim
  | exc C fs S1 =>
    rw [q] at h
    refine .inl ?_
    show tW X a σ H fun x H1 => _
    refine ha.go bs σ H ρ S Hf _ r ?_
    rw [q]
    exact h
  | ok e S1 =>
    rw [q] at h
    by_cases ht : ∃ ds, e = .v (.tup ds)
    · obtain ⟨ds, rfl⟩ := ht
      refine .inr ?_
      show tW X a σ H fun x H1 => _
      refine ha.go bs σ H ρ S Hf _ r ?_
      rw [q]
      intro v Hf1 H1 n d z
      obtain ⟨a', vs, rfl, t, l⟩ := rep_tup (Ex.refl Hf1) (show Rep B.K B.dr Hf1 v (.tup ds) from z)
      exact ⟨a', rfl, ⟨vs, ex_t n.exf t⟩, h _ H1 Hf1 (r.next n d) n (wk_tup l t)⟩
    · refine .inl ?_
      show tW X a σ H fun x H1 => _
      refine ha.go bs σ H ρ S Hf _ r ?_
      rw [q]
      intro v Hf1 H1 n d z
      have h : IPost B W bs c ρ σ Hf H (Out.of (itE c e) S1) P := h
      cases e with
      | v d' =>
        cases d' with
        | tup ds => exact (ht ⟨ds, rfl⟩).elim
        | lst ds =>
          cases (show Rep B.K B.dr Hf1 v (.lst ds) from z) with
          | lst h1 l => exact ⟨_, rfl, ⟨_, SqL.of (n.exf _ _ h1)⟩, h _ H1 Hf1 (r.next n d) n (wk_list l (.inl h1))⟩
        | _ => exact h.elim
      | n ds =>
        obtain ⟨a', vs, rfl, h1, k1, k2, l, h3, h4⟩ := z
        obtain ⟨x, y, z⟩ := froz (r.next n d) n h1 k1 k2 h3 h4
        exact ⟨_, rfl, ⟨_, SqL.of h1⟩, h _ H1 _ (r.next x z) x (wk_list (l.mono y) (.inl upd_same))⟩
      | b ds =>
        obtain ⟨a', vs, rfl, h1, k1, k2, l⟩ := z
        by_cases hc : c = true
        · simp only [itE, if_pos hc] at h
          exact ⟨_, rfl, ⟨_, SqL.of h1⟩, h _ H1 Hf1 (r.next n d) n (wk_list l (.inr ⟨hc, h1, k1, k2⟩))⟩
        · simp only [itE, if_neg hc] at h
          exact h.elim
      | nd ds => exact h.elim
      | bd ds => exact h.elim
/-- range(n), range(a, b) -/
def rngD (lo : Int) (n : Nat) : List D := (List.range n).map fun i : Nat => D.int (lo + (i : Int))
theorem wk_range {lo : Int} {n : Nat} {Hf1 H1 : Hp} : Wk B bs c Hf1 H1 (Itr lo n) (rngD lo n) := by
  refine ⟨fun _ => True, YFn fun i => .int (lo + i), by unfold rngD; rw [List.length_map, List.length_range]; exact walk_range, fun _ _ _ _ _ _ _ _ => trivial, fun i Hf H ρ S σ v H' hi r x g y => ?_⟩
  obtain ⟨rfl, rfl⟩ := y
  unfold rngD at hi ⊢
  rw [List.length_map, List.length_range] at hi
  exact ⟨.int (lo + (i : Int)), Hf, by rw [List.getElem?_map, List.getElem?_range hi] <;> rfl, r.nx0, r.drw, .int _⟩
def gRng1 : List O → Option (List D)
  | [.v (.int j)] => if -(2 ^ 62) ≤ j ∧ j < 2 ^ 62 then some (rngD 0 j.toNat) else none
  | _ => none
def gRng2 : List O → Option (List D)
  | [.v (.int i), .v (.int j)] => if -(2 ^ 62) ≤ i ∧ i < 2 ^ 62 ∧ -(2 ^ 62) ≤ j ∧ j < 2 ^ 62 then some (rngD i (j - i).toNat) else none
  | _ => none
def fItC (g : List O → Option (List D)) (fr : Env → Dr → Out (List O)) : Env → Dr → Out (List D) := fun ρ S => (fr ρ S).bind fun os S1 => Out.of (g os) S1
theorem JA.it {g : List O → Option (List D)} {P : It → Hp → Prop} {P1 : List V → Hp → Prop} (ha : JA X W B es fr) (r : R B bs Hf ρ S σ H) (h : IPost B W bs c ρ σ Hf H (fItC g fr ρ S) P)
    (hk : ∀ os ds S1 vs H1 Hf1, R B bs Hf1 ρ S1 σ H1 → Nx B Hf H Hf1 H1 → AsR B Hf1 H1 vs os → g os = some ds → (∀ J, Wk B bs c Hf1 H1 J ds → P J H1) → P1 vs H1) : tWA X es σ H P1 := by
  refine ha.go bs σ H ρ S Hf _ r ?_
  unfold fItC at h
  cases q : fr ρ S with
  | stk => rw [q] at h; exact h.elim
  | exc C fs S1 => rw [q] at h; exact h
  | ok os S1 =>
    rw [q] at h
    intro vs Hf1 H1 n d z
    have h : IPost B W bs c ρ σ Hf H (Out.of (g os) S1) P := h
    cases qg : g os with
    | none => rw [qg] at h; exact h.elim
    | some ds =>
      rw [qg] at h
      exact hk os ds S1 vs H1 Hf1 (r.next n d) n z qg fun J w => h J H1 Hf1 (r.next n d) n w
theorem ji_range1 {p : Pos} (hm : X.mg "range" = none) (ha : JA X W B [a] fr) (hg : Gl X "range" := by rfl) (hs : starEach [a] X.env = [(false, eval a X.env)] := by exact star_1 rfl) : JI X W B c tg (.Call (.Name "range" p) [a] [] pos) (fItC gRng1 fr) :=
  ⟨_, pi_range1 hg hm pa_W hs, fun bs σ H ρ S Hf P r h => by
    show tWA X [a] σ H fun vs H1 => _
    refine ha.it r h fun os ds S1 vs H1 Hf1 r1 n1 z q k => ?_
    unfold gRng1 at q
    split at q
    · split at q
      · rename_i hb
        cases q
        obtain ⟨v, rfl, h1⟩ := as1 z
        cases (show Rep _ _ _ v (.int _) from h1)
        exact ⟨_, rfl, hb.1, hb.2, k _ wk_range⟩
      · cases q
    · cases q⟩
theorem ji_range2 {p : Pos} (hm : X.mg "range" = none) (ha : JA X W B [a, b] fr) (hg : Gl X "range" := by rfl) (hs : starEach [a, b] X.env = [(false, eval a X.env), (false, eval b X.env)] := by exact star_2 rfl rfl) (hs2 : starEach [b] X.env = [(false, eval b X.env)] := by exact star_1 rfl) :
    JI X W B c tg (.Call (.Name "range" p) [a, b] [] pos) (fItC gRng2 fr) :=
  ⟨_, pi_range2 hg hm pa_W hs hs2, fun bs σ H ρ S Hf P r h => by
    show tWA X [a, b] σ H fun vs H1 => _
    refine ha.it r h fun os ds S1 vs H1 Hf1 r1 n1 z q k => ?_
    unfold gRng2 at q
    split at q
    · split at q
      · rename_i hb
        cases q
        obtain ⟨v, v2, rfl, h1, h2⟩ := as2 z
        cases (show Rep _ _ _ v (.int _) from h1)
        cases (show Rep _ _ _ v2 (.int _) from h2)
        exact ⟨_, _, rfl, hb, k _ wk_range⟩
      · cases q
    · cases q⟩
end

/-! ### another base -/
section
variable {W : WX} {B : Bs} {bs : Hp × Hp} {Hf Hf1 H H1 : Hp} {ρ ρ1 : Env} {S S1 : Dr} {σ σ1 : L2.St} {D : Ends}
theorem R.rebase (r1 : R B bs Hf1 ρ1 S1 σ1 H1) (r : R B (Hf1, bs.2) Hf ρ S σ H) : R B bs Hf ρ S σ H :=
  ⟨r.ex, r1.exb.trans r.exb, fun a o h => by
    rcases r.fr a o h with q | q
    · exact r1.fr a o q
    · exact .inr q, r.nd, r.go, r.h0, r.drw, r.len, r.sl, r.inj⟩
theorem R.base (r1 : R B bs Hf1 ρ1 S1 σ1 H1) : R B (Hf1, bs.2) Hf1 ρ1 S1 σ1 H1 :=
  ⟨r1.ex, Ex.refl _, fun a o h => .inl h, r1.nd, r1.go, r1.h0, r1.drw, r1.len, r1.sl, r1.inj⟩
theorem Nx.rebase (r1 : R B bs Hf1 ρ1 S1 σ1 H1) (n : Nx B Hf1 bs.2 Hf H) : Nx B bs.1 bs.2 Hf H :=
  ⟨r1.exb.trans n.ex, n.exf, fun a o h => by
    rcases n.fr a o h with q | q
    · exact r1.fr a o q
    · exact .inr q, n.go, n.nd⟩
theorem SPost.rebase (r1 : R B bs Hf1 ρ1 S1 σ1 H1) {o : SO} (h : SPost B W bs D o) : SPost B W (Hf1, bs.2) D o := by
  cases o with
  | nx ρ S => exact fun σ Hf H r => h σ Hf H (R.rebase r1 r)
  | bk ρ S => exact fun σ Hf H r => h σ Hf H (R.rebase r1 r)
  | ct ρ S => exact fun σ Hf H r => h σ Hf H (R.rebase r1 r)
  | rt e S => exact fun v Hf H n d z => h v Hf H (Nx.rebase r1 n) d z
  | exc C fs ρ S => exact fun σ d Hf H r x => h σ d Hf H (R.rebase r1 r) x
  | stk => exact h
end

/-! ### for -/
def forD (tgt : D → Env → Option Env) (body : Env → Dr → SO) : List D → Env → Dr → SO
  | [], ρ, S => .nx ρ S
  | d :: ds, ρ, S => match tgt d ρ with
    | none => .stk
    | some ρ1 => match body ρ1 S with
      | .nx ρ2 S2 => forD tgt body ds ρ2 S2
      | .ct ρ2 S2 => forD tgt body ds ρ2 S2
      | .bk ρ2 S2 => .nx ρ2 S2
      | o => o
def sFor (fi : Env → Dr → Out (List D)) (tgt : D → Env → Option Env) (body : Env → Dr → SO) : Env → Dr → SO := fun ρ S => (fi ρ S).so ρ fun ds S1 => forD tgt body ds ρ S1
section
variable {X : Cx} {W : WX} {B : Bs} {bs : Hp × Hp} {Hs Hf H : Hp} {ρ : Env} {S : Dr} {σ : L2.St} {tg a b e : Expr} {sts : List Stmt} {fi : Env → Dr → Out (List D)} {fc : Env → Dr → Out Bool} {g : Env → Dr → SO} {tgt : D → Env → Option Env} {t : TG} {ix : List Nat} {pos : Pos}
theorem js_for (hp : PassesOwn (model X.prog X.w) X.A X.env X.xe) (hc : X.calm = true) (hi : JI X W B false tg a fi) (hg : JG X B tg t ix tgt) (hb : JB X W B sts g) (hs : ∀ x, foldedSetIterable a X.env x = pure x := by intro _; rfl) :
    JS X W B (.For tg a sts [] pos) (sFor fi tgt g) := by
  obtain ⟨wi, pw, qw⟩ := hi
  refine JS.mk (ps_for hp hc pw hg.1 pss_W hs) fun bs σ H ρ S Hf D r h => ?_
  refine qw bs σ H ρ S Hf _ r ?_
  unfold sFor at h
  cases q : fi ρ S with
  | stk => rw [q] at h; exact h
  | exc C fs S1 =>
    rw [q] at h
    exact fun d Hf1 H1 n dr x => h σ d Hf1 H1 (r.next n dr) x
  | ok ds S1 =>
    rw [q] at h
    have h : SPost B W bs D (forD tgt g ds ρ S1) := h
    intro J H1 Hf1 r1 n1 ⟨G, Y, w, hG, hY⟩
    refine for_it w (fun i σ H => ∃ ρ S Hf, R B (Hf1, bs.2) Hf ρ S σ H ∧ SPost B W bs D (forD tgt g (ds.drop i) ρ S)) ⟨ρ, S1, Hf1, r1.base, h⟩ (fun i σ H _ ⟨ρ, S, Hf, r, _⟩ => hG Hf H ρ S σ (R.rebase r1 r) r.exb fun z => nomatch z)
      (fun i x σ H H' hi ⟨ρ, S, Hf, r, k⟩ y => ?_) fun σ H ⟨ρ, S, Hf, r, k⟩ => ?_
    · obtain ⟨d, Hf', hd, n, dr, z⟩ := hY i Hf H ρ S σ x H' hi (R.rebase r1 r) r.exb (fun z => nomatch z) y
      have e : ds.drop i = d :: ds.drop (i + 1) := by
        obtain ⟨hl, e⟩ := List.getElem?_eq_some_iff.mp hd
        rw [← e]; exact (List.getElem_cons_drop hl).symm
      rw [e] at k
      unfold forD at k
      cases qg : tgt d ρ with
      | none => rw [qg] at k; exact k.elim
      | some ρ1 =>
        rw [qg] at k
        dsimp only at k
        refine hg.2 _ σ H' ρ S Hf' x d ρ1 _ (r.next n dr) z qg fun σ' r' _ _ => ?_
        refine hb.go _ σ' H' ρ1 S Hf' _ r' ?_
        cases qb : g ρ1 S with
        | nx ρ2 S2 => rw [qb] at k; exact fun σ2 Hf2 H2 r2 => ⟨ρ2, S2, Hf2, r2, k⟩
        | ct ρ2 S2 => rw [qb] at k; exact fun σ2 Hf2 H2 r2 => ⟨ρ2, S2, Hf2, r2, k⟩
        | bk ρ2 S2 => rw [qb] at k; exact fun σ2 Hf2 H2 r2 => k σ2 Hf2 H2 (R.rebase r1 r2)
        | rt e S2 => rw [qb] at k; exact fun v Hf2 H2 n2 d2 z2 => k v Hf2 H2 (Nx.rebase r1 n2) d2 z2
        | exc C fs ρ2 S2 => rw [qb] at k; exact fun σ2 d2 Hf2 H2 r2 x2 => k σ2 d2 Hf2 H2 (R.rebase r1 r2) x2
        | stk => rw [qb] at k; exact k
    · rw [List.drop_length] at k
      exact k σ Hf H (R.rebase r1 r)
end
end Dn

set_option Elab.async false
set_option linter.all false
set_option maxRecDepth 100000
set_option maxHeartbeats 4000000
namespace Dn
open PySem PySem.Spec PyProof.Rows L2

/-! ### list comprehensions -/
abbrev W0 : WX := fun _ _ _ _ => False
def tWB (X : Cx) (scope : Scope) (e : Expr) : TE := fun σ H Q => ∀ (s0 : Shared) (H0 : Hp) (C : Addr) (cl : List (Str × Addr)) (fp : List Addr) (pins : List (Addr × Obj)) (s : Shared),
  Inv (X.blk s0 H0 scope (compEnvC scope cl C X.env) fp) pins σ H s → wpAny (model X.prog X.w) X.A (eval e (compEnvC scope cl C X.env)) (EP (X.blk s0 H0 scope (compEnvC scope cl C X.env) fp) pins σ Q) (fun _ _ => False) s
def tWBT (X : Cx) (scope : Scope) (e : Expr) : TT := fun σ H Q => ∀ (s0 : Shared) (H0 : Hp) (C : Addr) (cl : List (Str × Addr)) (fp : List Addr) (pins : List (Addr × Obj)) (s : Shared),
  Inv (X.blk s0 H0 scope (compEnvC scope cl C X.env) fp) pins σ H s → wpAny (model X.prog X.w) X.A (isTrue e (compEnvC scope cl C X.env) (eval e (compEnvC scope cl C X.env))) (TP (X.blk s0 H0 scope (compEnvC scope cl C X.env) fp) pins σ Q) (fun _ _ => False) s
def JEB (X : Cx) (scope : Scope) (B : Bs) (e : Expr) (f : Env → Dr → Out E) : Prop := ∀ (s0 : Shared) (H0 : Hp) (C : Addr) (cl : List (Str × Addr)) (fp : List Addr), JE (X.blk s0 H0 scope (compEnvC scope cl C X.env) fp) W0 B e f
def JTB (X : Cx) (scope : Scope) (B : Bs) (e : Expr) (f : Env → Dr → Out Bool) : Prop := ∀ (s0 : Shared) (H0 : Hp) (C : Addr) (cl : List (Str × Addr)) (fp : List Addr), JT (X.blk s0 H0 scope (compEnvC scope cl C X.env) fp) W0 B e f
/-- a clause's tests -/
def JTs (X : Cx) (scope : Scope) (B : Bs) (ifs : List Expr) (f : Env → Dr → Out Bool) : Prop :=
  ∃ tt, (∀ (s0 : Shared) (H0 : Hp) (C : Addr) (cl : List (Str × Addr)) (fp : List Addr), PTs (X.blk s0 H0 scope (compEnvC scope cl C X.env) fp) ifs tt) ∧
    ∀ (bs : Hp × Hp) (σ : L2.St) (H : Hp) (ρ : Env) (S : Dr) (Hf : Hp) (Q : Bool → Hp → Prop), R B bs Hf ρ S σ H → EPost B W0 Hf σ H trel (f ρ S) Q → tt σ H Q
def fYes : Env → Dr → Out Bool := fun _ S => .ok true S
/-- a comprehension's items, one by one -/
def lcD (tgt : D → Env → Option Env) (ft : Env → Dr → Out Bool) (fe : Env → Dr → Out E) (ρ : Env) : List D → Dr → Out (List D)
  | [], S => .ok [] S
  | d :: ds, S => match tgt d ρ with
    | none => .stk
    | some ρ1 => (ft ρ1 S).bind fun c S1 => if c = true then (fe ρ1 S1).bind fun e S2 => match per e with
      | none => .stk
      | some x => (lcD tgt ft fe ρ ds S2).bind fun xs S3 => .ok (x :: xs) S3
      else lcD tgt ft fe ρ ds S1
def wipeE (ρ : Env) : List Nat → Env
  | [] => ρ
  | v :: vs => (wipeE ρ vs).set v none
def noExc {α : Type} : Out α → Out α
  | .ok a S => .ok a S
  | _ => .stk
def fLc (fi : Env → Dr → Out (List D)) (tgt : D → Env → Option Env) (ft : Env → Dr → Out Bool) (fe : Env → Dr → Out E) (vs : List Nat) : Env → Dr → Out E := fun ρ S => (fi ρ S).bind fun ds S1 => (noExc (lcD tgt ft fe (wipeE ρ vs) ds S1)).bind fun xs S2 => if xs.length ≤ sizeLine then .ok (.n xs) S2 else .stk

section
variable {X : Cx} {W : WX} {B : Bs} {bs : Hp × Hp} {Hs Hf H : Hp} {ρ : Env} {S : Dr} {σ : L2.St} {scope : Scope} {e c : Expr} {fe : Env → Dr → Out E} {fc : Env → Dr → Out Bool}
theorem jts_nil : JTs X scope B [] fYes := ⟨tYes, fun _ _ _ _ _ => pts_nil, fun bs σ H ρ S Hf Q r h => EPost.nowT r h⟩
theorem jts_one (h : JTB X scope B c fc) : JTs X scope B [c] fc := ⟨tWBT X scope c, fun s0 H0 C cl fp => pts_one ⟨fun pins s σ H Q I q => q s0 H0 C cl fp pins s I⟩, fun bs σ H ρ S Hf Q r q s0 H0 C cl fp pins s I => (h s0 H0 C cl fp).go bs σ H ρ S Hf Q r q pins s I⟩
theorem wipeE_length (ρ : Env) : ∀ vs, (wipeE ρ vs).length = ρ.length
  | [] => rfl
  | v :: vs => by unfold wipeE; rw [List.length_set, wipeE_length ρ vs]
theorem wipeE_some {ρ : Env} {j : Nat} {o : O} : ∀ {vs : List Nat}, (wipeE ρ vs)[j]? = some (some o) → ρ[j]? = some (some o) ∧ j ∉ vs
  | [], h => ⟨h, by simp⟩
  | v :: vs, h => by
    unfold wipeE at h
    rcases set_some h with ⟨_, q, _⟩ | ⟨ne, q⟩
    · cases q
    · obtain ⟨h1, h2⟩ := wipeE_some q
      exact ⟨h1, by simp [ne, h2]⟩
theorem wipe_get {σ : L2.St} {j : Nat} : ∀ {vs : List Nat}, j ∉ vs → (wipe σ vs)[j]? = σ[j]?
  | [], _ => rfl
  | v :: vs, h => by
    unfold wipe
    rw [List.getElem?_set_ne (fun q => h (by simp [q]))]
    exact wipe_get fun q => h (List.mem_cons_of_mem _ q)
theorem R.wipe (r : R B bs Hf ρ S σ H) (vs : List Nat) : R B bs Hf (wipeE ρ vs) S (wipe σ vs) H :=
  ⟨r.ex, r.exb, r.fr, r.nd, r.go, r.h0, r.drw, by rw [wipeE_length, wipe_length]; exact r.len, fun i o h => by
    obtain ⟨h1, h2⟩ := wipeE_some h
    obtain ⟨v, e, s⟩ := r.sl i o h1
    exact ⟨v, by rw [wipe_get h2]; exact e, s⟩, fun i j oi oj a hi hj wi wj ei ej => by
    obtain ⟨h1, h2⟩ := wipeE_some hi
    obtain ⟨h3, h4⟩ := wipeE_some hj
    rw [wipe_get h2] at ei
    rw [wipe_get h4] at ej
    exact r.inj i j oi oj a h1 h3 wi wj ei ej⟩
theorem wipe_eq {σ σ' : L2.St} {ix : List Nat} : ∀ {vs : List Nat}, σ'.length = σ.length → (∀ j, j ∉ ix → σ'[j]? = σ[j]?) → (∀ i ∈ ix, i ∈ vs) → L2.wipe σ' vs = L2.wipe σ vs := fun {vs} hl hu hs => by
  apply List.ext_getElem?
  intro j
  by_cases hj : j ∈ vs
  · have aux : ∀ (τ : L2.St) (ws : List Nat), j ∈ ws → (L2.wipe τ ws)[j]? = if j < τ.length then some none else none := fun τ ws => by
      induction ws with
      | nil => intro q; cases q
      | cons w ws ih =>
        intro q
        unfold L2.wipe
        rw [List.getElem?_set]
        by_cases e : w = j
        · rw [if_pos e, wipe_length]
          subst e
          split <;> rfl
        · rw [if_neg e]
          exact ih (by rcases List.mem_cons.mp q with z | z; exact (e z.symm).elim; exact z)
    rw [aux σ' vs hj, aux σ vs hj, hl]
  · rw [wipe_get hj, wipe_get hj]
    exact hu j fun m => hj (hs j m)
theorem wipe_idem {σ : L2.St} {vs : List Nat} : L2.wipe (L2.wipe σ vs) vs = L2.wipe σ vs := wipe_eq (wipe_length _ _) (fun j hj => wipe_get hj) fun _ h => h
/-- an object that the state does not know is changed -/
theorem R.updX (r : R B bs Hf ρ S σ H) {p : Addr} {o : HO} (h1 : Hf p = none) (h2 : bs.2 p = none) (h3 : ∀ (i : Nat) oi, ρ[i]? = some (some oi) → oi.own = true → σ[i]? ≠ some (some (V.ref p))) : R B bs Hf ρ S σ (upd H p o) := by
  obtain ⟨n1, n2⟩ := r.ne0 p h2
  refine ⟨fun a u e => ?_, r.exb, r.fr, r.nd, fun a u e m1 m2 => ?_, r.h0, ⟨?_, r.drw.cl, ?_, r.drw.ne⟩, r.len, fun i oi hi => ?_, r.inj⟩
  · rw [upd_ne (fun q => by rw [q, h1] at e; cases e)]; exact r.ex a u e
  · rw [upd_ne (fun q => by rw [q, h2] at e; cases e)]; exact r.go a u e m1 m2
  · rw [upd_ne (Ne.symm n1)]; exact r.drw.dr
  · rw [upd_ne (Ne.symm n2)]; exact r.drw.rs
  · obtain ⟨v, e, s⟩ := r.sl i oi hi
    refine ⟨v, e, ?_⟩
    cases oi with
    | v d => exact s
    | l ds =>
      obtain ⟨b, vs, rfl, k1, k2, k3, k4⟩ := s
      exact ⟨b, vs, rfl, by rw [upd_ne (show b ≠ p from fun q => h3 i _ hi rfl (by rw [← q]; exact e))]; exact k1, k2, k3, k4⟩
    | d ds =>
      obtain ⟨b, vs, rfl, k1, k2, k3, k4⟩ := s
      exact ⟨b, vs, rfl, by rw [upd_ne (show b ≠ p from fun q => h3 i _ hi rfl (by rw [← q]; exact e))]; exact k1, k2, k3, k4⟩
    | lt ds => exact s
    | ld ds => exact s
    | x C fs => exact s
    | ob C fs =>
      obtain ⟨rfl, dx, vs, k1, k2, k3, k4⟩ := s
      exact ⟨rfl, dx, vs, by rw [upd_ne (show B.me ≠ p from fun q => h3 i _ hi rfl (by rw [← q]; exact e))]; exact k1, k2, k3, k4⟩
theorem Nx.updX {Hf1 H1 : Hp} (n : Nx B Hf1 H1 Hf H) {p : Addr} {o : HO} (h1 : Hf p = none) (h2 : H1 p = none) : Nx B Hf1 H1 Hf (upd H p o) :=
  ⟨n.ex, fun a u e => by rw [upd_ne (fun q => by rw [q, h1] at e; cases e)]; exact n.exf a u e, n.fr, fun a u e m1 m2 => by rw [upd_ne (fun q => by rw [q, h2] at e; cases e)]; exact n.go a u e m1 m2, n.nd⟩
theorem lc_read1 {tg elt : Expr} {own : List (Str × Nat)} {fi : Env → Dr → Out (List D)} {tgt : D → Env → Option Env} {t : TG} {ix : List Nat} {wi : TI} {tt : TT}
    (qw : ∀ (P : It → Hp → Prop), IPost B W bs true ρ σ Hf H (fi ρ S) P → wi σ H P)
    (qt : ∀ (bs : Hp × Hp) (σ : L2.St) (H : Hp) (ρ : Env) (S : Dr) (Hf : Hp) (Q : Bool → Hp → Prop), R B bs Hf ρ S σ H → EPost B W0 Hf σ H trel (fc ρ S) Q → tt σ H Q)
    (hg : ∀ (s : Shared) (H : Hp) (C : Addr) (cl : List (Str × Addr)) (fp : List Addr), JG (X.blk s H scope (compEnvC scope cl C X.env) fp) B tg t ix tgt) (he : JEB X scope B elt fe) (hix : ∀ i ∈ ix, i ∈ own.map (·.2))
    {Q : VK} (r : R B bs Hf ρ S σ H) (h : EPost B W Hf σ H (erel B) (fLc fi tgt fc fe (own.map (·.2)) ρ S) Q) : tLc wi t tt (tWB X scope elt) (own.map (·.2)) σ H Q := by
  refine qw _ ?_
  unfold fLc at h
  cases q : fi ρ S with
  | stk => rw [q] at h; exact h
  | exc C fs S1 => rw [q] at h; exact h
  | ok ds S1 =>
    rw [q] at h
    intro J H1 Hf1 r1 n1 ⟨G, Y, w, hG, hY⟩ D hD
    have h : EPost B W Hf σ H (erel B) ((noExc (lcD tgt fc fe (wipeE ρ (own.map (·.2))) ds S1)).bind fun xs S2 => if xs.length ≤ sizeLine then .ok (.n xs) S2 else .stk) Q := h
    cases ql : lcD tgt fc fe (wipeE ρ (own.map (·.2))) ds S1 with
    | stk => rw [ql] at h; exact h.elim
    | exc C fs S2 => rw [ql] at h; exact h.elim
    | ok all Sz =>
      rw [ql] at h
      by_cases hz : all.length ≤ sizeLine
      · have h : EPost B W Hf σ H (erel B) (if all.length ≤ sizeLine then .ok (.n all) Sz else .stk) Q := h
        rw [if_pos hz] at h
        have D0 : bs.2 D = none := r1.free0 hD
        have Df1 : Hf1 D = none := r1.freeH hD
        obtain ⟨nd1, nd2⟩ := r1.dr_ne hD
        have nDo : ∀ (i : Nat) oi, (wipeE ρ (own.map (·.2)))[i]? = some (some oi) → oi.own = true → (L2.wipe σ (own.map (·.2)))[i]? ≠ some (some (V.ref D)) := fun i oi hi w e => by
          obtain ⟨a, u, e1, e2, _⟩ := (r1.wipe (own.map (·.2))).own_at hi w
          rw [e] at e1
          cases e1
          rw [hD] at e2
          cases e2
        generalize hρw : wipeE ρ (own.map (·.2)) = ρw at ql nDo
        have rw1 : R B bs Hf1 ρw S1 (L2.wipe σ (own.map (·.2))) H1 := hρw ▸ r1.wipe _
        refine lc_it w (fun i H => ∃ S Hf vs acc xs, R B bs Hf ρw S (L2.wipe σ (own.map (·.2))) H ∧ Nx B Hf1 H1 Hf H ∧ H D = some (.lst vs) ∧ RepL B.K B.dr Hf vs acc ∧ Hf D = none ∧ lcD tgt fc fe ρw (ds.drop i) S = .ok xs Sz ∧ acc ++ xs = all)
          ⟨S1, Hf1, [], [], all, rw1.updX Df1 D0 nDo, rw1.nx0.updX Df1 hD, upd_same, .nil, Df1, ql, rfl⟩ (fun i H _ ⟨S, Hf, vs, acc, xs, r, n, _⟩ => hG Hf H ρw S _ r n.ex fun _ => n.go) (fun i x H H' hi ⟨S, Hf, vs, acc, xs, r, n, eD, l, fD, el, ea⟩ y => ?_) fun H ⟨S, Hf, vs, acc, xs, r, n, eD, l, fD, el, ea⟩ => ?_
        · obtain ⟨d, Hf', hd, n', dr', z⟩ := hY i Hf H ρw S _ x H' hi r n.ex (fun _ => n.go) y
          have e : ds.drop i = d :: ds.drop (i + 1) := by
            obtain ⟨hl, e⟩ := List.getElem?_eq_some_iff.mp hd
            rw [← e]; exact (List.getElem_cons_drop hl).symm
          rw [e] at el
          unfold lcD at el
          cases qg : tgt d ρw with
          | none => rw [qg] at el; cases el
          | some ρ1 =>
            rw [qg] at el
            dsimp only at el
            -- D at each step
            have keepD : ∀ {Ha Hb Hfa Hfb : Hp} {u}, Nx B Hfa Ha Hfb Hb → Ha D = some u → Hfa D = none → Hb D = some u ∧ Hfb D = none := fun {Ha Hb Hfa Hfb u} m e1 e2 => by
              refine ⟨m.go _ _ e1 nd1 nd2, ?_⟩
              cases q : Hfb D with
              | none => rfl
              | some v =>
                rcases m.fr _ _ q with z | z
                · rw [e2] at z; cases z
                · rw [e1] at z; cases z
            obtain ⟨eD', fD'⟩ := keepD n' eD fD
            refine (hg X.s_0 (fun _ => none) 0 [] []).2 bs (L2.wipe σ (own.map (·.2))) H' ρw S Hf' x d ρ1 _ (r.next n' dr') z qg ?_
            intro σ2 r2 l2 u2
            refine ⟨(wipe_eq l2 u2 hix).trans wipe_idem, ?_⟩
            refine qt bs σ2 H' ρ1 S Hf' _ r2 ?_
            cases qc : fc ρ1 S with
            | stk => rw [qc] at el; cases el
            | exc C fs S2 => rw [qc] at el; cases el
            | ok c S2 =>
              rw [qc] at el
              intro v2 Hf2 H2 n2 d2 z2
              have z2 : c = v2 := z2
              subst z2
              have r3 := r2.next n2 d2
              obtain ⟨eD2, fD2⟩ := keepD n2 eD' fD'
              cases c with
              | false =>
                have el : lcD tgt fc fe ρw (ds.drop (i + 1)) S2 = .ok xs Sz := el
                have m := n'.trans n2
                exact ⟨S2, Hf2, vs, acc, xs, r.next m d2, n.trans m, eD2, l.mono m.ex, fD2, el, ea⟩
              | true =>
                have el : ((fe ρ1 S2).bind fun e S2 => match per e with
                  | none => Out.stk
                  | some x => (lcD tgt fc fe ρw (ds.drop (i + 1)) S2).bind fun xs S3 => .ok (x :: xs) S3) = .ok xs Sz := el
                show tWB X scope elt σ2 H2 _
                intro s0 H0 C cl fp pins s I
                refine (he s0 H0 C cl fp).go bs σ2 H2 ρ1 S2 Hf2 _ r3 ?_ pins s I
                cases qe : fe ρ1 S2 with
                | stk => rw [qe] at el; cases el
                | exc C fs S3 => rw [qe] at el; cases el
                | ok e1 S3 =>
                  rw [qe] at el
                  intro v Hf3 H3 n3 d3 z3
                  have el : (match per e1 with
                    | none => Out.stk
                    | some x => (lcD tgt fc fe ρw (ds.drop (i + 1)) S3).bind fun xs S3 => .ok (x :: xs) S3) = .ok xs Sz := el
                  cases qp : per e1 with
                  | none => rw [qp] at el; cases el
                  | some xd =>
                    rw [qp] at el
                    obtain ⟨Hf4, n4, x4, d4, z4⟩ := per_ok (r3.next n3 d3) n3 z3 qp
                    have el : ((lcD tgt fc fe ρw (ds.drop (i + 1)) S3).bind fun xs S3 => .ok (xd :: xs) S3) = .ok xs Sz := el
                    cases qr : lcD tgt fc fe ρw (ds.drop (i + 1)) S3 with
                    | stk => rw [qr] at el; cases el
                    | exc C fs S4 => rw [qr] at el; cases el
                    | ok ys S4 =>
                      rw [qr] at el
                      cases el
                      obtain ⟨eD4, fD4⟩ := keepD n4 eD2 fD2
                      have m := n'.trans (n2.trans n4)
                      have hl : acc.length < sizeLine := by
                        rw [← ea] at hz
                        simp only [List.length_append, List.length_cons] at hz
                        omega
                      exact ⟨vs, eD4, by rw [l.length]; exact hl, S3, Hf4, vs ++ [v], acc ++ [xd], ys, (r.next m d4).updX fD4 D0 nDo, (n.trans m).updX fD4 hD, upd_same, (l.mono m.ex).append (.one z4), fD4, qr, by rw [← ea, List.append_assoc]; rfl⟩
        · rw [List.drop_length] at el
          cases el
          rw [List.append_nil] at ea
          subst ea
          have n2 := n1.trans n
          exact h _ Hf H n2 r.drw ⟨D, vs, rfl, eD, nd1, nd2, l, fD, n1.free r1.drw hD⟩
      · have h : EPost B W Hf σ H (erel B) (if all.length ≤ sizeLine then .ok (.n all) Sz else .stk) Q := h
        rw [if_neg hz] at h
        exact h.elim
theorem lc_read {tg elt : Expr} {own : List (Str × Nat)} {fi : Env → Dr → Out (List D)} {tgt : D → Env → Option Env} {t : TG} {ix : List Nat} {wi : TI} {tt : TT}
    (qw : ∀ (bs : Hp × Hp) (σ : L2.St) (H : Hp) (ρ : Env) (S : Dr) (Hf : Hp) (P : It → Hp → Prop), R B bs Hf ρ S σ H → IPost B W bs true ρ σ Hf H (fi ρ S) P → wi σ H P)
    (qt : ∀ (bs : Hp × Hp) (σ : L2.St) (H : Hp) (ρ : Env) (S : Dr) (Hf : Hp) (Q : Bool → Hp → Prop), R B bs Hf ρ S σ H → EPost B W0 Hf σ H trel (fc ρ S) Q → tt σ H Q)
    (hg : ∀ (s : Shared) (H : Hp) (C : Addr) (cl : List (Str × Addr)) (fp : List Addr), JG (X.blk s H scope (compEnvC scope cl C X.env) fp) B tg t ix tgt) (he : JEB X scope B elt fe) (hix : ∀ i ∈ ix, i ∈ own.map (·.2))
    {Q : VK} (r : R B bs Hf ρ S σ H) (h : EPost B W Hf σ H (erel B) (fLc fi tgt fc fe (own.map (·.2)) ρ S) Q) : tLc wi t tt (tWB X scope elt) (own.map (·.2)) σ H Q := lc_read1 (fun P => qw bs σ H ρ S Hf P r) qt hg he hix r h
theorem je_lc {tg iter elt : Expr} {ifs : List Expr} {own : List (Str × Nat)} {pos : Pos} {fi : Env → Dr → Out (List D)} {tgt : D → Env → Option Env} {t : TG} {ix : List Nat} (hc : X.calm = true) (hN : X.N.Nodup) (hi : JI X W B true tg iter fi) (ok : BlkOk X.N X.env.scope scope own)
    (hg : ∀ (s : Shared) (H : Hp) (C : Addr) (cl : List (Str × Addr)) (fp : List Addr), JG (X.blk s H scope (compEnvC scope cl C X.env) fp) B tg t ix tgt) (ht : JTs X scope B ifs fc) (he : JEB X scope B elt fe) (hix : ∀ i ∈ ix, i ∈ own.map (·.2) := by decide)
    (hs : ∀ x, foldedSetIterable iter X.env x = pure x := by intro _; rfl) : JE X W B (.ListComp elt [⟨tg, iter, ifs, 0⟩] scope pos) (fLc fi tgt fc fe (own.map (·.2))) := by
  obtain ⟨wi, pw, qw⟩ := hi
  obtain ⟨tt, pt, qt⟩ := ht
  exact JE.mk (pe_lc (te := tWB X scope elt) hc hN pw ok (fun s H C cl fp => (hg s H C cl fp).1) pt (fun s0 H0 C cl fp => ⟨fun pins s σ H Q I q => q s0 H0 C cl fp pins s I⟩) hs) fun bs σ H ρ S Hf Q r h => lc_read qw qt hg he hix r h
end
end Dn

set_option Elab.async false
set_option linter.all false
set_option maxRecDepth 100000
set_option maxHeartbeats 4000000
namespace Dn
open PySem PySem.Spec PyProof.Rows L2

/-! ### enumerate(tuple) -/
set_option maxHeartbeats 1000000 in
theorem enum_newB {v : Value} {o : Obj} {H : Heap → Prop} (Bg : Begins v o H) :
    Meets (Builtin.«enumerate.__new__» ⟨[.type "enumerate", v], []⟩) (fun _ R s => H s.heap ∧
      R (.ok (.ret (.ref (s.heap.push o).objs.size))) { s with heap := (s.heap.push o).push { cls := .type "enumerate", data := .fields #[.none, .bool false, .ref s.heap.objs.size, rawInt 0, .none, .none] } }) :=
  .of_wp fun prog w A R s h => by
    obtain ⟨hp, g, d, tk, os⟩ := s; obtain ⟨h1, h⟩ := h
    have hsub := sub_enumerate
    have q1 : ∀ {A' : Around} {E : Value → Shared → Prop} {Q : Value → Shared → Prop}, Q (.ref hp.objs.size) ⟨hp.push o, g, d, tk, os⟩ → wpAny (model prog w) A' (pyIter v) Q E ⟨hp, g, d, tk, os⟩ :=
      fun q => Bg.iter prog w _ _ ⟨hp, g, d, tk, os⟩ _ h1 q
    wp_walk using q1
    refine wpAny_stack_any fun st => wpAny_pure ?_
    split
    · rename_i c _ _ _ _ _
      cases (c == Value.type "enumerate")
      · wp_walk using q1
        exact ⟨_, rfl, h⟩
      · wp_walk using q1
        exact ⟨_, rfl, h⟩
    · wp_walk using q1
      exact ⟨_, rfl, h⟩
section
variable {prog : Program} {w : World} {A : Around} {E : Value → Shared → Prop} {s : Shared}
theorem enum_begins1 {v : Value} {o : Obj} {H : Heap → Prop} {Q : Value → Shared → Prop} (B : Begins v o H) (h1 : H s.heap)
    (h : ∀ h', IsEnum h' (s.heap.objs.size + 1) s.heap.objs.size 0 .none → h'.get? s.heap.objs.size = some o → h'.objs.size = s.heap.objs.size + 2 →
      (∀ b o, s.heap.get? b = some o → h'.get? b = some o) → Q (.ref (s.heap.objs.size + 1)) { s with heap := h' }) :
    wpAny (model prog w) A (call (.type "enumerate") [v]) Q E s := by
  refine callType_new F.called_enumerate (by decide) (F.typeCall_enumerate_1 _) (F.newCall_enumerate_1 _) (fun obj => F.args_object_init_2 obj _) F.entry_enumerate_new
    (enum_newB B) ⟨h1, ?_⟩
  have hz : (s.heap.push o).objs.size = s.heap.objs.size + 1 := Heap.size_push ..
  show _ ∧ _
  rw [hz]
  have he : IsEnum ((s.heap.push o).push { cls := .type "enumerate", data := .fields #[.none, .bool false, .ref s.heap.objs.size, rawInt 0, .none, .none] }) (s.heap.objs.size + 1) s.heap.objs.size 0 .none := by
    have := Heap.get?_push_size (s.heap.push o) (o := { cls := .type "enumerate", data := .fields #[.none, .bool false, .ref s.heap.objs.size, rawInt 0, .none, .none] }) rfl
    rw [hz] at this; exact this
  refine ⟨⟨_, he, rfl⟩, h _ he (Heap.get?_push_of_some _ (Heap.get?_push_size _ B.free)) (by rw [Heap.size_push, hz]) fun b o x => Heap.get?_push_of_some _ (Heap.get?_push_of_some _ x)⟩
end
/-- the tuple at a, each item in a new pair -/
def IteT (K : PySem.W.Frag) (a : Addr) : It :=
  ⟨fun i H => ∃ (xs : List V) (x : V), SqT K H a xs ∧ xs[i]? = some x, fun i H v H' => ∃ T x, v = .ref T ∧ H T = none ∧ H' = upd H T (.tup [.int (i : Nat), x]) ∧ ∀ xs, SqT K H a xs → xs[i]? = some x, fun i H => ∃ xs : List V, SqT K H a xs ∧ xs.length = i⟩
theorem turn_enumT {P : Program} {w : World} {K : PySem.W.Frag} {elts : List Expr} {kk : Nat} {tpos : Pos} (a e it : Addr) :
    Turn P w K (.Tuple elts kk tpos) (IteT K a) [e, it] e (fun i h => (∃ old, IsEnum h e it ((i : Nat) : Int) old) ∧ h.IsTupleIter it a i ∧ e ≠ it) where
  mem := by simp
  obj := fun i h st b hb => by
    obtain ⟨⟨old, he⟩, ⟨o, ho, hc, hd⟩, _⟩ := st
    have e' : b = e ∨ b = it := by simpa using hb
    rcases e' with z | z
    · rw [z]; exact ⟨_, he, fun v q => nomatch q⟩
    · rw [z]; exact ⟨o, ho, fun v q => by rw [hd] at q; cases q⟩
  keep := fun i h h' st k => let ⟨⟨old, he⟩, hi, hne⟩ := st; ⟨⟨old, k e (by simp) _ he⟩, hi.at fun o q => k it (by simp) o q, hne⟩
  item := by
    intro X hP hw hK hc i pins s σ H E I hf st hg
    subst hP hw hK
    obtain ⟨⟨old, he⟩, hit, hne⟩ := st
    obtain ⟨xs, x, hq, hx⟩ := hg
    obtain ⟨its, rv, p, hz⟩ := I.tuple hq
    obtain ⟨u, hu, ru⟩ := rv.get hx
    have hel : e < s.heap.objs.size := Heap.lt_size he
    have hil : it < s.heap.objs.size := by obtain ⟨_, q, _⟩ := hit; exact Heap.lt_size q
    have ha : s.heap.IsTuple a its.toArray := p
    have nea : e ≠ a := fun q => by
      obtain ⟨o, ho, hcl, _⟩ := ha
      rw [← q] at ho
      rw [show s.heap.get? e = _ from he] at ho
      cases ho
      exact absurd (show (Value.type "enumerate") = .type "tuple" from hcl) (by decide)
    have nia : a ≠ it := fun q => by
      obtain ⟨o, ho, hcl, _⟩ := ha
      obtain ⟨o2, ho2, hc2, _⟩ := hit
      rw [q, ho2] at ho
      cases ho
      rw [hc2] at hcl
      exact absurd hcl (by decide)
    have hlt : i < its.toArray.size := by
      have := (List.getElem?_eq_some_iff.mp hu).1
      simpa using this
    refine wpAny_pyNext_enum_itemC (Draws.tuple (prog := X.prog) (w := X.w) (A := X.A.in1) (I.ok.hd hc) it a nia its.toArray) he ⟨hit, ha⟩ hlt hne (by simp [hne, nea]) fun u' h' tk hP ho hs' hT hsz hk => ?_
    have eu : u' = u := by
      have h1 : its.toArray[i]? = some u' := hP
      have h2 : its.toArray[i]? = some u := by simpa using hu
      rw [h1] at h2; exact Option.some.inj h2
    subst eu
    obtain ⟨hit', _⟩ := hs'
    refine ⟨_, rfl, wpAny_letOwnedTupleGo_enum (s := { s with heap := h', toks := tk + 1 }) ho fun h'' he' sb => ?_⟩
    have hT2 : h''.get? s.heap.objs.size = some { cls := .type "tuple", data := .seq #[.int i tk, u'] } := (sb.2 _ (Nat.ne_of_gt hel)).trans hT
    have new : ObjOk X.prog X.w (upd H s.heap.objs.size (.tup [.int (i : Nat), x])) h'' s.heap.objs.size (.tup [.int (i : Nat), x]) :=
      ⟨by show 2 ≤ sizeLine; decide, [.int i tk, u'], .cons ⟨_, rfl⟩ (.cons ru .nil), ⟨_, hT2, rfl, _, rfl⟩⟩
    have I1 : Inv X pins σ (upd H s.heap.objs.size (.tup [.int (i : Nat), x])) { s with heap := h'', toks := tk + 1 } :=
      I.turnedNew (ch := [e, it]) (fun b ob hb q => (sb.2 b (fun z => hb (by simp [z]))).trans (hk b ob (fun z => hb (by simp [z])) (fun z => hb (by simp [z])) q)) hf (Nat.le_refl _) new
    refine ⟨.ref s.heap.objs.size, _, I1, rfl, ⟨_, x, rfl, I.hok.fresh (Nat.le_refl _), rfl, fun ys hy => by rw [I.tuple_inj hy hq]; exact hx⟩, ⟨⟨u', ?_⟩, hit'.at fun o q => (sb.2 it (Ne.symm hne)).trans q, hne⟩, fun b hb => ?_⟩
    · have e1 : ((i + 1 : Nat) : Int) = (i : Int) + 1 := by omega
      rw [e1]; exact he'
    · have hb' : b < s.heap.objs.size := by
        have e' : b = e ∨ b = it := by simpa using hb
        rcases e' with z | z
        · rw [z]; exact hel
        · rw [z]; exact hil
      rw [upd_ne (Nat.ne_of_lt hb')]
      exact (hf b hb).1
  done := by
    intro X hP hw hK hc i pins s σ H E I hf st hg
    subst hP hw hK
    obtain ⟨⟨old, he⟩, hit, hne⟩ := st
    obtain ⟨xs, hq, hx⟩ := hg
    obtain ⟨its, rv, p, hz⟩ := I.tuple hq
    obtain ⟨f0, f1, f2, f3, f4, f5⟩ := hf it (by simp)
    have hl := rv.length
    have ha : s.heap.IsTuple a its.toArray := p
    have nia : a ≠ it := fun q => by
      obtain ⟨o, ho, hcl, _⟩ := ha
      obtain ⟨o2, ho2, hc2, _⟩ := hit
      rw [q, ho2] at ho
      cases ho
      rw [hc2] at hcl
      exact absurd hcl (by decide)
    have hi : i = its.toArray.size := by simp; omega
    rw [hi] at hit
    exact (wpAny_pyNext_enum_endD (Draws.tuple (prog := X.prog) (w := X.w) (A := X.A.in1) (I.ok.hd hc) it a nia its.toArray) he ⟨hit, ha⟩ fun h' eb => ⟨rfl, I.turned (t' := s.toks) (fun b o hb q => eb b o hb q) f0 f1 f3 f4 f5⟩)
  self := fun A i s Q E st h => let ⟨⟨_, he⟩, _⟩ := st; wpAny_pyIter_enum he h
def iEnumT (K : PySem.W.Frag) (ta : TA) : TI := fun σ H R => ta σ H fun vs H1 => ∃ a xs, vs = [.ref a] ∧ SqT K H1 a xs ∧ R (IteT K a) H1
theorem pi_enumT {X : Cx} {e : Expr} {ta : TA} {p pos tpos : Pos} {elts : List Expr} {kk : Nat} (hg : Gl X "enumerate") (hm : X.mg "enumerate" = none) (ha : PA X [e] ta) (hs : starEach [e] X.env = [(false, eval e X.env)] := by exact star_1 rfl) :
    PI X (.Tuple elts kk tpos) (.Call (.Name "enumerate" p) [e] [] pos) (iEnumT X.K ta) := by
  refine ⟨fun pins s σ H R I h => ?_⟩
  refine Call_ (ld_blt I hg hm boot_enumerate (PyProof.Rows.callWith_type1 (thn (ha.run pos pins s σ H _ I h) fun us s1 ⟨vs, H1, I1, r1, q1⟩ => ?_) hs rfl))
  obtain ⟨a, xs, ex, hq, q⟩ := q1
  subst ex
  cases r1 with
  | cons r rr =>
    cases rr
    cases r
    obtain ⟨its, rv, p', hz⟩ := I1.tuple hq
    refine enum_begins1 (begins_tuple a its.toArray) p' fun h' he hit hsz hk => wpAny_pyIter_enum he ?_
    have I2 : Inv X pins σ H1 { s1 with heap := h' } := I1.kept (t' := s1.toks) hk
    refine ⟨s1.heap.objs.size + 1, [s1.heap.objs.size + 1, s1.heap.objs.size], _, _, H1, rfl, I2, turn_enumT a (s1.heap.objs.size + 1) s1.heap.objs.size, ⟨⟨.none, he⟩, ⟨_, hit, rfl, rfl⟩, Nat.succ_ne_self _⟩, fun b hb => ?_, q⟩
    have e' : b = s1.heap.objs.size + 1 ∨ b = s1.heap.objs.size := by simpa using hb
    have hle : s1.heap.objs.size ≤ b := by
      rcases e' with z | z
      · rw [z]; exact Nat.le_add_right _ _
      · rw [z]; exact Nat.le_refl _
    exact I1.fpOk hle (I1.hok.fresh hle)
theorem walk_enumT {K : PySem.W.Frag} {a : Addr} {xs : List V} : Walk (IteT K a) xs.length (fun H => SqT K H a xs) (YPair (fun i => some (.int (i : Nat))) (fun i => xs[i]?)) := by
  refine ⟨fun i _ hi q => ⟨xs, xs[i], q, by simp [hi]⟩, fun _ q => ⟨xs, q, rfl⟩, fun i H v H' _ q y => ?_⟩
  obtain ⟨T, x, h1, h2, h3, h4⟩ := y
  exact ⟨T, .int (i : Nat), x, h1, h2, h3, rfl, h4 xs q⟩
theorem walk_zipT {K : PySem.W.Frag} {a b : Addr} {xs ys : List V} {n : Nat} (hn : n = min xs.length ys.length) : Walk (RZ.ItzT K a b) n (fun H => SqT K H a xs ∧ SqT K H b ys) (YPair (fun i => xs[i]?) (fun i => ys[i]?)) := by
  subst hn
  refine ⟨fun i _ hi q => ?_, fun _ q => ⟨xs, ys, q.1, q.2, by omega⟩, fun i H v H' _ q y => ?_⟩
  · have h1 : i < xs.length := by omega
    have h2 : i < ys.length := by omega
    exact ⟨xs, ys, xs[i], ys[i], q.1, q.2, by simp [h1], by simp [h2]⟩
  · obtain ⟨T, x, z, h1, h2, h3, h4, h5⟩ := y
    exact ⟨T, x, z, h1, h2, h3, h4 xs q.1, h5 ys q.2⟩

/-! ### pairs that are walked -/
section
variable {X : Cx} {W : WX} {B : Bs} {bs : Hp × Hp} {Hs Hf H Hf1 H1 : Hp} {ρ : Env} {S : Dr} {σ : L2.St} {a b e : Expr} {es : List Expr} {fr : Env → Dr → Out (List O)} {c : Bool}
/-- an argument that is a list or a tuple, in a place where it stands -/
def itO (c : Bool) : O → Option (List D)
  | .v (.lst ds) => some ds
  | .v (.tup ds) => some ds
  | .lt ds => if c = true then some ds else none
  | _ => none
/-- the list at a stands -/
def StL (B : Bs) (c : Bool) (Hf1 H1 : Hp) (a : Addr) (vs : List V) : Prop := Hf1 a = some (.lst vs) ∨ (c = true ∧ H1 a = some (.lst vs) ∧ a ≠ B.dr ∧ a ≠ B.rs)
theorem StL.at {vs : List V} {l : Addr} (h : StL B c Hf1 H1 l vs) (r : R B bs Hf ρ S σ H) (x : Ex Hf1 Hf) (g : c = true → Go B H1 H) : SqL B.K H l vs := by
  rcases h with h | ⟨hc, h, n1, n2⟩
  · exact SqL.of (r.ex _ _ (x _ _ h))
  · exact SqL.of (g hc _ _ h n1 n2)
theorem itO_ok {v : V} {o : O} {ds : List D} (h : ArR B Hf1 H1 v o) (q : itO c o = some ds) : ∃ l vs, v = .ref l ∧ RepL B.K B.dr Hf1 vs ds ∧ ((StL B c Hf1 H1 l vs ∧ o.tu = none) ∨ (SqT B.K Hf1 l vs ∧ o.tu = some ds)) := by
  cases o with
  | v d =>
    cases d <;> simp [itO] at q
    · subst q
      cases (show Rep _ _ _ v (.tup _) from h) with
      | tup h1 l => exact ⟨_, _, rfl, l, .inr ⟨h1, rfl⟩⟩
    · subst q
      cases (show Rep _ _ _ v (.lst _) from h) with
      | lst h1 l => exact ⟨_, _, rfl, l, .inl ⟨.inl h1, rfl⟩⟩
  | lt ds =>
    simp [itO] at q
    obtain ⟨hc, q⟩ := q
    subst q
    obtain ⟨l, vs, rfl, h1, h2, h3, h4⟩ := h
    exact ⟨l, vs, rfl, h4, .inl ⟨.inr ⟨hc, h1, h2, h3⟩, rfl⟩⟩
  | _ => cases q
/-- a new pair at each turn -/
theorem wk_pair {J : It} {G : Hp → Prop} {xs ys : Nat → Option V} {ps : List D} (w : Walk J ps.length G (YPair xs ys)) (hG : ∀ Hf H ρ S σ, R B bs Hf ρ S σ H → Ex Hf1 Hf → (c = true → Go B H1 H) → G H)
    (hp : ∀ i x y, xs i = some x → ys i = some y → ∃ d d', ps[i]? = some (.tup [d, d']) ∧ Rep B.K B.dr Hf1 x d ∧ Rep B.K B.dr Hf1 y d') : Wk B bs c Hf1 H1 J ps := by
  refine ⟨G, _, w, hG, fun i Hf H ρ S σ v H' hi r x g y => ?_⟩
  obtain ⟨T, u, z, rfl, hT, rfl, hx, hy⟩ := y
  obtain ⟨d, d', e, h1, h2⟩ := hp i u z hx hy
  have n := r.newF (o := .tup [u, z]) hT
  exact ⟨_, _, e, n, r.drw.new hT n.ex, .tup (SqT.of upd_same) (.cons ((h1.mono x).mono n.ex) (.one ((h2.mono x).mono n.ex)))⟩
def enumD (ds : List D) : List D := (List.range ds.length).zipWith (fun (i : Nat) d => D.tup [.int (i : Int), d]) ds
def zipD (xs ys : List D) : List D := List.zipWith (fun x y => D.tup [x, y]) xs ys
def gEnum (c : Bool) : List O → Option (List D)
  | [o] => (itO c o).map enumD
  | _ => none
def gZip (c : Bool) : List O → Option (List D)
  | [o, o2] => match itO c o, itO c o2 with
    | some xs, some ys => if o.tu.isSome = o2.tu.isSome then some (zipD xs ys) else none
    | _, _ => none
  | _ => none
theorem zipW_get {α β γ : Type} (f : α → β → γ) : ∀ (xs : List α) (ys : List β) (i : Nat) x y, xs[i]? = some x → ys[i]? = some y → (List.zipWith f xs ys)[i]? = some (f x y) := fun xs ys i x y h1 h2 => by
  rw [List.getElem?_zipWith, h1, h2]
theorem ji_enum {p pos tpos : Pos} {elts : List Expr} {kk : Nat} (hK : X.K = B.K) (hm : X.mg "enumerate" = none) (ha : JA X W B [e] fr) (hg : Gl X "enumerate" := by rfl) (hs : starEach [e] X.env = [(false, eval e X.env)] := by exact star_1 rfl) :
    JI X W B c (.Tuple elts kk tpos) (.Call (.Name "enumerate" p) [e] [] pos) (fItC (gEnum c) fr) := by
  refine ⟨_, PI.or (pi_enum hg hm pa_W hs) (pi_enumT hg hm pa_W hs), fun bs σ H ρ S Hf P r h => ?_⟩
  have core : ∀ (tu : Bool), (∀ os S1, fr ρ S = .ok os S1 → ∀ o, os = [o] → ∀ ds, itO c o = some ds → o.tu.isSome = tu) →
      tWA X [e] σ H fun vs H1 => ∃ a xs, vs = [.ref a] ∧ (if tu then (SqT B.K H1 a xs ∧ P (IteT B.K a) H1) else (SqL B.K H1 a xs ∧ P (Ite B.K a) H1)) := fun tu ht => by
    refine ha.go bs σ H ρ S Hf _ r ?_
    unfold fItC at h
    cases q : fr ρ S with
    | stk => rw [q] at h; exact h.elim
    | exc C fs S1 => rw [q] at h; exact h
    | ok os S1 =>
      rw [q] at h
      intro vs Hf1 H1 n d z
      have h : IPost B W bs c ρ σ Hf H (Out.of (gEnum c os) S1) P := h
      cases qg : gEnum c os with
      | none => rw [qg] at h; exact h.elim
      | some ps =>
        rw [qg] at h
        have k : ∀ J, Wk B bs c Hf1 H1 J ps → P J H1 := fun J w => h J H1 Hf1 (r.next n d) n w
        unfold gEnum at qg
        split at qg
        · rename_i o
          simp only [Option.map_eq_some_iff] at qg
          obtain ⟨ds, qi, rfl⟩ := qg
          have tu_eq := ht _ _ q _ rfl _ qi
          obtain ⟨v, rfl, h1⟩ := as1 z
          obtain ⟨l, vs, rfl, rl, hh⟩ := itO_ok h1 qi
          have len : (enumD ds).length = vs.length := by unfold enumD; simp [rl.length]
          have pr : ∀ (i : Nat) x y, (some (V.int (i : Nat))) = some x → vs[i]? = some y → ∃ d d', (enumD ds)[i]? = some (.tup [d, d']) ∧ Rep B.K B.dr Hf1 x d ∧ Rep B.K B.dr Hf1 y d' := fun i x y hx hy => by
            cases hx
            obtain ⟨d, hd, zd⟩ := rl.getV hy
            have hi := (List.getElem?_eq_some_iff.mp hd).1
            exact ⟨.int i, d, zipW_get _ _ _ i i d (by rw [List.getElem?_range hi]) hd, .int _, zd⟩
          refine ⟨l, vs, rfl, ?_⟩
          rcases hh with ⟨st, et⟩ | ⟨st, et⟩
          · rw [et] at tu_eq
            cases tu_eq
            exact ⟨st.at (r.next n d) (Ex.refl _) (fun _ => Go.refl), k _ (wk_pair (by rw [len]; exact walk_enum) (fun Hf H ρ S σ r x g => st.at r x g) pr)⟩
          · rw [et] at tu_eq
            cases tu_eq
            exact ⟨ex_t n.exf st, k _ (wk_pair (by rw [len]; exact walk_enumT) (fun Hf H ρ S σ r x g => ex_t (x.trans r.ex) st) pr)⟩
        · cases qg
  rw [hK]
  by_cases ht : ∃ os S1 o ds, fr ρ S = .ok os S1 ∧ os = [o] ∧ itO c o = some ds ∧ o.tu.isSome = true
  · refine .inr ?_
    have z := core true fun os S1 q o e ds qi => by
      obtain ⟨os', S1', o', ds', q', e', qi', t'⟩ := ht
      rw [q] at q'
      cases q'
      rw [e] at e'
      cases e'
      exact t'
    exact z
  · refine .inl ?_
    have z := core false fun os S1 q o e ds qi => by
      cases t : o.tu.isSome with
      | false => rfl
      | true => exact (ht ⟨os, S1, o, ds, q, e, qi, t⟩).elim
    exact z
theorem ji_zip {p pos tpos : Pos} {elts : List Expr} {kk : Nat} (hK : X.K = B.K) (hm : X.mg "zip" = none) (ha : JA X W B [a, b] fr) (hg : Gl X "zip" := by rfl) (hs : starEach [a, b] X.env = (false, eval a X.env) :: starEach [b] X.env := by exact star_c rfl) (hpl : (backTo pos (starEach [b] X.env)).any (·.1) = false := by exact star_any rfl) :
    JI X W B c (.Tuple elts kk tpos) (.Call (.Name "zip" p) [a, b] [] pos) (fItC (gZip c) fr) :=
  ⟨_, RZ.pi_zipA hg hm pa_W hs hpl, fun bs σ H ρ S Hf P r h => by
    show tWA X [a, b] σ H fun vs H1 => _
    refine ha.it r h fun os ps S1 vs H1 Hf1 r1 n1 z q k => ?_
    rw [hK]
    unfold gZip at q
    split at q
    · rename_i o o2
      split at q
      · rename_i xs ys q1 q2
        split at q
        · rename_i ht
          cases q
          obtain ⟨v, v2, rfl, h1, h2⟩ := as2 z
          obtain ⟨l, vs, rfl, rl, hh⟩ := itO_ok h1 q1
          obtain ⟨l2, vs2, rfl, rl2, hh2⟩ := itO_ok h2 q2
          have len : (zipD xs ys).length = min vs.length vs2.length := by unfold zipD; simp [rl.length, rl2.length]
          have pr : ∀ (i : Nat) x y, vs[i]? = some x → vs2[i]? = some y → ∃ d d', (zipD xs ys)[i]? = some (.tup [d, d']) ∧ Rep B.K B.dr Hf1 x d ∧ Rep B.K B.dr Hf1 y d' := fun i x y hx hy => by
            obtain ⟨d, hd, zd⟩ := rl.getV hx
            obtain ⟨d', hd', zd'⟩ := rl2.getV hy
            exact ⟨d, d', zipW_get _ _ _ i d d' hd hd', zd, zd'⟩
          refine ⟨l, l2, vs, vs2, rfl, ?_⟩
          rcases hh with ⟨st, et⟩ | ⟨st, et⟩
          · rcases hh2 with ⟨st2, et2⟩ | ⟨st2, et2⟩
            · exact .inl ⟨st.at r1 (Ex.refl _) (fun _ => Go.refl), st2.at r1 (Ex.refl _) (fun _ => Go.refl), k _ (wk_pair (walk_zip len) (fun Hf H ρ S σ r x g => ⟨st.at r x g, st2.at r x g⟩) pr)⟩
            · rw [et, et2] at ht; cases ht
          · rcases hh2 with ⟨st2, et2⟩ | ⟨st2, et2⟩
            · rw [et, et2] at ht; cases ht
            · exact .inr ⟨ex_t r1.ex st, ex_t r1.ex st2, k _ (wk_pair (walk_zipT len) (fun Hf H ρ S σ r x g => ⟨ex_t (x.trans r.ex) st, ex_t (x.trans r.ex) st2⟩) pr)⟩
        · cases q
      · cases q
    · cases q⟩
end
end Dn

set_option Elab.async false
set_option linter.all false
set_option maxRecDepth 100000
set_option maxHeartbeats 4000000
namespace Dn
open PySem PySem.Spec PyProof.Rows L2

/-! ### while -/
def whileD (ft : Env → Dr → Out Bool) (g : Env → Dr → SO) : Nat → Env → Dr → SO
  | 0, _, _ => .stk
  | n + 1, ρ, S => (ft ρ S).so ρ fun c S1 => if c = true then match g ρ S1 with
    | .nx ρ2 S2 => whileD ft g n ρ2 S2
    | .ct ρ2 S2 => whileD ft g n ρ2 S2
    | .bk ρ2 S2 => .nx ρ2 S2
    | o => o
    else .nx ρ S1
section
variable {X : Cx} {W : WX} {B : Bs} {bs : Hp × Hp} {Hs Hf H : Hp} {ρ : Env} {S : Dr} {σ : L2.St} {c e : Expr} {es : List Expr} {sts : List Stmt} {fc : Env → Dr → Out Bool} {g : Env → Dr → SO} {fr : Env → Dr → Out (List O)} {pos : Pos}
theorem js_while (n : Nat) (hp : PassesOwn (model X.prog X.w) X.A X.env X.xe) (hc : JT X W B c fc) (hb : JB X W B sts g) : JS X W B (.While c sts [] pos) (whileD fc g n) :=
  JS.mk (ps_while hp pt_W pss_W) fun bs σ H ρ S Hf D r h => by
    refine ⟨fun m σ H => ∃ ρ S Hf, R B bs Hf ρ S σ H ∧ SPost B W bs D (whileD fc g m ρ S), ⟨n, ρ, S, Hf, r, h⟩, ?_⟩
    rintro m σ H ⟨ρ, S, Hf, r, h⟩
    cases m with
    | zero => exact h.elim
    | succ m =>
      unfold whileD at h
      refine hc.so r h fun d S1 H1 Hf1 r1 n1 q => ?_
      cases d with
      | false => exact iteF (q σ Hf1 H1 r1)
      | true =>
        refine iteT ⟨fun σ' H' => ∃ ρ S Hf, R B bs Hf ρ S σ' H' ∧ SPost B W bs D (whileD fc g m ρ S), fun σ' H' w => ⟨m, Nat.lt_succ_self m, w⟩, ?_⟩
        have q : SPost B W bs D (match g ρ S1 with
          | .nx ρ2 S2 => whileD fc g m ρ2 S2
          | .ct ρ2 S2 => whileD fc g m ρ2 S2
          | .bk ρ2 S2 => .nx ρ2 S2
          | o => o) := q
        refine hb.go bs σ H1 ρ S1 Hf1 _ r1 ?_
        cases qb : g ρ S1 with
        | nx ρ2 S2 => rw [qb] at q; exact fun σ2 Hf2 H2 r2 => ⟨ρ2, S2, Hf2, r2, q⟩
        | ct ρ2 S2 => rw [qb] at q; exact fun σ2 Hf2 H2 r2 => ⟨ρ2, S2, Hf2, r2, q⟩
        | bk ρ2 S2 => rw [qb] at q; exact q
        | rt e S2 => rw [qb] at q; exact q
        | exc C fs ρ2 S2 => rw [qb] at q; exact q
        | stk => rw [qb] at q; exact q

/-! ### defs -/
/-- the promise: n arguments; the meaning F -/
def spF (B : Bs) (n : Nat) (F : List O → Dr → Out E) : Sp := fun vs H Q E => vs.length = n ∧ ∃ os S Hf, Ex Hf H ∧ (Hf B.dr = none ∧ Hf B.rs = none) ∧ DrR B Hf S H ∧ AsR B Hf H vs os ∧ EPost B (fun c d _ H' => E c d H') Hf [] H (erel B) (F os S) Q
def fUse (n : Nat) (F : List O → Dr → Out E) (fa : Env → Dr → Out (List O)) : Env → Dr → Out E := fun ρ S => (fa ρ S).bind fun os S1 => if os.length = n then F os S1 else .stk
theorem as_len {vs : List V} {os : List O} (z : AsR B Hf H vs os) : vs.length = os.length := Paired.length z
theorem useF {n : Nat} {F : List O → Dr → Out E} {Q : VK} (r1 : R B bs Hf ρ S σ H) {vs : List V} {os : List O} (z : AsR B Hf H vs os) (hl : os.length = n) (h : EPost B W Hf σ H (erel B) (F os S) Q) : spF B n F vs H Q (WE W σ) := by
  refine ⟨by rw [as_len z, hl], os, S, Hf, r1.ex, r1.nd, r1.drw, z, ?_⟩
  cases q : F os S with
  | ok e S2 => rw [q] at h; exact h
  | exc C fs S2 => rw [q] at h; exact h
  | stk => rw [q] at h; exact h
/-- f(e, ..), f a def of the module -/
theorem je_call {n : Nat} {F : List O → Dr → Out E} {k : Nat} {f : Addr} {fd : FuncData} {ps : List Str} {x : Str} {p : Pos} (G : FnOk X.prog X.w X.K X.mg X.base (L2.CX X.prog X.w) k f fd ps (spF B n F)) (hr : Room k X.A) (hm : X.mg x = some (.ref f)) (hk : PySem.W.keepIn X.K (.ref f) = true) (hb : Binds X.K fd ps [])
    (tk : Takes X W) (ha : JA X W B (e :: es) fr) (hg : Gl X x := by rfl) (hdb : (x == ("__debug__" : Str)) = false := by decide) (he : starEach (e :: es) X.env = (false, eval e X.env) :: starEach es X.env := by exact star_c rfl) (hpl : (backTo pos (starEach es X.env)).any (·.1) = false := by exact star_any rfl) :
    JE X W B (.Call (.Name x p) (e :: es) [] pos) (fUse n F fr) :=
  JE.mk (pe_callSD (E := WE W) G hr hg hm hk hb .nil (fun σ => passAt tk σ) pa_W hdb he hpl) fun bs σ H ρ S Hf Q r h => by
    show tWA X (e :: es) σ H fun vs H1 => spF B n F (vs ++ []) H1 Q (WE W σ)
    refine ha.bind r h back_e fun os S1 vs H1 Hf1 r1 n1 z1 h1 => ?_
    split at h1
    · rename_i hl
      rw [List.append_nil]
      exact useF r1 z1 hl h1
    · exact h1.elim
/-- .. within a comprehension: nothing is raised -/
theorem takes_blk {X : Cx} : Takes X W0 := takes0
def startE (N : Nat) (os : List O) : Env := os.map some ++ List.replicate (N - os.length) none
def runF (N : Nat) (g : Env → Dr → SO) : List O → Dr → Out E := fun os S => match g (startE N os) S with
  | .nx _ S' => .ok (.v .non) S'
  | .rt e S' => .ok e S'
  | .exc C fs _ S' => .exc C fs S'
  | _ => .stk
theorem as_get : ∀ {vs : List V} {os : List O} {i : Nat} {o : O}, AsR B Hf H vs os → os[i]? = some o → ∃ v, vs[i]? = some v ∧ ArR B Hf H v o
  | _, _, _, _, .nil, e => by simp at e
  | _, _, 0, _, .cons h _, e => by simp at e; subst e; exact ⟨_, rfl, h⟩
  | _, _, i + 1, o, .cons _ l, e => by
    obtain ⟨v, h1, h2⟩ := as_get (i := i) (o := o) l (by simpa using e)
    exact ⟨v, by simpa using h1, h2⟩
theorem start_r {N : List Str} {vs : List V} {os : List O} (hx : Ex Hf H) (hn : Hf B.dr = none ∧ Hf B.rs = none) (d : DrR B Hf S H) (z : AsR B Hf H vs os) : R B (Hf, H) Hf (startE N.length os) S (L2.start N vs) H := by
  have at_ : ∀ {i : Nat} {o : O}, (startE N.length os)[i]? = some (some o) → os[i]? = some o := fun {i o} h => by
    unfold startE at h
    rw [List.getElem?_append] at h
    split at h
    · rw [List.getElem?_map] at h
      cases e : os[i]? with
      | none => rw [e] at h; cases h
      | some o' => rw [e] at h; cases h; rfl
    · rw [List.getElem?_replicate] at h
      split at h
      · cases h
      · cases h
  refine ⟨hx, Ex.refl _, fun a o h => .inl h, hn, Go.refl, ⟨⟨_, d.dr⟩, _, d.rs⟩, d, by unfold startE L2.start; simp [as_len z], fun i o h => ?_, fun i j oi oj a hi hj wi wj _ _ => ?_⟩
  · have h1 := at_ h
    obtain ⟨v, e, s⟩ := as_get z h1
    refine ⟨v, ?_, ?_⟩
    · unfold L2.start
      have hl := (List.getElem?_eq_some_iff.mp e).1
      rw [List.getElem?_append_left (by rw [List.length_map]; exact hl), List.getElem?_map, e]
      rfl
    · cases o with
      | v d => exact s
      | lt ds => exact s
      | ld ds => exact s
      | l ds => exact s.elim
      | d ds => exact s.elim
      | x C fs => exact s.elim
      | ob C fs => exact s.elim
  · obtain ⟨v, e, s⟩ := as_get z (at_ hi)
    cases oi with
    | v d => cases wi
    | lt d => cases wi
    | ld d => cases wi
    | l d => exact s.elim
    | d d => exact s.elim
    | x C fs => exact s.elim
    | ob C fs => exact s.elim
/-- a def keeps the promise of its meaning -/
theorem jf_mk {P : Program} {w : World} {K : PySem.W.Frag} {mg : Str → Option Value} {base : Heap} {x qual : Str} {st : Stmt} {f : Addr} {fd : FuncData} {N ps : List Str} {k : Nat} {g : Env → Dr → SO} (F : Fun K x qual st f fd) (Sc : FnScope N ps (defScope st))
    (hbody : ∀ (cdv : Value) (A : Around) (outer : List PySem.Env) (s : Shared) (H : Hp) (E : XK), Room k (A.deeper (envOfC qual (defScope st) s.heap.objs.size f cdv)) →
      JB (cxOf (L2.CX P w) P w K mg base N qual (defScope st) f cdv A outer s H E) (fun cls d _ H => E cls d H) B (defBody st) g) : FnOk P w K mg base (L2.CX P w) (k + 1) f fd ps (spF B ps.length (runF N.length g)) := by
  refine F.okX Sc (fun vs H Q E h => h.1) fun cdv A outer s H vs Q E hr h => ?_
  obtain ⟨_, os, S, Hf, hx, hn, d, z, q⟩ := h
  refine ⟨tWSs _ (defBody st), pss_W, ?_⟩
  refine (hbody cdv A outer s H E hr).go (Hf, H) (L2.start N vs) H (startE N.length os) S Hf _ (start_r hx hn d z) ?_
  unfold runF at q
  cases qg : g (startE N.length os) S with
  | nx ρ' S' => rw [qg] at q; exact fun σ' Hf' H' r' => q .non Hf' H' r'.whole r'.drw Rep.non
  | rt e S' => rw [qg] at q; exact fun v Hf' H' n d z => q v Hf' H' n d z
  | exc C fs ρ' S' => rw [qg] at q; exact fun σ' dd Hf' H' r' x => q dd Hf' H' r'.whole r'.drw x
  | bk ρ' S' => rw [qg] at q; exact q.elim
  | ct ρ' S' => rw [qg] at q; exact q.elim
  | stk => rw [qg] at q; exact q.elim
end

/-! ### raise -/
/-- the promise of an exception's __init__ that keeps its arguments under the names -/
def spX (C : Addr) (names : List Str) : Sp := fun vs H Q _ => ∃ a ys, vs = .ref a :: ys ∧ ys.length = names.length ∧ H a = some (exo a C none) ∧ ∀ (d : Addr) (H2 : Hp), H d = none → H2 a = some (exo a C (some d)) → H2 d = some (exd d (names.zip ys).reverse) →
  (∀ b o, b ≠ a → H b = some o → H2 b = some o) → Q .non H2
def sRaise (C : Addr) (names : List Str) (fr : Env → Dr → Out (List O)) : Env → Dr → SO := fun ρ S => (fr ρ S).so ρ fun os S1 => match vals os with
  | some ds => if ds.length = names.length then .exc C (names.zip ds).reverse ρ S1 else .stk
  | none => .stk
section
variable {H : Hp}
theorem RepF.append {K : PySem.W.Frag} {dr : Addr} : ∀ {vs ws : List (Str × V)} {ds fs : List (Str × D)}, RepF K dr H vs ds → RepF K dr H ws fs → RepF K dr H (vs ++ ws) (ds ++ fs)
  | _, _, _, _, .nil, m => m
  | _, _, _, _, .cons h l, m => .cons h (l.append m)
theorem RepF.rev {K : PySem.W.Frag} {dr : Addr} : ∀ {vs : List (Str × V)} {ds : List (Str × D)}, RepF K dr H vs ds → RepF K dr H vs.reverse ds.reverse
  | _, _, .nil => .nil
  | _, _, .cons h l => by
    rw [List.reverse_cons, List.reverse_cons]
    exact l.rev.append (.cons h .nil)
theorem RepF.zip {K : PySem.W.Frag} {dr : Addr} : ∀ (ns : List Str) {vs : List V} {ds : List D}, RepL K dr H vs ds → RepF K dr H (ns.zip vs) (ns.zip ds)
  | [], _, _, _ => by simp; exact .nil
  | _ :: _, _, _, .nil => by simp; exact .nil
  | n :: ns, _, _, .cons h l => .cons h (RepF.zip ns l)
end
section
variable {X : Cx} {W : WX} {B : Bs} {bs : Hp × Hp} {Hs Hf H : Hp} {ρ : Env} {S : Dr} {σ : L2.St} {e : Expr} {es : List Expr} {fr : Env → Dr → Out (List O)} {D : Ends}
theorem JA.so {k : List O → Dr → SO} {P : List V → Hp → Prop} (ha : JA X W B es fr) (r : R B bs Hf ρ S σ H) (h : SPost B W bs D ((fr ρ S).so ρ k))
    (hk : ∀ os S1 vs H1 Hf1, R B bs Hf1 ρ S1 σ H1 → Nx B Hf H Hf1 H1 → AsR B Hf1 H1 vs os → SPost B W bs D (k os S1) → P vs H1) : tWA X es σ H P := by
  refine ha.go bs σ H ρ S Hf P r ?_
  cases q : fr ρ S with
  | ok e1 S1 =>
    rw [q] at h
    exact fun v Hf1 H1 n d z => hk e1 S1 v H1 Hf1 (r.next n d) n z h
  | exc C fs S1 =>
    rw [q] at h
    exact fun d Hf1 H1 n dr x => h σ d Hf1 H1 (r.next n dr) x
  | stk => rw [q] at h; exact h
theorem js_raise {C fI : Addr} {k : Nat} {fd : FuncData} {ps names : List Str} {x : Str} {p pos pos' : Pos} (T : OexC X.K C) (iC : PySem.W.findIn X.K (.ref C) "__init__" = some (some (.ref fI))) (tI : PySem.W.typeIn X.K (.ref fI) = some (.type "function"))
    (F1 : FnOk X.prog X.w X.K X.mg X.base CX0 k fI fd ps (spX C names)) (hr : Room (k + 1) X.A) (hb : Binds X.K fd ps []) (hm : X.mg x = some (.ref C)) (hc : X.calm = true) (tk : Takes X W) (hsz : names.length ≤ 1000) (ha : JA X W B (e :: es) fr) (hg : Gl X x := by rfl)
    (hdb : (x == ("__debug__" : Str)) = false := by decide) (he : starEach (e :: es) X.env = (false, eval e X.env) :: starEach es X.env := by exact star_c rfl) (hpl : (backTo pos (starEach es X.env)).any (·.1) = false := by exact star_any rfl) :
    JS X W B (.Raise (some (.Call (.Name x p) (e :: es) [] pos)) none pos') (sRaise C names fr) :=
  JS.mk (ps_raise hc tk (pmk_oex T iC tI F1 hr hb .nil pass0 hg hm pa_W hdb he hpl)) fun bs σ H ρ S Hf D r h => by
    show tWA X (e :: es) σ H fun vs H1 => _
    refine ha.so r h fun os S1 vs H1 Hf1 r1 n1 z1 q => ?_
    cases qv : vals os with
    | none => rw [qv] at q; exact q.elim
    | some ds =>
      rw [qv] at q
      dsimp only at q
      split at q
      · rename_i hl
        have l := vals_ok z1 qv
        refine ⟨by rw [l.length, hl]; exact hsz, fun a ha => ?_⟩
        obtain ⟨na1, na2⟩ := r1.dr_ne ha
        refine ⟨a, vs, by rw [List.append_nil], by rw [l.length, hl], upd_same, fun d H2 hd h1 h2 h3 => ⟨rfl, d, _, h1, h2, ?_, ?_⟩⟩
        · cases e : H1 d with
          | none => rfl
          | some o => rw [upd_ne (ne_of_none e ha)] at hd; rw [e] at hd; cases hd
        · have nda : d ≠ a := fun q => by rw [q, upd_same] at hd; cases hd
          have hd1 : H1 d = none := by rw [upd_ne nda] at hd; exact hd
          have k : Ex H1 (upd (del H2 a) d (.xd (names.zip vs).reverse)) := fun b o hb => by
            have nb : b ≠ a := ne_of_none hb ha
            rw [upd_ne (ne_of_none hb hd1), del_ne nb]
            exact h3 b o nb (by rw [upd_ne nb]; exact hb)
          have n2 : Nx B Hf1 H1 Hf1 (upd (del H2 a) d (.xd (names.zip vs).reverse)) := ⟨Ex.refl _, r1.ex.trans k, fun _ _ z => .inl z, Go.of_ex k, r1.nd⟩
          have d2 : DrR B Hf1 S1 (upd (del H2 a) d (.xd (names.zip vs).reverse)) := ⟨k _ _ r1.drw.dr, r1.drw.cl, k _ _ r1.drw.rs, r1.drw.ne⟩
          exact q σ (some d) Hf1 _ (r1.next n2 d2) ⟨d, _, rfl, upd_same, r1.freeH hd1, (RepF.zip names l).rev⟩
      · exact q.elim
end
end Dn

set_option Elab.async false
set_option linter.all false
set_option maxRecDepth 100000
set_option maxHeartbeats 4000000
namespace Dn
open PySem PySem.Spec PyProof.Rows L2

/-! ### try .. except X as e -/
abbrev Bs.exc (B : Bs) (a dd C : Addr) : Bs := { B with ex := a, xd := dd, xc := C }
def noX (ρ : Env) : Bool := ρ.all fun o => match o with
  | some (.x _ _) => false
  | _ => true
theorem noX_get {ρ : Env} (h : noX ρ = true) {i : Nat} {C : Addr} {fs : List (Str × D)} (e : ρ[i]? = some (some (.x C fs))) : False := by
  have m := List.mem_of_getElem? e
  have := List.all_eq_true.mp h _ m
  cases this
/-- behind the suite: the name is gone -/
def unX (i : Nat) : SO → SO
  | .nx ρ S => if noX (ρ.set i none) = true then .nx (ρ.set i none) S else .stk
  | .rt e S => .rt e S
  | .bk ρ S => if noX (ρ.set i none) = true then .bk (ρ.set i none) S else .stk
  | .ct ρ S => if noX (ρ.set i none) = true then .ct (ρ.set i none) S else .stk
  | _ => .stk
def sTry (i : Nat) (mt : Addr → Option Bool) (gb gs : Env → Dr → SO) : Env → Dr → SO := fun ρ S => match gb ρ S with
  | .exc C fs ρ1 S1 => match mt C with
    | some true => if noX ρ1 = true ∧ i < ρ1.length then unX i (gs (ρ1.set i (some (.x C fs))) S1) else .stk
    | some false => .exc C fs ρ1 S1
    | none => .stk
  | o => o
section
variable {W : WX} {B : Bs} {bs : Hp × Hp} {Hs Hf H : Hp} {ρ : Env} {S : Dr} {σ : L2.St} {a dd C : Addr} {fv : List (Str × V)} {fs : List (Str × D)}
theorem R.toX (r : R B bs Hf ρ S σ H) (hx : noX ρ = true) {i : Nat} (hi : i < ρ.length) (hd : H dd = some (.xd fv)) (hf : Hf dd = none) (l : RepF B.K B.dr Hf fv fs) : R (B.exc a dd C) (bs.1, upd bs.2 dd (.xd fv)) Hf (ρ.set i (some (.x C fs))) S (σ.set i (some (.ref a))) H := by
  have n1 : dd ≠ B.dr := fun q => by rw [q, r.drw.dr] at hd; cases hd
  have n2 : dd ≠ B.rs := fun q => by rw [q, r.drw.rs] at hd; cases hd
  have e0 : ∀ b u, b ≠ dd → (upd bs.2 dd (.xd fv)) b = some u → bs.2 b = some u := fun b u n e => by rw [upd_ne n] at e; exact e
  refine ⟨r.ex, r.exb, fun b o h => ?_, r.nd, fun b o h m1 m2 => ?_, ⟨?_, ?_⟩, ⟨r.drw.dr, r.drw.cl, r.drw.rs, r.drw.ne⟩, by rw [List.length_set, List.length_set]; exact r.len, fun j oj hj => ?_, fun j k oj ok b hj hk wj wk ej ek => ?_⟩
  · rcases r.fr b o h with q | q
    · exact .inl q
    · by_cases e : b = dd
      · subst e; rw [hf] at h; cases h
      · right; show upd bs.2 dd (.xd fv) b = none; rw [upd_ne e]; exact q
  · by_cases e : b = dd
    · subst e
      have h : upd bs.2 b (.xd fv) b = some o := h
      rw [upd_same] at h
      cases h
      exact hd
    · exact r.go b o (e0 b o e h) m1 m2
  · obtain ⟨⟨o1, h1⟩, _⟩ := r.h0
    exact ⟨o1, by show upd bs.2 dd (.xd fv) B.dr = _; rw [upd_ne (Ne.symm n1)]; exact h1⟩
  · obtain ⟨_, o1, h1⟩ := r.h0
    exact ⟨o1, by show upd bs.2 dd (.xd fv) B.rs = _; rw [upd_ne (Ne.symm n2)]; exact h1⟩
  · rcases set_some hj with ⟨rfl, e, _⟩ | ⟨ne, hj⟩
    · cases e
      exact ⟨.ref a, by rw [List.getElem?_set_self (by rw [← r.len]; exact hi)], rfl, rfl, n1, n2, fv, upd_same, l⟩
    · obtain ⟨v, e, s⟩ := r.sl j oj hj
      refine ⟨v, by rw [List.getElem?_set_ne (Ne.symm ne)]; exact e, ?_⟩
      have nd : ∀ {b u}, H b = some u → u ≠ .xd fv → b ≠ dd := fun {b u} h1 h2 q => by rw [q, hd] at h1; exact h2 (Option.some.inj h1).symm
      cases oj with
      | v d => exact s
      | l ds =>
        obtain ⟨b, vs, rfl, k1, k2, k3, k4⟩ := s
        exact ⟨b, vs, rfl, k1, k2, k3, by show upd bs.2 dd (.xd fv) b = none; rw [upd_ne (nd k1 (by intro z; cases z))]; exact k4⟩
      | d ds =>
        obtain ⟨b, vs, rfl, k1, k2, k3, k4⟩ := s
        exact ⟨b, vs, rfl, k1, k2, k3, by show upd bs.2 dd (.xd fv) b = none; rw [upd_ne (nd k1 (by intro z; cases z))]; exact k4⟩
      | lt ds =>
        obtain ⟨b, vs, rfl, k1, k2, k3, k4⟩ := s
        exact ⟨b, vs, rfl, by show upd bs.2 dd (.xd fv) b = _; rw [upd_ne (nd (r.go b _ k1 k2 k3) (by intro z; cases z))]; exact k1, k2, k3, k4⟩
      | ld ds =>
        obtain ⟨b, vs, rfl, k1, k2, k3, k4⟩ := s
        refine ⟨b, vs, rfl, ?_, k2, k3, k4⟩
        rcases k1 with k1 | ⟨o, k1⟩
        · exact .inl (by show upd bs.2 dd (.xd fv) b = _; rw [upd_ne (nd (r.go b _ k1 k2 k3) (by intro z; cases z))]; exact k1)
        · exact .inr ⟨o, by show upd bs.2 dd (.xd fv) b = _; rw [upd_ne (nd (r.go b _ k1 k2 k3) (by intro z; cases z))]; exact k1⟩
      | x C fs => exact (noX_get hx hj).elim
      | ob C fs =>
        obtain ⟨rfl, dx, vs, k1, k2, k3, k4⟩ := s
        exact ⟨rfl, dx, vs, k1, k2, k3, by show upd bs.2 dd (.xd fv) B.me = none; rw [upd_ne (nd k1 (by intro z; cases z))]; exact k4⟩
  · have own : ∀ {m : Nat} {om : O}, (ρ.set i (some (.x C fs)))[m]? = some (some om) → om.own = true → m ≠ i ∧ ρ[m]? = some (some om) := fun {m om} hm wm => by
      rcases set_some hm with ⟨rfl, e2, _⟩ | ⟨ne, hm⟩
      · cases e2; cases wm
      · exact ⟨ne, hm⟩
    obtain ⟨m1, hj'⟩ := own hj wj
    obtain ⟨m2, hk'⟩ := own hk wk
    rw [List.getElem?_set_ne (Ne.symm m1)] at ej
    rw [List.getElem?_set_ne (Ne.symm m2)] at ek
    exact r.inj j k oj ok b hj' hk' wj wk ej ek
theorem upd_sub (r : R B bs Hf ρ S σ H) (hd : H dd = some (.xd fv)) : ∀ b o, bs.2 b = some o → upd bs.2 dd (.xd fv) b = some o := fun b o h => by
  by_cases e : b = dd
  · subst e
    have n1 : b ≠ B.dr := fun q => by rw [q, r.drw.dr] at hd; cases hd
    have n2 : b ≠ B.rs := fun q => by rw [q, r.drw.rs] at hd; cases hd
    have := r.go b o h n1 n2
    rw [hd] at this
    cases this
    exact upd_same
  · rw [upd_ne e]; exact h
theorem upd_none {H : Hp} {b d : Addr} {o : HO} (h : upd H d o b = none) : H b = none ∧ b ≠ d := by
  by_cases e : b = d
  · subst e; rw [upd_same] at h; cases h
  · exact ⟨by rw [upd_ne e] at h; exact h, e⟩
theorem Nx.ofX (r : R B bs Hf ρ S σ H) (hd : H dd = some (.xd fv)) {Hf1 H1 : Hp} (n : Nx (B.exc a dd C) bs.1 (upd bs.2 dd (.xd fv)) Hf1 H1) : Nx B bs.1 bs.2 Hf1 H1 :=
  ⟨n.ex, n.exf, fun b o h => (n.fr b o h).imp id fun q => (upd_none q).1, fun b o h m1 m2 => n.go b o (upd_sub r hd b o h) m1 m2, n.nd⟩
theorem DrR.ofX {Hf1 H1 : Hp} {S1 : Dr} (d : DrR (B.exc a dd C) Hf1 S1 H1) : DrR B Hf1 S1 H1 := ⟨d.dr, d.cl, d.rs, d.ne⟩
theorem ER.ofX {Hf1 H1 : Hp} {v : V} {e : E} (z : ER (B.exc a dd C) (upd bs.2 dd (.xd fv)) Hf1 H1 v e) : ER B bs.2 Hf1 H1 v e := by
  cases e with
  | n ds => obtain ⟨x, vs, h1, h2, h3, h4, h5, h6, h7⟩ := z; exact ⟨x, vs, h1, h2, h3, h4, h5, h6, (upd_none h7).1⟩
  | nd ds => obtain ⟨x, vs, h1, h2, h3, h4, h5, h6, h7⟩ := z; exact ⟨x, vs, h1, h2, h3, h4, h5, h6, (upd_none h7).1⟩
  | _ => exact z
theorem R.ofX (r : R B bs Hf ρ S σ H) (hd : H dd = some (.xd fv)) {Hf1 H1 : Hp} {ρ1 : Env} {S1 : Dr} {σ1 : L2.St} {i : Nat} (r1 : R (B.exc a dd C) (bs.1, upd bs.2 dd (.xd fv)) Hf1 ρ1 S1 σ1 H1) (hx : noX (ρ1.set i none) = true) :
    R B bs Hf1 (ρ1.set i none) S1 (σ1.set i none) H1 := by
  have at_ : ∀ {j : Nat} {oj : O}, (ρ1.set i none)[j]? = some (some oj) → j ≠ i ∧ ρ1[j]? = some (some oj) := fun {j oj} h => by
    rcases set_some h with ⟨_, e, _⟩ | ⟨ne, h⟩
    · cases e
    · exact ⟨ne, h⟩
  refine ⟨r1.ex, r1.exb, fun b o h => (r1.fr b o h).imp id fun q => (upd_none q).1, r1.nd, fun b o h m1 m2 => r1.go b o (upd_sub r hd b o h) m1 m2, r.h0, r1.drw.ofX, by rw [List.length_set, List.length_set]; exact r1.len, fun j oj hj => ?_, fun j k oj ok b hj hk wj wk ej ek => ?_⟩
  · obtain ⟨ne, hj'⟩ := at_ hj
    obtain ⟨v, e, s⟩ := r1.sl j oj hj'
    refine ⟨v, by rw [List.getElem?_set_ne (Ne.symm ne)]; exact e, ?_⟩
    cases oj with
    | v d => exact s
    | l ds => obtain ⟨b, vs, h1, h2, h3, h4, h5⟩ := s; exact ⟨b, vs, h1, h2, h3, h4, (upd_none h5).1⟩
    | d ds => obtain ⟨b, vs, h1, h2, h3, h4, h5⟩ := s; exact ⟨b, vs, h1, h2, h3, h4, (upd_none h5).1⟩
    | lt ds =>
      obtain ⟨b, vs, h1, h2, h3⟩ := s
      have h2 : upd bs.2 dd (.xd fv) b = some (.lst vs) := h2
      refine ⟨b, vs, h1, ?_, h3⟩
      rw [upd_ne (fun q => by rw [q, upd_same] at h2; cases h2)] at h2
      exact h2
    | ld ds =>
      obtain ⟨b, vs, h1, h2, h3⟩ := s
      refine ⟨b, vs, h1, ?_, h3⟩
      rcases h2 with h2 | ⟨o, h2⟩
      · have h2 : upd bs.2 dd (.xd fv) b = some (.dK vs) := h2
        rw [upd_ne (fun q => by rw [q, upd_same] at h2; cases h2)] at h2
        exact .inl h2
      · have h2 : upd bs.2 dd (.xd fv) b = some (.frz o (.dK vs)) := h2
        rw [upd_ne (fun q => by rw [q, upd_same] at h2; cases h2)] at h2
        exact .inr ⟨o, h2⟩
    | x C fs => exact (noX_get hx hj).elim
    | ob C fs => obtain ⟨h1, dx, vs, h2, h3, h4, h5⟩ := s; exact ⟨h1, dx, vs, h2, h3, h4, (upd_none h5).1⟩
  · obtain ⟨m1, hj'⟩ := at_ hj
    obtain ⟨m2, hk'⟩ := at_ hk
    rw [List.getElem?_set_ne (Ne.symm m1)] at ej
    rw [List.getElem?_set_ne (Ne.symm m2)] at ek
    exact r1.inj j k oj ok b hj' hk' wj wk ej ek
end
section
variable {X : Cx} {W : WX} {B : Bs} {x n : Str} {c : Value} {i : Nat} {body suite : List Stmt} {b₀ : Stmt} {np pos pos' : Pos} {gb gs : Env → Dr → SO} {mt : Addr → Option Bool}
theorem js_try (i : Nat) (hs : X.stack = X.env :: X.outer) (hf : X.env.frame = some X.env.locals) (hN : X.N.Nodup) (hi : X.N[i]? = some n) (hln : X.env.kindOf n = some .local) (hc : Names X x c) (tk : Takes X W) (hmt : ∀ C b, mt C = some b → PySem.W.exmOne X.K (.ref C) c = some b)
    (hb : ∀ (W' : WX) (pn : List (Addr × Obj)) (xe : Value → Shared → Prop), Takes (X.tr pn xe) W' → PassesOwn (model X.prog X.w) X.A X.env xe → JB (X.tr pn xe) W' B body gb)
    (hsu : ∀ (a : Addr) (oe : Obj) (dd C : Addr) (pn : List (Addr × Obj)), Zc (.ref C) (some dd) oe → (∃ vs, oe.data = .fields vs) → JB (X.suite a ((a, oe) :: pn)) W0 (B.exc a dd C) (b₀ :: suite) gs) :
    JS X W B (.Try body [.ExceptHandler (some (.Name x np)) (some n) (b₀ :: suite) pos'] [] [] pos) (sTry i mt gb gs) :=
  JS.mk (ps_try_as (tb := fun W' D σ H => ∀ (pn : List (Addr × Obj)) (xe : Value → Shared → Prop), Takes (X.tr pn xe) W' → PassesOwn (model X.prog X.w) X.A X.env xe → tWSs (X.tr pn xe) body D σ H)
      (ts := fun a cls d D σ H => ∀ (oe : Obj) (pn : List (Addr × Obj)), Zc cls d oe → (∃ vs, oe.data = .fields vs) → tWSs (X.suite a ((a, oe) :: pn)) (b₀ :: suite) D σ H) hs hf hN hi hln hc tk
      (fun W' pn xe t p => ⟨fun pins s σ H D I q => q pn xe t p pins s I⟩) (fun a oe cls d pn z f => ⟨fun pins s σ H D I q => q oe pn z f pins s I⟩)) fun bs σ H ρ S Hf D r h => by
    intro pn xe tk' hp
    refine (hb _ pn xe tk' hp).go bs σ H ρ S Hf D r ?_
    unfold sTry at h
    cases q : gb ρ S with
    | nx ρ1 S1 => rw [q] at h; exact h
    | rt e S1 => rw [q] at h; exact h
    | bk ρ1 S1 => rw [q] at h; exact h
    | ct ρ1 S1 => rw [q] at h; exact h
    | stk => rw [q] at h; exact h
    | exc C fs ρ1 S1 =>
      rw [q] at h
      dsimp only at h
      intro σ1 d Hf1 H1 r1 x1
      cases qm : mt C with
      | none => rw [qm] at h; exact h.elim
      | some b =>
        refine ⟨b, hmt C b qm, fun hbt a na => ?_, fun hbf => ?_⟩
        · subst hbt
          rw [qm] at h
          dsimp only at h
          split at h
          · rename_i hx
            obtain ⟨dd, fv, rfl, hd, hfd, l⟩ := x1
            intro oe pn' z f
            refine (hsu a oe dd C pn' z f).go (bs.1, upd bs.2 dd (.xd fv)) _ H1 _ S1 Hf1 _ (r1.toX hx.1 hx.2 hd hfd l) ?_
            cases qs : gs (ρ1.set i (some (.x C fs))) S1 with
            | nx ρ2 S2 =>
              rw [qs] at h
              unfold unX at h
              dsimp only at h
              split at h
              · rename_i hn; exact fun σ2 Hf2 H2 r2 => h _ Hf2 H2 (R.ofX r1 hd r2 hn)
              · exact h.elim
            | bk ρ2 S2 =>
              rw [qs] at h
              unfold unX at h
              dsimp only at h
              split at h
              · rename_i hn; exact fun σ2 Hf2 H2 r2 => h _ Hf2 H2 (R.ofX r1 hd r2 hn)
              · exact h.elim
            | ct ρ2 S2 =>
              rw [qs] at h
              unfold unX at h
              dsimp only at h
              split at h
              · rename_i hn; exact fun σ2 Hf2 H2 r2 => h _ Hf2 H2 (R.ofX r1 hd r2 hn)
              · exact h.elim
            | rt e S2 =>
              rw [qs] at h
              exact fun v Hf2 H2 n2 d2 z2 => h v Hf2 H2 (Nx.ofX r1 hd n2) d2.ofX (ER.ofX z2)
            | exc C2 fs2 ρ2 S2 => rw [qs] at h; exact h.elim
            | stk => rw [qs] at h; exact h.elim
          · exact h.elim
        · subst hbf
          rw [qm] at h
          exact h σ1 d Hf1 H1 r1 x1
/-- e.f in the suite -/
def fXf (i : Nat) (ok : Addr → Bool) (f : Str) : Env → Dr → Out E := fun ρ S => match ρ[i]? with
  | some (some (.x C fs)) => if ok C = true then match fs.lookup f with
    | some d => .ok (.v d) S
    | none => .stk else .stk
  | _ => .stk
theorem RepF.lookup {K : PySem.W.Frag} {dr : Addr} {H : Hp} (f : Str) : ∀ {vs : List (Str × V)} {ds : List (Str × D)} {d : D}, RepF K dr H vs ds → ds.lookup f = some d → ∃ v, vs.lookup f = some v ∧ Rep K dr H v d
  | _, _, _, .nil, q => by simp at q
  | _, _, _, .cons (k := k) h l, q => by
    rw [List.lookup_cons] at q ⊢
    cases e : f == k with
    | true => rw [e] at q; cases q; exact ⟨_, rfl, h⟩
    | false => rw [e] at q; exact l.lookup f q
theorem je_xf (i : Nat) {a dd C : Addr} {oe : Obj} {pn : List (Addr × Obj)} {x f : Str} {p pos : Pos} {ok : Addr → Bool} (T : ∀ C, ok C = true → XfC X.K C ∧ PySem.W.findIn X.K (.ref C) f = some none)
    (hz : Zc (.ref C) (some dd) oe) (hf : ∃ vs, oe.data = .fields vs) (hN : X.N[i]? = some x := by rfl) (hv : Vis X.env.scope x := by first | exact Or.inl rfl | exact Or.inr (Or.inl rfl) | exact Or.inr (Or.inr rfl))
    (hd : (x == ("__debug__" : Str)) = false := by decide) (hcd : (x == ("__classdict__" : Str)) = false := by decide) (hb : attributeBase (.Name x p) f X.env (eval (.Name x p) X.env) = eval (.Name x p) X.env := by rfl) :
    JE (X.suite a ((a, oe) :: pn)) W0 (B.exc a dd C) (.Attribute (.Name x p) f pos) (fXf i ok f) := by
  by_cases hok : ok C = true
  · obtain ⟨T1, T2⟩ := T C hok
    refine JE.mk (pe_xf T1 T2 hz hf (pe_var (X := X.suite a ((a, oe) :: pn)) (i := i) hN hv hd hcd) hb) fun bs σ H ρ S Hf Q r h => ?_
    unfold fXf at h
    split at h
    · rename_i C' fs e
      obtain ⟨v, e2, rfl, rfl, n1, n2, fv, h1, l⟩ := r.sl i _ e
      rw [if_pos hok] at h
      split at h
      · rename_i d ql
        obtain ⟨u, lu, z⟩ := RepF.lookup f l ql
        exact ⟨_, e2, rfl, rfl, dd, fv, u, rfl, r.go _ _ h1 n1 n2, lu, EPost.now r h z⟩
      · exact h.elim
    · exact h.elim
  · refine .of ?_
    intro bs σ H ρ S Hf Q r h
    unfold fXf at h
    split at h
    · rename_i C' fs e
      obtain ⟨v, e2, rfl, rfl, _⟩ := r.sl i _ e
      rw [if_neg hok] at h
      exact h.elim
    · exact h.elim
end

/-! ### isinstance -/
def tyE : E → Option String
  | .v .non => some "NoneType"
  | .v (.bl _) => some "bool"
  | .v (.int _) => some "int"
  | .v (.str _) => some "str"
  | .v (.tup _) => some "tuple"
  | .v (.lst _) => some "list"
  | .v (.dct _) => some "dict"
  | .b _ => some "list"
  | .n _ => some "list"
  | .bd _ => some "dict"
  | .nd _ => some "dict"
  | _ => none
def isB (t c : String) : Bool := t == c || (t == "bool" && c == "int")
section
variable {X : Cx} {W : WX} {B : Bs} {bs : Hp × Hp} {Hs Hf H : Hp} {ρ : Env} {S : Dr} {σ : L2.St} {a : Expr} {fa : Env → Dr → Out E} {pos p p1 : Pos}
theorem tyT {a : Addr} {vs : List V} (h : SqT B.K H a vs) : TyX B.K H (.ref a) (.type "tuple") := by
  rcases h with (h | ⟨o, h⟩) | ⟨o, its, n, hk, hc, _⟩
  · exact .base (.tup h)
  · exact .fTuple h
  · exact .kTuple hk hc
theorem tyE_ok (r : R B bs Hf ρ S σ H) {v : V} {e : E} {t : String} (h : ER B Hs Hf H v e) (q : tyE e = some t) : TyX B.K H v (.type t) := by
  cases e with
  | v d =>
    cases d <;> simp [tyE] at q <;> subst q
    · cases h.v_ok; exact .base .non
    · cases h.v_ok; exact .base (.bl _)
    · cases h.v_ok; exact .base (.int _)
    · cases h.v_ok; exact .base (.str _)
    · cases h.v_ok with | tup h1 _ => exact tyT (ex_t r.ex h1)
    · cases h.v_ok with | lst h1 _ => exact .base (.lst (r.ex _ _ h1))
    · cases h.v_ok with
      | dct h1 _ => rcases h1 with h1 | ⟨o, h1⟩
                    · exact .base (.dK (r.ex _ _ h1))
                    · exact .fDict (r.ex _ _ h1)
  | b ds => simp [tyE] at q; subst q; obtain ⟨a, vs, rfl, h1, _⟩ := h; exact .base (.lst h1)
  | n ds => simp [tyE] at q; subst q; obtain ⟨a, vs, rfl, h1, _⟩ := h; exact .base (.lst h1)
  | bd ds => simp [tyE] at q; subst q; obtain ⟨a, vs, rfl, h1, _⟩ := h; exact h1.elim (fun h1 => .base (.dK h1)) fun ⟨o, h1⟩ => .fDict h1
  | nd ds => simp [tyE] at q; subst q; obtain ⟨a, vs, rfl, h1, _⟩ := h; exact .base (.dK h1)
def tys : List String := ["NoneType", "bool", "int", "str", "tuple", "list", "dict"]
theorem tyE_mem {e : E} {t : String} (q : tyE e = some t) : t ∈ tys := by
  unfold tyE at q
  split at q <;> simp at q <;> subst q <;> decide
theorem kitB_all : ∀ t ∈ tys, ∀ c ∈ tys.tail, kitB t c = some (isB t c) := by decide +kernel
def fIsi (c : String) (fa : Env → Dr → Out E) : Env → Dr → Out E := fun ρ S => (fa ρ S).bind fun e S1 => match tyE e with
  | some t => .ok (.v (.bl (isB t c))) S1
  | none => .stk
/-- isinstance(e, T), T a built-in type -/
theorem je_isi {x : Str} {c : String} (hK : X.K = B.K) (hm : X.mg "isinstance" = none) (ha : JE X W B a fa) (hmx : X.mg x = none) (hv : bootBuiltins x = some (.type c)) (hc : c ∈ tys.tail := by decide) (hgi : Gl X "isinstance" := by rfl) (hg : Gl X x := by rfl) (hn : x ≠ "__name__" := by decide) (hd : (x == ("__debug__" : Str)) = false := by decide)
    (hs1 : starEach (a :: [.Name x p1]) X.env = (false, eval a X.env) :: starEach [.Name x p1] X.env := by exact star_c rfl) (hpl : (backTo pos (starEach [.Name x p1] X.env)).any (·.1) = false := by exact star_any rfl) :
    JE X W B (.Call (.Name "isinstance" p) [a, .Name x p1] [] pos) (fIsi c fa) :=
  JE.mk (pe_callB call_isi hgi hm (by decide +kernel) (pa_cons pe_W (pa_cons (pe_bltn (v := .ty c) hg hmx hv rfl hn hd) pa_nil) hs1) (by decide) (by decide) hs1 hpl) fun bs σ H ρ S Hf Q r h => by
    show tW X a σ H fun x H1 => _
    refine ha.bind r h back_e fun e1 S1 v H1 Hf1 r1 n1 z1 h1 => ?_
    cases q : tyE e1 with
    | none => rw [q] at h1; exact h1.elim
    | some t =>
      rw [q] at h1
      refine ⟨v, .ty c, .type t, .type c, isB t c, rfl, .ty c, ?_, ?_, EPost.now r1 h1 (Rep.bl _)⟩
      · rw [hK]; exact tyE_ok r1 z1 q
      · exact kit_ty (kitB_all t (tyE_mem q) c hc)
def fIsi2 (c c2 : String) (fa : Env → Dr → Out E) : Env → Dr → Out E := fun ρ S => (fa ρ S).bind fun e S1 => match tyE e with
  | some t => .ok (.v (.bl (isB t c || isB t c2))) S1
  | none => .stk
/-- isinstance(e, (T, T2)) -/
theorem je_isi2 {x x2 : Str} {c c2 : String} {p2 p3 : Pos} {k1} (hK : X.K = B.K) (hm : X.mg "isinstance" = none) (ha : JE X W B a fa) (hmx : X.mg x = none) (hv : bootBuiltins x = some (.type c)) (hmx2 : X.mg x2 = none) (hv2 : bootBuiltins x2 = some (.type c2))
    (hc : c ∈ tys.tail := by decide) (hc2 : c2 ∈ tys.tail := by decide) (hgi : Gl X "isinstance" := by rfl) (hg : Gl X x := by rfl) (hg2 : Gl X x2 := by rfl) (hn : x ≠ "__name__" := by decide) (hd : (x == ("__debug__" : Str)) = false := by decide) (hn2 : x2 ≠ "__name__" := by decide) (hd2 : (x2 == ("__debug__" : Str)) = false := by decide)
    (hs0 : starEach [.Name x p1, .Name x2 p2] X.env = (false, eval (.Name x p1) X.env) :: starEach [.Name x2 p2] X.env := by exact star_c rfl) (hs1 : starEach (a :: [.Tuple [.Name x p1, .Name x2 p2] k1 p3]) X.env = (false, eval a X.env) :: starEach [.Tuple [.Name x p1, .Name x2 p2] k1 p3] X.env := by exact star_c rfl)
    (hpl : (backTo pos (starEach [.Tuple [.Name x p1, .Name x2 p2] k1 p3] X.env)).any (·.1) = false := by exact star_any rfl) :
    JE X W B (.Call (.Name "isinstance" p) [a, .Tuple [.Name x p1, .Name x2 p2] k1 p3] [] pos) (fIsi2 c c2 fa) :=
  JE.mk (pe_callB call_isiT hgi hm (by decide +kernel) (pa_cons pe_W (pa_cons (pe_tup (pa_cons (pe_bltn (v := .ty c) hg hmx hv rfl hn hd) (pa_cons (pe_bltn (v := .ty c2) hg2 hmx2 hv2 rfl hn2 hd2) pa_nil) hs0)) pa_nil) hs1) (by decide) (by decide) hs1 hpl) fun bs σ H ρ S Hf Q r h => by
    show tW X a σ H fun x H1 => _
    refine ha.bind r h back_e fun e1 S1 v H1 Hf1 r1 n1 z1 h1 => ?_
    cases q : tyE e1 with
    | none => rw [q] at h1; exact h1.elim
    | some t =>
      rw [q] at h1
      refine ⟨by show 2 ≤ sizeLine; decide, fun tp hp => ?_⟩
      have n := r1.newF (o := .tup [V.ty c, V.ty c2]) hp
      have d := r1.drw.new (o := .tup [V.ty c, V.ty c2]) hp n.ex
      have r2 := r1.next n d
      refine ⟨v, tp, [.ty c, .ty c2], .type t, [.type c, .type c2], isB t c || isB t c2, rfl, upd_same, .cons (.ty c) (.cons (.ty c2) .nil), ?_, ?_, EPost.now r2 (EPost.step back_e n d h1) (Rep.bl _)⟩
      · rw [hK]; exact tyE_ok r2 (z1.next r1 n) q
      · refine kitAny_cons (kit_ty (kitB_all t (tyE_mem q) c hc)) (fun hb => ?_) (fun hb => by rw [hb]; rfl)
        rw [hb]
        exact kitAny_cons (kit_ty (kitB_all t (tyE_mem q) c2 hc2)) (fun hb => by rw [hb]; exact kitAny_nil) (fun hb => by rw [hb]; rfl)
end
end Dn

set_option Elab.async false
set_option linter.all false
set_option maxRecDepth 100000
set_option maxHeartbeats 4000000
namespace Dn
open PySem PySem.Spec PyProof.Rows L2

/-! ### one operand -/
def gNeg : E → Option E
  | .v (.int i) => some (.v (.int (-i)))
  | _ => none
def fUn (g : E → Option E) (fa : Env → Dr → Out E) : Env → Dr → Out E := fun ρ S => (fa ρ S).bind fun x S1 => Out.of (g x) S1
section
variable {X : Cx} {W : WX} {B : Bs} {bs : Hp × Hp} {Hs Hf H : Hp} {ρ : Env} {S : Dr} {σ : L2.St} {a b c e : Expr} {es : List Expr} {fa fb fc : Env → Dr → Out E} {pos p2 : Pos} {r r' : R2} {g g' : E → E → Option E} {D : Ends}
theorem je_neg (ha : JE X W B a fa) : JE X W B (.UnaryOp .USub a pos) (fUn gNeg fa) := JE.mk (pe_un un_neg pe_W) fun bs σ H ρ S Hf Q r h => by
  show tW X a σ H fun x H1 => _
  refine ha.bind r h back_e fun e1 S1 v H1 Hf1 r1 n1 z1 h1 => ?_
  cases e1 with
  | v d =>
    cases d with
    | int i => cases z1.v_ok; exact ⟨i, rfl, EPost.now r1 h1 (Rep.int _)⟩
    | _ => exact h1.elim
  | _ => exact h1.elim

/-! ### a op b op c -/
def fChain (g g' : E → E → Option E) (fa fb fc : Env → Dr → Out E) : Env → Dr → Out E := fun ρ S => (fa ρ S).bind fun x S1 => (fb ρ S1).bind fun y S2 => match (g x y).bind E.bl? with
  | some true => (fc ρ S2).bind fun z S3 => Out.of (g' y z) S3
  | some false => .ok (.v (.bl false)) S2
  | none => .stk
/-- the first answer of a chain is told at once -/
def OpN (B : Bs) (r : R2) (g : E → E → Option E) : Prop :=
  ∀ (bs : Hp × Hp) (σ : L2.St) (H : Hp) (ρ : Env) (S : Dr) (Hf Hs1 Hs2 : Hp) (x y : V) (e1 e2 e : E) (Q : VK), R B bs Hf ρ S σ H → ER B Hs1 Hf H x e1 → ER B Hs2 Hf H y e2 → g e1 e2 = some e → (∀ b, e.bl? = some b → Q (.bl b) H) → (e.bl?).isSome = true → r x y H Q
theorem opN_I0 {g : Int → Int → V} {gd : Int → Int → Bool} (hg : ∀ i j, g i j = .bl (gd i j)) : OpN B (rI0 g) (gInt fun i j => some (.bl (gd i j))) :=
  fun bs σ H ρ S Hf Hs1 Hs2 x y e1 e2 e Q r h1 h2 q k _ => by
    obtain ⟨i, j, d, rfl, rfl, q2, rfl⟩ := gInt_inv q
    cases q2
    cases h1.v_ok
    cases h2.v_ok
    exact ⟨i, j, rfl, rfl, by rw [hg]; exact k _ rfl⟩
theorem on_lt : OpN B (rI0 fun i j => V.bl (decide (i < j))) gLt := opN_I0 fun _ _ => rfl
theorem on_le : OpN B (rI0 fun i j => V.bl (decide (i ≤ j))) gLe := opN_I0 fun _ _ => rfl
theorem on_gt : OpN B (rI0 fun i j => V.bl (decide (j < i))) gGt := opN_I0 fun _ _ => rfl
theorem on_ge : OpN B (rI0 fun i j => V.bl (decide (j ≤ i))) gGe := opN_I0 fun _ _ => rfl
theorem chain_core (hj : OpN B r g) (hj' : OpJ B r' g') (ha : JE X W B a fa) (hb : JE X W B b fb) (hc : JE X W B c fc) {Q : VK} (R0 : R B bs Hf ρ S σ H) (h : EPost B W Hf σ H (erel B) (fChain g g' fa fb fc ρ S) Q) : tChain r r' (tW X a) (tW X b) (tW X c) σ H Q := by
  show tW X a σ H fun x H1 => tW X b σ H1 fun y H2 => r x y H2 fun z H3 => ∃ k, z = .bl k ∧ (if k = true then tW X c σ H3 fun w' H4 => r' y w' H4 Q else Q (.bl false) H3)
  refine ha.bind R0 h back_e fun e1 S1 v H1 Hf1 r1 n1 z1 h1 => ?_
  refine hb.bind r1 h1 back_e fun e2 S2 v2 H2 Hf2 r2 n2 z2 h2 => ?_
  cases q : g e1 e2 with
  | none => rw [q] at h2; exact h2.elim
  | some e =>
    rw [q] at h2
    have h2 : EPost B W Hf2 σ H2 (erel B) (match e.bl? with
      | some true => (fc ρ S2).bind fun z S3 => Out.of (g' e2 z) S3
      | some false => .ok (.v (.bl false)) S2
      | none => .stk) Q := h2
    cases qb : e.bl? with
    | none => rw [qb] at h2; exact h2.elim
    | some k =>
      rw [qb] at h2
      refine hj _ _ _ _ _ _ _ _ _ _ _ _ _ _ r2 (z1.next r1 n2) z2 q (fun b hb => ?_) (by rw [qb]; rfl)
      rw [qb] at hb
      cases hb
      refine ⟨k, rfl, ?_⟩
      cases k with
      | false => exact iteF (EPost.now r2 h2 (Rep.bl false))
      | true =>
        refine iteT ?_
        have h2 : EPost B W Hf2 σ H2 (erel B) ((fc ρ S2).bind fun z S3 => Out.of (g' e2 z) S3) Q := h2
        refine hc.bind r2 h2 back_e fun e3 S3 v3 H3 Hf3 r3 n3 z3 h3 => ?_
        cases q3 : g' e2 e3 with
        | none => rw [q3] at h3; exact h3.elim
        | some e' =>
          rw [q3] at h3
          exact hj' _ _ _ _ _ _ _ _ _ _ _ _ _ _ r3 (z2.next r2 n3) z3 q3 fun v Hf' H' n d z => h3 v Hf' H' n d z
theorem je_chain {op op' : CmpOp} (ho : OpR X (compareOp op) r) (ho' : OpR X (compareOp op') r') (hj : OpN B r g) (hj' : OpJ B r' g') (ha : JE X W B a fa) (hb : JE X W B b fb) (hc : JE X W B c fc) (hm : lastMarks [op, op'] [b, c] = false := by with_unfolding_all rfl) :
    JE X W B (.Compare a [op, op'] [b, c] pos) (fChain g g' fa fb fc) := JE.mk (pe_chain ho ho' pe_W pe_W pe_W hm) fun bs σ H ρ S Hf Q r h => chain_core hj hj' ha hb hc r h
/-- as a test -/
theorem jt_chain {op op' : CmpOp} (ho : OpR X (compareOp op) r) (ho' : OpR X (compareOp op') r') (hj : OpN B r g) (hj' : OpJ B r' g') (ha : JE X W B a fa) (hb : JE X W B b fb) (hc : JE X W B c fc) (hm : lastMarks [op, op'] [b, c] = false := by with_unfolding_all rfl) :
    JT X W B (.Compare a [op, op'] [b, c] pos) (fTst (fChain g g' fa fb fc)) := JT.mk (pt_chain ho ho' pe_W pe_W pe_W hm) fun bs σ H ρ S Hf Q R0 h => by
  show tChain r r' (tW X a) (tW X b) (tW X c) σ H fun x H' => ∃ k, x = .bl k ∧ Q k H'
  refine chain_core hj hj' ha hb hc (W := W) R0 ?_
  unfold fTst at h
  cases q : fChain g g' fa fb fc ρ S with
  | stk => rw [q] at h; exact h.elim
  | exc C fs S1 => rw [q] at h; exact h
  | ok e S1 =>
    rw [q] at h
    intro v Hf1 H1 n d z
    have h : EPost B W Hf σ H trel (Out.of e.bl? S1) Q := h
    cases qb : e.bl? with
    | none => rw [qb] at h; exact h.elim
    | some k => rw [qb] at h; exact ⟨k, z.bl qb, h k Hf1 H1 n d rfl⟩

/-! ### name = [..], one line -/
theorem js_setLc (i : Nat) {y : Str} {py spos : Pos} {tg iter elt : Expr} {ifs : List Expr} {scope : Scope} {own : List (Str × Nat)} {fi : Env → Dr → Out (List Dn.D)} {tgt : Dn.D → Env → Option Env} {t : TG} {ix : List Nat} {fe : Env → Dr → Out E} {fc : Env → Dr → Out Bool} (fz : Bool)
    (hc : X.calm = true) (hN : X.N.Nodup) (hi : JI X W B true tg iter fi) (ok : BlkOk X.N X.env.scope scope own)
    (hg : ∀ (s : Shared) (H : Hp) (C : Addr) (cl : List (Str × Addr)) (fp : List Addr), JG (X.blk s H scope (compEnvC scope cl C X.env) fp) B tg t ix tgt) (ht : JTs X scope B ifs fc) (he : JEB X scope B elt fe) (hix : ∀ i ∈ ix, i ∈ own.map (·.2) := by decide)
    (hy : X.N[i]? = some y := by rfl) (hyl : X.env.scope.names.lookup y = some .local := by rfl) (hsw : swapsWith (.ListComp elt [⟨tg, iter, ifs, 0⟩] scope pos) (some (.Name y py)) spos.line X.env = pure true := by exact sw_true rfl rfl rfl (by decide +kernel))
    (hs : ∀ x, foldedSetIterable iter X.env x = pure x := by intro _; rfl) : JS X W B (.Assign [.Name y py] (.ListComp elt [⟨tg, iter, ifs, 0⟩] scope pos) spos) (if fz then sSetF i (fLc fi tgt fc fe (own.map (·.2))) else sSet i (fLc fi tgt fc fe (own.map (·.2)))) := by
  obtain ⟨wi, pw, qw⟩ := hi
  obtain ⟨tt, pt, qt⟩ := ht
  refine JS.mk (ps_setLc (te := tWB X scope elt) hc hN hy hyl hsw pw ok (fun s H C cl fp => (hg s H C cl fp).1) pt (fun s0 H0 C cl fp => ⟨fun pins s σ H Q I q => q s0 H0 C cl fp pins s I⟩) hs) fun bs σ H ρ S Hf D r h => ?_
  refine lc_read qw qt hg he hix (W := W) r ?_
  cases fz with
  | true =>
    have h : SPost B W bs D (sSetF i (fLc fi tgt fc fe (own.map (·.2))) ρ S) := h
    unfold sSetF at h
    split at h
    · rename_i hil
      cases q : fLc fi tgt fc fe (own.map (·.2)) ρ S with
      | stk => rw [q] at h; exact h.elim
      | exc C fs S1 => rw [q] at h; exact fun d Hf1 H1 n dr x => h σ d Hf1 H1 (r.next n dr) x
      | ok e S1 =>
        rw [q] at h
        intro v Hf1 H1 n d z
        have h : SPost B W bs D (match per e with
          | some d => .nx (ρ.set i (some (.v d))) S1
          | none => .stk) := h
        cases qp : per e with
        | none => rw [qp] at h; exact h.elim
        | some d' =>
          rw [qp] at h
          obtain ⟨Hf2, n2, x2, d2, z2⟩ := per_ok (r.next n d) n z qp
          exact h _ Hf2 H1 ((r.next n2 d2).store hil z2 fun w => by cases w)
    · exact h.elim
  | false =>
    have h : SPost B W bs D (sSet i (fLc fi tgt fc fe (own.map (·.2))) ρ S) := h
    unfold sSet at h
    split at h
    · rename_i hil
      cases q : fLc fi tgt fc fe (own.map (·.2)) ρ S with
      | stk => rw [q] at h; exact h.elim
      | exc C fs S1 => rw [q] at h; exact fun d Hf1 H1 n dr x => h σ d Hf1 H1 (r.next n dr) x
      | ok e S1 =>
        rw [q] at h
        intro v Hf1 H1 n d z
        have h : SPost B W bs D (match stO e with
          | some o => .nx (ρ.set i (some o)) S1
          | none => .stk) := h
        cases qp : stO e with
        | none => rw [qp] at h; exact h.elim
        | some o =>
          rw [qp] at h
          exact h _ Hf1 H1 (stO_ok r (r.next n d) hil z qp)
    · exact h.elim

theorem ER.int {v : V} {e : E} {i : Int} (h : ER B Hs Hf H v e) (q : e.int? = some i) : v = .int i := by
  cases e with
  | v d =>
    cases d <;> simp [E.int?] at q
    subst q
    cases h
    rfl
  | _ => cases q
/-! ### x[i] = e, a list of the def's own -/
def sSetIx (i : Nat) (fa fb : Env → Dr → Out E) : Env → Dr → SO := fun ρ S => (fa ρ S).so ρ fun e S1 => match per e with
  | none => .stk
  | some d => match ρ[i]? with
    | some (some (.l ds)) => (fb ρ S1).so ρ fun k S2 => match k.int? with
      | none => .stk
      | some z => match ixN ds.length z with
        | some j => .nx (ρ.set i (some (.l (ds.set j d)))) S2
        | none => .stk
    | _ => .stk
theorem js_setIx (i : Nat) {x : Str} {p pp : Pos} (ha : JE X W B a fa) (hb : JE X W B b fb) (hN : X.N[i]? = some x := by rfl) (hv : Vis X.env.scope x := by first | exact Or.inl rfl | exact Or.inr (Or.inl rfl) | exact Or.inr (Or.inr rfl)) (hd : (x == ("__debug__" : Str)) = false := by decide)
    (hcd : (x == ("__classdict__" : Str)) = false := by decide) (hs : swapsWithSole [.Subscript (.Name x p) b pp] a pos.line X.env = pure false := by rfl) (hw : swappedStores [.Subscript (.Name x p) b pp] a X.env = pure none := by rfl)
    (h1 : (assignEach [.Subscript (.Name x p) b pp] X.env).map (·.2) = [assign (.Subscript (.Name x p) b pp) X.env] := by rfl)
    (h2 : ∀ v, assign (.Subscript (.Name x p) b pp) X.env v = (do
      let ov ← holding [v] (eval (.Name x p) X.env)
      let iv ← holding [v, ov] (eval b X.env)
      standAt pp
      holding [v, ov, iv] (setItem ov iv v)
      release [v, ov, iv] []) := by intro _; rfl) :
    JS X W B (.Assign [.Subscript (.Name x p) b pp] a pos) (sSetIx i fa fb) := JS.mk (ps_asg pe_W (pg_sub (pe_var hN hv hd hcd) pe_W set_list h2) hs hw h1) fun bs σ H ρ S Hf D r h => by
  show tW X a σ H fun y H1 => tVar i σ H1 fun o H2 => tW X b σ H2 fun k H3 => rSetL o k y H3 fun H4 => D.nx σ H4
  refine ha.so r h fun e1 S1 y H1 Hf1 r1 n1 z1 q => ?_
  cases qp : per e1 with
  | none => rw [qp] at q; exact q.elim
  | some d =>
    rw [qp] at q
    obtain ⟨Hf2, n2, x2, d2, z2⟩ := per_ok r1 n1 z1 qp
    have r2 := r.next n2 d2
    dsimp only at q
    split at q
    · rename_i ds e
      obtain ⟨v, e2, s⟩ := r2.sl i _ e
      obtain ⟨l, vs, rfl, k1, k2, k3, k4⟩ := s
      refine ⟨_, e2, ?_⟩
      refine hb.so r2 q fun e3 S2 kv H3 Hf3 r3 n3 z3 q3 => ?_
      cases qk : e3.int? with
      | none => rw [qk] at q3; exact q3.elim
      | some z =>
        rw [qk] at q3
        have ek := z3.int qk
        subst ek
        dsimp only at q3
        cases qj : ixN ds.length z with
        | none => rw [show ixN ds.length z = none from qj] at q3; exact q3.elim
        | some j =>
          rw [show ixN ds.length z = some j from qj] at q3
          obtain ⟨v', e4, s'⟩ := r3.sl i _ e
          rw [e2] at e4
          cases e4
          obtain ⟨l', vs', el, m1, m2, m3, m4⟩ := s'
          cases el
          refine ⟨l, vs', z, j, rfl, rfl, m1, by rw [m2.length]; exact qj, ?_⟩
          exact q3 _ Hf3 _ (r3.mut e rfl e2 ⟨l, _, rfl, upd_same, m2.set j (z2.mono n3.ex), m3, m4⟩ rfl)
    · exact q.elim

/-! ### x op= e, ints -/
def sAug (i : Nat) (g : E → E → Option E) (fa : Env → Dr → Out E) : Env → Dr → SO := fun ρ S => match ρ[i]? with
  | some (some (.v d)) => (fa ρ S).so ρ fun e S1 => match g (.v d) e with
    | some (.v d') => .nx (ρ.set i (some (.v d'))) S1
    | _ => .stk
  | _ => .stk
def PIpJ (B : Bs) (t : TIp) (g : E → E → Option E) : Prop := ∀ (H : Hp) (Hf Hs : Hp) (x y : V) (d : Dn.D) (e : E) (d' : Dn.D) (Q : VK), Rep B.K B.dr Hf x d → ER B Hs Hf H y e → g (.v d) e = some (.v d') → (∀ v, Rep B.K B.dr Hf v d' → Q v H) → t x y H Q
theorem ipJ_I {f : Int → Int → Int} : PIpJ B (ipI f) (gInt fun i j => some (.int (f i j))) := fun H Hf Hs x y d e d' Q h1 h2 q k => by
  obtain ⟨i, j, dd, e1, rfl, q2, e3⟩ := gInt_inv q
  cases e1
  cases q2
  cases e3
  cases h1
  cases h2.v_ok
  exact ⟨i, j, rfl, rfl, k _ (.int _)⟩
theorem js_aug (i : Nat) {x : Str} {op : Operator} {ti : TIp} {pos' : Pos} (hN : X.N.Nodup) (ho : PIp X op ti) (hj : PIpJ B ti g) (ha : JE X W B a fa) (hi : X.N[i]? = some x := by rfl) (hx : Loc X.env.scope x := by first | exact .inl rfl | exact .inr rfl)
    (hf : X.fn x = true ∨ X.env.scope.names.lookup x = some .local := by first | exact .inl rfl | exact .inr rfl | assumption) : JS X W B (.AugAssign (.Name x pos') op a pos) (sAug i g fa) := JS.mk (ps_aug hN hi hx pe_W ho hf) fun bs σ H ρ S Hf D r h => by
  unfold sAug at h
  split at h
  · rename_i d e
    obtain ⟨v, e2, s⟩ := r.sl i _ e
    refine ⟨v, e2, ?_⟩
    show tW X a σ H fun y H1 => ti v y H1 fun z H2 => D.nx (σ.set i (some z)) H2
    refine ha.so r h fun e1 S1 y H1 Hf1 r1 n1 z1 q => ?_
    cases qg : g (.v d) e1 with
    | none => rw [qg] at q; exact q.elim
    | some e' =>
      cases e' with
      | v d' =>
        rw [qg] at q
        exact hj H1 Hf1 H v y d e1 d' _ (Rep.mono n1.ex s) z1 qg fun w hw => q _ Hf1 H1 (r1.store ((List.getElem?_eq_some_iff.mp e).1) hw fun w => by cases w)
      | _ => rw [qg] at q; exact q.elim
  · exact h.elim
theorem js_augAdd (i : Nat) {x : Str} {pos' : Pos} (hN : X.N.Nodup) (ha : JE X W B a fa) (hi : X.N[i]? = some x := by rfl) (hx : Loc X.env.scope x := by first | exact .inl rfl | exact .inr rfl)
    (hf : X.fn x = true ∨ X.env.scope.names.lookup x = some .local := by first | exact .inl rfl | exact .inr rfl | assumption) : JS X W B (.AugAssign (.Name x pos') .Add a pos) (sAug i gAddI fa) := js_aug i hN ip_add ipJ_I ha hi hx hf
theorem js_augSub (i : Nat) {x : Str} {pos' : Pos} (hN : X.N.Nodup) (ha : JE X W B a fa) (hi : X.N[i]? = some x := by rfl) (hx : Loc X.env.scope x := by first | exact .inl rfl | exact .inr rfl)
    (hf : X.fn x = true ∨ X.env.scope.names.lookup x = some .local := by first | exact .inl rfl | exact .inr rfl | assumption) : JS X W B (.AugAssign (.Name x pos') .Sub a pos) (sAug i gSub fa) := js_aug i hN ip_sub ipJ_I ha hi hx hf
end
end Dn

set_option Elab.async false
set_option linter.all false
set_option maxRecDepth 100000
set_option maxHeartbeats 4000000
namespace Dn
open PySem PySem.Spec PyProof.Rows L2

/-! ### the draws -/
abbrev BB (K : PySem.W.Frag) (dr rs cl : Addr) : Bs := { K := K, dr := dr, rs := rs, cl := cl }
def okS (S : Dr) (m : Int) : Prop := S.cells.length = S.rests.length ∧ 0 < S.cells.length ∧ S.cells.length ≤ 64 ∧ 0 ≤ S.turn ∧ S.turn < 33554432 ∧ 0 < m ∧ m < 1073741824
instance (S : Dr) (m : Int) : Decidable (okS S m) := by unfold okS; infer_instance
def spotS (S : Dr) : Nat := (S.turn % (S.cells.length : Int)).toNat
def mixS (S : Dr) : Int := (((S.cells.getD (spotS S) 0).fmod 2147483549 + 69621 * S.turn + 9973) ^ 3).fmod 2147483579
def againS (S : Dr) : Int := ((mixS S + 4099 * S.turn * S.turn + 71) ^ 3).fmod 2147483549
def nextV (S : Dr) (m : Int) : Int := if 0 < S.rests.getD (spotS S) 0 then (S.rests.getD (spotS S) 0).fmod m else ((againS S * 2147483423 + mixS S).fmod 4611686018427387847).fmod m
def nextS (S : Dr) (m : Int) : Dr := ⟨S.cells, S.turn + 1, if 0 < S.rests.getD (spotS S) 0 then S.rests.set (spotS S) ((S.rests.getD (spotS S) 0).fdiv m) else S.rests⟩
def nextF : List O → Dr → Out E := fun os S => match os with
  | [.v .drw, .v (.int m)] => if okS S m then .ok (.v (.int (nextV S m))) (nextS S m) else .stk
  | _ => .stk
theorem fmod_rng {a m : Int} (h : 0 < m) : 0 ≤ a.fmod m ∧ a.fmod m < m := by
  rw [Int.fmod_eq_emod_of_nonneg _ (Int.le_of_lt h)]
  exact ⟨Int.emod_nonneg _ (by omega), Int.emod_lt_of_pos _ h⟩
theorem nextV_rng {S : Dr} {m : Int} (h : 0 < m) : 0 ≤ nextV S m ∧ nextV S m < m := by
  unfold nextV
  split <;> exact fmod_rng h
theorem nextS_ok {S : Dr} {m : Int} : (nextS S m).cells.length = S.cells.length ∧ (nextS S m).rests.length = S.rests.length ∧ (nextS S m).turn = S.turn + 1 := by
  refine ⟨rfl, ?_, rfl⟩
  unfold nextS
  dsimp only
  split
  · rw [List.length_set]
  · rfl
/-- the draws' state is right, t of them done at most -/
def OkD (t : Nat) (S : Dr) : Prop := S.cells.length = S.rests.length ∧ 0 < S.cells.length ∧ S.cells.length ≤ 64 ∧ 0 ≤ S.turn ∧ S.turn ≤ (t : Int)
theorem OkD.mono {t u : Nat} {S : Dr} (h : OkD t S) (l : t ≤ u) : OkD u S := ⟨h.1, h.2.1, h.2.2.1, h.2.2.2.1, by have := h.2.2.2.2; omega⟩
theorem next_run {t : Nat} {S : Dr} {m : Int} (h : OkD t S) (ht : t < 33554432) (h0 : 0 < m) (h1 : m < 1073741824) :
    ∃ (r : Int) (S' : Dr), nextF [.v .drw, .v (.int m)] S = .ok (.v (.int r)) S' ∧ 0 ≤ r ∧ r < m ∧ OkD (t + 1) S' := by
  obtain ⟨a, b, c, d, e⟩ := h
  refine ⟨nextV S m, nextS S m, ?_, (nextV_rng h0).1, (nextV_rng h0).2, ?_⟩
  · show (if okS S m then _ else _) = _
    rw [if_pos ⟨a, b, c, d, by omega, h0, h1⟩]
  · obtain ⟨k1, k2, k3⟩ := nextS_ok (S := S) (m := m)
    exact ⟨by rw [k1, k2, a], by rw [k1]; exact b, by rw [k1]; exact c, by rw [k3]; omega, by rw [k3]; omega⟩

/-- the slots of _law_next -/
abbrev nsNext : List Str := ["_law_drawn", "_law_many", "_law_cells", "_law_turn", "_law_rests", "_law_spot", "_law_digit", "_law_mixed", "_law_again"]
end Dn

set_option Elab.async false
set_option linter.all false
set_option maxRecDepth 100000
set_option maxHeartbeats 4000000
namespace Dn
open PySem PySem.Spec PyProof.Rows L2

/-! ### the law's own plumbing -/
/-- a def of the text, by its name -/
structure FnA (K : PySem.W.Frag) (mg : Str → Option Value) (name : Str) (st : Stmt) (ps : List Str) : Type where
  f : Addr
  fd : FuncData
  m : mg name = some (.ref f)
  F : Fun K name name st f fd
  b : Binds K fd ps []
theorem FnA.k {K : PySem.W.Frag} {mg : Str → Option Value} {name : Str} {st : Stmt} {ps : List Str} (A : FnA K mg name st ps) : PySem.W.keepIn K (.ref A.f) = true := A.F.kp
def FnA.mk' {l : PySem.W.OpenLaw} {K : PySem.W.Frag} {h : Heap} {mg : Str → Option Value} (X : K.In h) (G : h.Ns mainGlobals mg) {name : Str} {st : Stmt} {ps : List Str} {f : Addr} {oc kV doc pm cdv ct : Value} {od an : Option Addr} {osl : Array (Option Value)}
    (a : PySem.W.nsIn K mainGlobals name = some (some (.ref f))) (l : K.lookup f = some ⟨oc, od, .func (PySem.W.fnOf name name (defArgs st) (defBody st) (defScope st) .none kV doc pm an cdv ct), osl⟩)
    (c : PySem.W.codeIn K cdv name = true) (k : PySem.W.keepIn K (.ref f) = true)
    (b : ∀ (kV doc pm : Value) (an : Option Addr) (cdv ct : Value) (us : List Value), us.length = ps.length → bindArgs (PySem.W.fnOf name name (defArgs st) (defBody st) (defScope st) .none kV doc pm an cdv ct) ⟨us, []⟩ = pure (ps.zip us)) : FnA K mg name st ps :=
  ⟨f, _, PySem.W.mg_of X G a, fun_mk l c k, (fun_mk (st := st) l c k).binds b⟩
/-- an exception's class of the text with its own __init__, by its name -/
structure ExA (K : PySem.W.Frag) (mg : Str → Option Value) (name qual : Str) (st : Stmt) (ps : List Str) (C : Addr) : Type where
  fI : Addr
  fd : FuncData
  m : mg name = some (.ref C)
  T : OexC K C
  xf : XfC K C
  iC : PySem.W.findIn K (.ref C) "__init__" = some (some (.ref fI))
  tI : PySem.W.typeIn K (.ref fI) = some (.type "function")
  F : Fun K "__init__" qual st fI fd
  b : Binds K fd ps []
def ExA.mk' {K : PySem.W.Frag} {h : Heap} {mg : Str → Option Value} (X : K.In h) (G : h.Ns mainGlobals mg) {name qual : Str} {st : Stmt} {ps : List Str} {C f : Addr} {oc kV doc pm cdv ct : Value} {od an : Option Addr} {osl : Array (Option Value)}
    (aC : PySem.W.nsIn K mainGlobals name = some (some (.ref C))) (iC : PySem.W.findIn K (.ref C) "__init__" = some (some (.ref f))) (tI : PySem.W.typeIn K (.ref f) = some (.type "function"))
    (l : K.lookup f = some ⟨oc, od, .func (PySem.W.fnOf "__init__" qual (defArgs st) (defBody st) (defScope st) .none kV doc pm an cdv ct), osl⟩)
    (c : PySem.W.codeIn K cdv qual = true) (k : PySem.W.keepIn K (.ref f) = true) (T : OexC K C) (xf : XfC K C)
    (b : ∀ (kV doc pm : Value) (an : Option Addr) (cdv ct : Value) (us : List Value), us.length = ps.length → bindArgs (PySem.W.fnOf "__init__" qual (defArgs st) (defBody st) (defScope st) .none kV doc pm an cdv ct) ⟨us, []⟩ = pure (ps.zip us)) : ExA K mg name qual st ps C :=
  ⟨f, _, PySem.W.mg_of X G aC, T, xf, iC, tI, fun_mk l c k, (fun_mk (st := st) l c k).binds b⟩

def cellsOf (ns : List Int) : List Int := ns.take 63 ++ (if ns.length = 0 then [0] else [])
def restOf (c : Int) : Int := if 1000000000000000000 ≤ c then c else 0
def startS (ns : List Int) : Dr := ⟨cellsOf ns, 0, (cellsOf ns).map restOf⟩
theorem startS_ok {ns : List Int} (h : ns.length ≤ 63) : OkD 0 (startS ns) := by
  refine ⟨by unfold startS; rw [List.length_map], ?_, ?_, Int.le_refl _, Int.le_refl _⟩
  · unfold startS cellsOf
    rw [List.length_append, List.length_take]
    split
    · simp
    · simp; omega
  · unfold startS cellsOf
    rw [List.length_append, List.length_take]
    split
    · simp; omega
    · simp; omega
def spDraws (K : PySem.W.Frag) : Sp := fun vs H Q _ => ∃ (a : Addr) (ns : List Int), vs = [.ref a] ∧ SqL K H a (ns.map V.int) ∧ ns.length ≤ 63 ∧ ∀ (dr rs cl : Addr) (H' : Hp), H dr = none → H rs = none → dr ≠ rs → cl ≠ dr → cl ≠ rs → Same H H' →
  H' dr = some (.lst [.ref cl, .int 0, .ref rs]) → H' cl = some (.lst ((cellsOf ns).map V.int)) → H' rs = some (.lst (((cellsOf ns).map restOf).map V.int)) → Q (.ref dr) H'
abbrev nsDraws : List Str := ["_law_script", "_law_cells", "_law_cell"]
theorem cut63 {ns : List Int} (h : ns.length ≤ 63) : cutV (ns.map V.int) none (some 63) = (ns.take 63).map V.int := by
  unfold cutV
  rw [List.length_map, HT.sIx_none, show (some (63 : Int)) = some ((63 : Nat) : Int) from rfl, HT.sIx_nat, List.drop_zero, Nat.sub_zero, Nat.min_eq_right h, List.take_of_length_le (by rw [List.length_map]; exact Nat.le_refl _), List.take_of_length_le h]
theorem yes_go {σ : L2.St} {H : Hp} {t u : Hp → Prop} (h : t H) : tYes σ H (fun b H3 => if b = true then t H3 else u H3) := by
  show if true = true then t H else u H
  rw [if_pos rfl]
  exact h
theorem ifB {b : Bool} {t u : Hp → Prop} {H : Hp} (k : b = true → t H) (l : b = false → u H) : if b = true then t H else u H := by
  cases b
  · exact l rfl
  · exact k rfl
theorem blk_of {X : Cx} {N : List Str} {sc scope : Scope} {own : List (Str × Nat)} (hN : X.N = N) (hs : X.env.scope = sc) (h : BlkOk N sc scope own) : BlkOk X.N X.env.scope scope own := by
  subst hN
  subst hs
  exact h
/-- what the law's script must do -/
def spLaw (K : PySem.W.Frag) : Sp := fun vs H Q _ => ∃ (a : Addr) (ns : List Int), vs = [.ref a] ∧ SqL K H a (ns.map V.int) ∧ ns.length ≤ 63 ∧ ∀ H', Q (.bl true) H'
/-- the locals behind the law's first statement -/
def startL (N : Nat) (ns : List Int) : Env := some (.v (.scr ns)) :: some (.v .drw) :: List.replicate (N - 2) none
/-- from the law's body behind its first statement -/
theorem law_mk {P : Program} {w : World} {K : PySem.W.Frag} {mg : Str → Option Value} {base : Heap} {st sd : Stmt} {f : Addr} {fd : FuncData} {N : List Str} {k : Nat} {g : Env → Dr → SO} {b0 : Stmt} {rest : List Stmt}
    (F : Fun K "law" "law" st f fd) (Sc : FnScope N ["_law_script"] (defScope st)) (D : FnA K mg "_law_draws" sd ["_law_script"]) (okD : FnOk P w K mg base (L2.CX P w) 1 D.f D.fd ["_law_script"] (spDraws K))
    (hb : defBody st = b0 :: rest) (hN : 2 ≤ N.length)
    (h0 : ∀ (cdv : Value) (A : Around) (outer : List PySem.Env) (s : Shared) (H : Hp) (E : XK), Room (k + 1) (A.deeper (envOfC "law" (defScope st) s.heap.objs.size f cdv)) →
      PS (cxOf (L2.CX P w) P w K mg base N "law" (defScope st) f cdv A outer s H E) b0 (tAsg (tCall (spDraws K) [] E (tCons (tVar 0) tNil)) (gName 1)))
    (hbody : ∀ (dr rs cl : Addr) (cdv : Value) (A : Around) (outer : List PySem.Env) (s : Shared) (H : Hp) (E : XK), Room (k + 1) (A.deeper (envOfC "law" (defScope st) s.heap.objs.size f cdv)) →
      JB (cxOf (L2.CX P w) P w K mg base N "law" (defScope st) f cdv A outer s H E) (fun cls d _ H => E cls d H) (BB K dr rs cl) rest g)
    (hg : ∀ ns : List Int, ns.length ≤ 63 → ∃ S', g (startL N.length ns) (startS ns) = .rt (.v (.bl true)) S') : FnOk P w K mg base (L2.CX P w) (k + 2) f fd ["_law_script"] (spLaw K) := by
  refine F.okX Sc (fun vs H Q E h => ?_) fun cdv A outer s H vs Q E hr h => ?_
  · obtain ⟨a, ns, rfl, _⟩ := h
    rfl
  obtain ⟨a, ns, rfl, hS, hl, q⟩ := h
  rw [hb]
  refine ⟨_, pss_cons (h0 cdv A outer s H E hr) pss_W, ?_⟩
  obtain ⟨n1, N2, rfl⟩ : ∃ n1 N2, N = n1 :: N2 := by cases N with
    | nil => simp at hN
    | cons n1 N2 => exact ⟨n1, N2, rfl⟩
  obtain ⟨n2, N3, rfl⟩ : ∃ n1 N3, N2 = n1 :: N3 := by cases N2 with
    | nil => simp at hN
    | cons n1 N2 => exact ⟨n1, N2, rfl⟩
  refine ⟨_, rfl, a, ns, rfl, hS, hl, fun dr rs cl H' d0 r0 ne c1 c2 sm e1 e2 e3 => ?_⟩
  let Hf : Hp := fun x => if x = dr ∨ x = rs then none else H' x
  have hf : ∀ {x}, x ≠ dr → x ≠ rs → Hf x = H' x := fun {x} a b => by
    show (if x = dr ∨ x = rs then none else H' x) = _
    rw [if_neg]
    rintro (e | e)
    · exact a e
    · exact b e
  have hfd : Hf dr = none := by show (if dr = dr ∨ dr = rs then none else H' dr) = none; rw [if_pos (.inl rfl)]
  have hfr : Hf rs = none := by show (if rs = dr ∨ rs = rs then none else H' rs) = none; rw [if_pos (.inr rfl)]
  have ex : Ex Hf H' := fun x o e => by
    by_cases q1 : x = dr
    · rw [q1, hfd] at e; cases e
    by_cases q2 : x = rs
    · rw [q2, hfr] at e; cases e
    rw [hf q1 q2] at e; exact e
  have dR : DrR (BB K dr rs cl) Hf (startS ns) H' := ⟨e1, by rw [hf c1 c2]; exact e2, e3, ne⟩
  have eH : Ex H Hf := fun x o e => by
    have q1 : x ≠ dr := fun z => by rw [z, d0] at e; cases e
    have q2 : x ≠ rs := fun z => by rw [z, r0] at e; cases e
    rw [hf q1 q2]; exact sm _ _ e
  have r : R (BB K dr rs cl) (Hf, H') Hf (startL (n1 :: n2 :: N3).length ns) (startS ns) ((L2.start (n1 :: n2 :: N3) [V.ref a]).set 1 (some (V.ref dr))) H' := by
    refine ⟨ex, Ex.refl _, fun _ _ h => .inl h, ⟨hfd, hfr⟩, Go.refl, ⟨⟨_, e1⟩, _, e3⟩, dR, ?_, fun i o h => ?_, fun i j oi oj b hi hj wi wj _ _ => ?_⟩
    · simp [startL, L2.start]
    · match i with
      | 0 => cases h; exact ⟨_, rfl, Rep.scr (ex_l eH hS)⟩
      | 1 => cases h; exact ⟨_, rfl, Rep.drw⟩
      | i + 2 =>
        have h : (List.replicate ((n1 :: n2 :: N3).length - 2) (none : Option O))[i]? = some (some o) := h
        rw [List.getElem?_replicate] at h
        split at h <;> cases h
    · match i with
      | 0 => cases hi; cases wi
      | 1 => cases hi; cases wi
      | i + 2 =>
        have h : (List.replicate ((n1 :: n2 :: N3).length - 2) (none : Option O))[i]? = some (some oi) := hi
        rw [List.getElem?_replicate] at h
        split at h <;> cases h
  refine (hbody dr rs cl cdv A outer s H E hr).go (Hf, H') _ H' _ _ Hf _ r ?_
  obtain ⟨S', e⟩ := hg ns hl
  rw [e]
  exact fun v Hf1 H1 n d z => by
    cases (show Rep K dr Hf1 v (.bl true) from z)
    exact q H1
theorem units65 {k : Nat} {A : Around} (r : Room k A) : A.units + 65 < cLine := by have := r.un; omega
section
variable {X : Cx} {W : WX} {B : Bs}
theorem je_globI' {x : Str} {i : Int} {pos : Pos} (hm : ∃ t, X.mg x = some (.int i t)) (hg : Gl X x := by rfl) (hd : (x == ("__debug__" : Str)) = false := by decide) : JE X W B (.Name x pos) (fC (.int i)) := by
  obtain ⟨t, hm⟩ := hm
  exact je_globI hm hg hd
theorem je_globS' {x : Str} {i : Str} {pos : Pos} (hm : ∃ t, X.mg x = some (.str i t)) (hg : Gl X x := by rfl) (hd : (x == ("__debug__" : Str)) = false := by decide) : JE X W B (.Name x pos) (fC (.str i)) := by
  obtain ⟨t, hm⟩ := hm
  exact je_globS hm hg hd
theorem fnok_stk {P : Program} {w : World} {K : PySem.W.Frag} {mg : Str → Option Value} {base : Heap} {f : Addr} {fd : FuncData} {ps : List Str} {n : Nat} (hn : n = ps.length) : FnOk P w K mg base (L2.CX P w) 0 f fd ps (spF B n fun _ _ => .stk) :=
  ⟨fun vs H Q E h => by rw [h.1, hn], fun A outer s H args us vs Q E _ _ _ _ h => by
    obtain ⟨_, os, S, Hf, _, _, _, _, q⟩ := h
    exact q.elim⟩
end
end Dn

set_option Elab.async false
set_option linter.all false
set_option maxRecDepth 100000
set_option maxHeartbeats 4000000
namespace Dn
open PySem PySem.Spec PyProof.Rows L2

/-! ### what a meaning ends with -/
abbrev PX := Addr → List (Str × D) → Dr → Prop
def Out.w {α : Type} (o : Out α) (P : α → Dr → Prop) (X : PX) : Prop := match o with
  | .ok a S => P a S
  | .exc C fs S => X C fs S
  | .stk => False
structure Kt where
  nx : Env → Dr → Prop
  rt : E → Dr → Prop
  bk : Env → Dr → Prop
  ct : Env → Dr → Prop
  ex : Addr → List (Str × D) → Env → Dr → Prop
def SO.w (o : SO) (K : Kt) : Prop := match o with
  | .nx ρ S => K.nx ρ S
  | .rt e S => K.rt e S
  | .bk ρ S => K.bk ρ S
  | .ct ρ S => K.ct ρ S
  | .exc C fs ρ S => K.ex C fs ρ S
  | .stk => False
abbrev noX' : PX := fun _ _ _ => False
section
variable {α β : Type} {P : α → Dr → Prop} {X : PX} {S : Dr} {ρ : Env} {K : Kt}
theorem w_bind {o : Out β} {k : β → Dr → Out α} : (o.bind k).w P X = o.w (fun b S1 => (k b S1).w P X) X := by cases o <;> rfl
theorem w_of {o : Option α} : (Out.of o S).w P X = ∃ a, o = some a ∧ P a S := by
  cases o with
  | none => exact propext ⟨fun h => h.elim, fun ⟨_, h, _⟩ => by cases h⟩
  | some a => exact propext ⟨fun h => ⟨a, rfl, h⟩, fun ⟨_, h, k⟩ => by cases h; exact k⟩
theorem w_so {o : Out α} {k : α → Dr → SO} : (o.so ρ k).w K = o.w (fun a S1 => (k a S1).w K) (fun C fs S1 => K.ex C fs ρ S1) := by cases o <;> rfl
@[simp] theorem w_ok {a : α} : (Out.ok a S).w P X = P a S := rfl
theorem Out.w.mono {o : Out α} {P' : α → Dr → Prop} {X' : PX} (h : o.w P X) (hp : ∀ a S, P a S → P' a S) (hx : ∀ C fs S, X C fs S → X' C fs S) : o.w P' X' := by
  cases o with
  | ok a S => exact hp _ _ h
  | exc C fs S => exact hx _ _ _ h
  | stk => exact h
theorem Out.w.imp {o : Out α} {P' : α → Dr → Prop} (h : o.w P X) (hp : ∀ a S, P a S → P' a S) : o.w P' X := h.mono hp fun _ _ _ z => z
theorem Out.w.of_eq {o : Out α} {a : α} {S' : Dr} (e : o = .ok a S') (h : P a S') : o.w P X := by rw [e]; exact h
end
section
variable {P : E → Dr → Prop} {Pb : Bool → Dr → Prop} {Pl : List O → Dr → Prop} {X : PX} {S : Dr} {ρ : Env} {K : Kt} {fa fb fc : Env → Dr → Out E} {ga gb gc : Env → Dr → Out Bool} {fr : Env → Dr → Out (List O)}
@[simp] theorem w_C {d : D} : (fC d ρ S).w P X = P (.v d) S := rfl
theorem w_var {i : Nat} {o : O} {e : E} (h : ρ[i]? = some (some o)) (r : readO o = some e) : (fVar i ρ S).w P X = P e S := by
  unfold fVar
  rw [h]
  show (Out.of (readO o) S).w P X = _
  rw [r]
  rfl
@[simp] theorem w_op {g : E → E → Option E} : (fOp g fa fb ρ S).w P X = (fa ρ S).w (fun x S1 => (fb ρ S1).w (fun y S2 => ∃ e, g x y = some e ∧ P e S2) X) X := by
  unfold fOp
  simp only [w_bind, w_of]
@[simp] theorem w_un {g : E → Option E} : (fUn g fa ρ S).w P X = (fa ρ S).w (fun x S1 => ∃ e, g x = some e ∧ P e S1) X := by
  unfold fUn
  simp only [w_bind, w_of]
@[simp] theorem w_call {g : List O → Option E} : (fCall g fr ρ S).w P X = (fr ρ S).w (fun x S1 => ∃ e, g x = some e ∧ P e S1) X := by
  unfold fCall
  simp only [w_bind, w_of]
@[simp] theorem w_use {n : Nat} {F : List O → Dr → Out E} : (fUse n F fr ρ S).w P X = (fr ρ S).w (fun os S1 => if os.length = n then (F os S1).w P X else False) X := by
  unfold fUse
  rw [w_bind]
  congr 1
  funext os S1
  split <;> rfl
@[simp] theorem w_nil : (aNil ρ S).w Pl X = Pl [] S := rfl
@[simp] theorem w_cons : (aCons fa fr ρ S).w Pl X = (fa ρ S).w (fun e S1 => (fr ρ S1).w (fun os S2 => Pl (toO e :: os) S2) X) X := by
  unfold aCons
  simp only [w_bind, w_ok]
@[simp] theorem w_tst : (fTst fa ρ S).w Pb X = (fa ρ S).w (fun e S1 => ∃ b, e.bl? = some b ∧ Pb b S1) X := by
  unfold fTst
  simp only [w_bind, w_of]
@[simp] theorem w_and : (fAnd ga gb ρ S).w Pb X = (ga ρ S).w (fun c S1 => if c = true then (gb ρ S1).w Pb X else Pb false S1) X := by
  unfold fAnd
  rw [w_bind]
  congr 1
  funext c S1
  split <;> rfl
@[simp] theorem w_or : (fOr ga gb ρ S).w Pb X = (ga ρ S).w (fun c S1 => if c = true then Pb true S1 else (gb ρ S1).w Pb X) X := by
  unfold fOr
  rw [w_bind]
  congr 1
  funext c S1
  split <;> rfl
@[simp] theorem w_not : (fNot ga ρ S).w Pb X = (ga ρ S).w (fun c S1 => Pb (!c) S1) X := by
  unfold fNot
  simp only [w_bind, w_ok]
@[simp] theorem w_andV : (fAndV fa fb ρ S).w P X = (fTst fa ρ S).w (fun c S1 => if c = true then (fb ρ S1).w P X else P (.v (.bl false)) S1) X := by
  unfold fAndV
  rw [w_bind]
  congr 1
  funext c S1
  split <;> rfl
@[simp] theorem w_orV : (fOrV fa fb ρ S).w P X = (fTst fa ρ S).w (fun c S1 => if c = true then P (.v (.bl true)) S1 else (fb ρ S1).w P X) X := by
  unfold fOrV
  rw [w_bind]
  congr 1
  funext c S1
  split <;> rfl
@[simp] theorem w_notV : (fNotV fa ρ S).w P X = (fTst fa ρ S).w (fun c S1 => P (.v (.bl !c)) S1) X := by
  unfold fNotV
  simp only [w_bind, w_ok]
@[simp] theorem w_if : (fIf gc fa fb ρ S).w P X = (gc ρ S).w (fun c S1 => if c = true then (fa ρ S1).w P X else (fb ρ S1).w P X) X := by
  unfold fIf
  rw [w_bind]
  congr 1
  funext c S1
  split <;> rfl
@[simp] theorem w_chain {g g' : E → E → Option E} : (fChain g g' fa fb fc ρ S).w P X = (fa ρ S).w (fun x S1 => (fb ρ S1).w (fun y S2 => ∃ b, (g x y).bind E.bl? = some b ∧ if b = true then (fc ρ S2).w (fun z S3 => ∃ e, g' y z = some e ∧ P e S3) X else P (.v (.bl false)) S2) X) X := by
  unfold fChain
  rw [w_bind]
  congr 1
  funext x S1
  rw [w_bind]
  congr 1
  funext y S2
  cases q : (g x y).bind E.bl? with
  | none => exact propext ⟨fun h => h.elim, fun ⟨_, h, _⟩ => by cases h⟩
  | some b =>
    cases b with
    | false => exact propext ⟨fun h => ⟨false, rfl, h⟩, fun ⟨_, h, k⟩ => by cases h; exact k⟩
    | true =>
      have e : ∀ o : Out E, o = ((fc ρ S2).bind fun z S3 => Out.of (g' y z) S3) → o.w P X = (fc ρ S2).w (fun z S3 => ∃ e, g' y z = some e ∧ P e S3) X := fun o h => by rw [h]; simp only [w_bind, w_of]
      have e' := e _ rfl
      exact propext ⟨fun h => ⟨true, rfl, e' ▸ h⟩, fun ⟨_, h, k⟩ => by cases h; exact e'.symm ▸ k⟩
@[simp] theorem w_none {P : Option Int → Dr → Prop} : (oNone ρ S).w P X = P none S := rfl
@[simp] theorem w_some {P : Option Int → Dr → Prop} : (oSome fa ρ S).w P X = (fa ρ S).w (fun e S1 => ∃ i, e.int? = some i ∧ P (some i) S1) X := by
  unfold oSome
  rw [w_bind]
  congr 1
  funext e S1
  cases e.int? with
  | none => exact propext ⟨fun h => h.elim, fun ⟨_, h, _⟩ => by cases h⟩
  | some i => exact propext ⟨fun h => ⟨i, rfl, h⟩, fun ⟨_, h, k⟩ => by cases h; exact k⟩
@[simp] theorem w_sl {fl fh : Env → Dr → Out (Option Int)} : (fSl fl fh fa ρ S).w P X = (fa ρ S).w (fun x S1 => (fl ρ S1).w (fun l S2 => (fh ρ S2).w (fun u S3 => ∃ e, gSl l u x = some e ∧ P e S3) X) X) X := by
  unfold fSl
  simp only [w_bind, w_of]
@[simp] theorem w_itr {c : Bool} {P : List D → Dr → Prop} : (fItr c fa ρ S).w P X = (fa ρ S).w (fun e S1 => ∃ ds, itE c e = some ds ∧ P ds S1) X := by
  unfold fItr
  simp only [w_bind, w_of]
@[simp] theorem w_itC {g : List O → Option (List D)} {P : List D → Dr → Prop} : (fItC g fr ρ S).w P X = (fr ρ S).w (fun os S1 => ∃ ds, g os = some ds ∧ P ds S1) X := by
  unfold fItC
  simp only [w_bind, w_of]
@[simp] theorem w_isi {c : String} : (fIsi c fa ρ S).w P X = (fa ρ S).w (fun e S1 => ∃ t, tyE e = some t ∧ P (.v (.bl (isB t c))) S1) X := by
  unfold fIsi
  rw [w_bind]
  congr 1
  funext e S1
  cases tyE e with
  | none => exact propext ⟨fun h => h.elim, fun ⟨_, h, _⟩ => by cases h⟩
  | some t => exact propext ⟨fun h => ⟨t, rfl, h⟩, fun ⟨_, h, k⟩ => by cases h; exact k⟩
@[simp] theorem w_isi2 {c c2 : String} : (fIsi2 c c2 fa ρ S).w P X = (fa ρ S).w (fun e S1 => ∃ t, tyE e = some t ∧ P (.v (.bl (isB t c || isB t c2))) S1) X := by
  unfold fIsi2
  rw [w_bind]
  congr 1
  funext e S1
  cases tyE e with
  | none => exact propext ⟨fun h => h.elim, fun ⟨_, h, _⟩ => by cases h⟩
  | some t => exact propext ⟨fun h => ⟨t, rfl, h⟩, fun ⟨_, h, k⟩ => by cases h; exact k⟩
end
/-! statements -/
section
variable {S : Dr} {ρ : Env} {K : Kt} {fa fb : Env → Dr → Out E} {gc : Env → Dr → Out Bool} {g1 g2 g : Env → Dr → SO} {fr : Env → Dr → Out (List O)}
@[simp] theorem w_nx : (sNx ρ S).w K = K.nx ρ S := rfl
@[simp] theorem w_seq : (sSeq g1 g2 ρ S).w K = (g1 ρ S).w { K with nx := fun ρ' S' => (g2 ρ' S').w K } := by
  unfold sSeq
  cases g1 ρ S <;> rfl
@[simp] theorem w_ret : (sRet fa ρ S).w K = (fa ρ S).w (fun e S1 => ∃ e', retE e = some e' ∧ K.rt e' S1) (fun C fs S1 => K.ex C fs ρ S1) := by
  unfold sRet
  rw [w_so]
  congr 1
  funext e S1
  cases retE e with
  | none => exact propext ⟨fun h => h.elim, fun ⟨_, h, _⟩ => by cases h⟩
  | some t => exact propext ⟨fun h => ⟨t, rfl, h⟩, fun ⟨_, h, k⟩ => by cases h; exact k⟩
@[simp] theorem w_retN : (sRetN ρ S).w K = K.rt (.v .non) S := rfl
@[simp] theorem w_drop : (sDrop fa ρ S).w K = (fa ρ S).w (fun _ S1 => K.nx ρ S1) (fun C fs S1 => K.ex C fs ρ S1) := by
  unfold sDrop
  rw [w_so]
  rfl
@[simp] theorem w_ifS : (sIf gc g1 g2 ρ S).w K = (gc ρ S).w (fun c S1 => if c = true then (g1 ρ S1).w K else (g2 ρ S1).w K) (fun C fs S1 => K.ex C fs ρ S1) := by
  unfold sIf
  rw [w_so]
  congr 1
  funext c S1
  split <;> rfl
@[simp] theorem w_brk : (sBrk ρ S).w K = K.bk ρ S := rfl
@[simp] theorem w_cnt : (sCnt ρ S).w K = K.ct ρ S := rfl
theorem w_set {i : Nat} (h : i < ρ.length) : (sSet i fa ρ S).w K = (fa ρ S).w (fun e S1 => ∃ o, stO e = some o ∧ K.nx (ρ.set i (some o)) S1) (fun C fs S1 => K.ex C fs ρ S1) := by
  unfold sSet
  rw [if_pos h, w_so]
  congr 1
  funext e S1
  cases stO e with
  | none => exact propext ⟨fun h => h.elim, fun ⟨_, h, _⟩ => by cases h⟩
  | some t => exact propext ⟨fun h => ⟨t, rfl, h⟩, fun ⟨_, h, k⟩ => by cases h; exact k⟩
theorem w_setF {i : Nat} (h : i < ρ.length) : (sSetF i fa ρ S).w K = (fa ρ S).w (fun e S1 => ∃ d, per e = some d ∧ K.nx (ρ.set i (some (.v d))) S1) (fun C fs S1 => K.ex C fs ρ S1) := by
  unfold sSetF
  rw [if_pos h, w_so]
  congr 1
  funext e S1
  cases per e with
  | none => exact propext ⟨fun h => h.elim, fun ⟨_, h, _⟩ => by cases h⟩
  | some t => exact propext ⟨fun h => ⟨t, rfl, h⟩, fun ⟨_, h, k⟩ => by cases h; exact k⟩
@[simp] theorem w_raise {C : Addr} {names : List Str} : (sRaise C names fr ρ S).w K = (fr ρ S).w (fun os S1 => ∃ ds, vals os = some ds ∧ ds.length = names.length ∧ K.ex C (names.zip ds).reverse ρ S1) (fun C fs S1 => K.ex C fs ρ S1) := by
  unfold sRaise
  rw [w_so]
  congr 1
  funext os S1
  cases vals os with
  | none => exact propext ⟨fun h => h.elim, fun ⟨_, h, _⟩ => by cases h⟩
  | some ds =>
    dsimp only
    split
    · rename_i hl
      exact propext ⟨fun h => ⟨ds, rfl, hl, h⟩, fun ⟨_, h, _, k⟩ => by cases h; exact k⟩
    · rename_i hl
      exact propext ⟨fun h => h.elim, fun ⟨_, h, k, _⟩ => by cases h; exact (hl k).elim⟩
@[simp] theorem w_run {n : Nat} {os : List O} {P : E → Dr → Prop} {X : PX} : (runF n g os S).w P X = (g (startE n os) S).w ⟨fun _ S1 => P (.v .non) S1, P, fun _ _ => False, fun _ _ => False, fun C fs _ S1 => X C fs S1⟩ := by
  unfold runF
  cases g (startE n os) S <;> rfl
@[simp] theorem w_for {fi : Env → Dr → Out (List D)} {tgt : D → Env → Option Env} : (sFor fi tgt g ρ S).w K = (fi ρ S).w (fun ds S1 => (forD tgt g ds ρ S1).w K) (fun C fs S1 => K.ex C fs ρ S1) := by
  unfold sFor
  rw [w_so]
@[simp] theorem w_fnil {tgt : D → Env → Option Env} : (forD tgt g [] ρ S).w K = K.nx ρ S := rfl
theorem w_fcons {tgt : D → Env → Option Env} {d : D} {ds : List D} : (forD tgt g (d :: ds) ρ S).w K = ∃ ρ1, tgt d ρ = some ρ1 ∧ (g ρ1 S).w { K with nx := fun ρ2 S2 => (forD tgt g ds ρ2 S2).w K, ct := fun ρ2 S2 => (forD tgt g ds ρ2 S2).w K, bk := fun ρ2 S2 => K.nx ρ2 S2 } := by
  rw [forD]
  cases tgt d ρ with
  | none => exact propext ⟨fun h => h.elim, fun ⟨_, h, _⟩ => by cases h⟩
  | some ρ1 =>
    have : ∀ o : SO, (match o with | .nx ρ2 S2 => forD tgt g ds ρ2 S2 | .ct ρ2 S2 => forD tgt g ds ρ2 S2 | .bk ρ2 S2 => .nx ρ2 S2 | o => o : SO).w K = o.w { K with nx := fun ρ2 S2 => (forD tgt g ds ρ2 S2).w K, ct := fun ρ2 S2 => (forD tgt g ds ρ2 S2).w K, bk := fun ρ2 S2 => K.nx ρ2 S2 } := fun o => by cases o <;> rfl
    have z := this (g ρ1 S)
    exact propext ⟨fun h => ⟨ρ1, rfl, z ▸ h⟩, fun ⟨_, h, k⟩ => by cases h; exact z.symm ▸ k⟩
/-- a loop with an invariant, by what is left -/
theorem for_inv {tgt : D → Env → Option Env} (I : List D → Env → Dr → Prop) (h : ∀ d ds ρ S, I (d :: ds) ρ S → ∃ ρ1, tgt d ρ = some ρ1 ∧ (g ρ1 S).w { K with nx := I ds, ct := I ds, bk := fun ρ2 S2 => K.nx ρ2 S2 }) (h0 : ∀ ρ S, I [] ρ S → K.nx ρ S) : ∀ (ds : List D) (ρ : Env) (S : Dr), I ds ρ S → (forD tgt g ds ρ S).w K
  | [], ρ, S, i => by rw [w_fnil]; exact h0 ρ S i
  | d :: ds, ρ, S, i => by
    rw [w_fcons]
    obtain ⟨ρ1, e, k⟩ := h d ds ρ S i
    refine ⟨ρ1, e, ?_⟩
    have ih := for_inv I h h0 ds
    revert k
    cases g ρ1 S with
    | nx ρ2 S2 => exact fun k => ih ρ2 S2 k
    | ct ρ2 S2 => exact fun k => ih ρ2 S2 k
    | bk ρ2 S2 => exact fun k => k
    | rt e S2 => exact fun k => k
    | exc C fs ρ2 S2 => exact fun k => k
    | stk => exact fun k => k
theorem SO.w.mono {o : SO} {K' : Kt} (h : o.w K) (h1 : ∀ ρ S, K.nx ρ S → K'.nx ρ S) (h2 : ∀ e S, K.rt e S → K'.rt e S) (h3 : ∀ ρ S, K.bk ρ S → K'.bk ρ S) (h4 : ∀ ρ S, K.ct ρ S → K'.ct ρ S) (h5 : ∀ C fs ρ S, K.ex C fs ρ S → K'.ex C fs ρ S) : o.w K' := by
  cases o with
  | nx ρ S => exact h1 _ _ h
  | rt e S => exact h2 _ _ h
  | bk ρ S => exact h3 _ _ h
  | ct ρ S => exact h4 _ _ h
  | exc C fs ρ S => exact h5 _ _ _ _ h
  | stk => exact h
/-- a draw -/
theorem w_next {t : Nat} {m : Int} {P : E → Dr → Prop} {X : PX} (h : OkD t S) (ht : t < 33554432) (h0 : 0 < m) (h1 : m < 1073741824) (k : ∀ (r : Int) (S' : Dr), 0 ≤ r → r < m → OkD (t + 1) S' → P (.v (.int r)) S') : (nextF [.v .drw, .v (.int m)] S).w P X := by
  obtain ⟨r, S', e, a, b, c⟩ := next_run h ht h0 h1
  rw [e]
  exact k r S' a b c
end

/-! ### variables, by their places in a row of locals that stands open -/
section
variable {P : E → Dr → Prop} {X : PX} {S : Dr} {ρ : Env} {K : Kt} {fa : Env → Dr → Out E}
@[simp] theorem w_v0 {o : O} : (fVar 0 (some o :: ρ) S).w P X = (Out.of (readO o) S).w P X := rfl
@[simp] theorem w_v1 {a0 : Option O} {o : O} : (fVar 1 (a0 :: some o :: ρ) S).w P X = (Out.of (readO o) S).w P X := rfl
@[simp] theorem w_v2 {a0 a1 : Option O} {o : O} : (fVar 2 (a0 :: a1 :: some o :: ρ) S).w P X = (Out.of (readO o) S).w P X := rfl
@[simp] theorem w_v3 {a0 a1 a2 : Option O} {o : O} : (fVar 3 (a0 :: a1 :: a2 :: some o :: ρ) S).w P X = (Out.of (readO o) S).w P X := rfl
@[simp] theorem w_v4 {a0 a1 a2 a3 : Option O} {o : O} : (fVar 4 (a0 :: a1 :: a2 :: a3 :: some o :: ρ) S).w P X = (Out.of (readO o) S).w P X := rfl
@[simp] theorem w_v5 {a0 a1 a2 a3 a4 : Option O} {o : O} : (fVar 5 (a0 :: a1 :: a2 :: a3 :: a4 :: some o :: ρ) S).w P X = (Out.of (readO o) S).w P X := rfl
@[simp] theorem w_v6 {a0 a1 a2 a3 a4 a5 : Option O} {o : O} : (fVar 6 (a0 :: a1 :: a2 :: a3 :: a4 :: a5 :: some o :: ρ) S).w P X = (Out.of (readO o) S).w P X := rfl
@[simp] theorem w_v7 {a0 a1 a2 a3 a4 a5 a6 : Option O} {o : O} : (fVar 7 (a0 :: a1 :: a2 :: a3 :: a4 :: a5 :: a6 :: some o :: ρ) S).w P X = (Out.of (readO o) S).w P X := rfl
@[simp] theorem w_v8 {a0 a1 a2 a3 a4 a5 a6 a7 : Option O} {o : O} : (fVar 8 (a0 :: a1 :: a2 :: a3 :: a4 :: a5 :: a6 :: a7 :: some o :: ρ) S).w P X = (Out.of (readO o) S).w P X := rfl
@[simp] theorem w_v9 {a0 a1 a2 a3 a4 a5 a6 a7 a8 : Option O} {o : O} : (fVar 9 (a0 :: a1 :: a2 :: a3 :: a4 :: a5 :: a6 :: a7 :: a8 :: some o :: ρ) S).w P X = (Out.of (readO o) S).w P X := rfl
@[simp] theorem w_v10 {a0 a1 a2 a3 a4 a5 a6 a7 a8 a9 : Option O} {o : O} : (fVar 10 (a0 :: a1 :: a2 :: a3 :: a4 :: a5 :: a6 :: a7 :: a8 :: a9 :: some o :: ρ) S).w P X = (Out.of (readO o) S).w P X := rfl
@[simp] theorem w_v11 {a0 a1 a2 a3 a4 a5 a6 a7 a8 a9 a10 : Option O} {o : O} : (fVar 11 (a0 :: a1 :: a2 :: a3 :: a4 :: a5 :: a6 :: a7 :: a8 :: a9 :: a10 :: some o :: ρ) S).w P X = (Out.of (readO o) S).w P X := rfl
@[simp] theorem w_v12 {a0 a1 a2 a3 a4 a5 a6 a7 a8 a9 a10 a11 : Option O} {o : O} : (fVar 12 (a0 :: a1 :: a2 :: a3 :: a4 :: a5 :: a6 :: a7 :: a8 :: a9 :: a10 :: a11 :: some o :: ρ) S).w P X = (Out.of (readO o) S).w P X := rfl
@[simp] theorem w_v13 {a0 a1 a2 a3 a4 a5 a6 a7 a8 a9 a10 a11 a12 : Option O} {o : O} : (fVar 13 (a0 :: a1 :: a2 :: a3 :: a4 :: a5 :: a6 :: a7 :: a8 :: a9 :: a10 :: a11 :: a12 :: some o :: ρ) S).w P X = (Out.of (readO o) S).w P X := rfl
@[simp] theorem w_v14 {a0 a1 a2 a3 a4 a5 a6 a7 a8 a9 a10 a11 a12 a13 : Option O} {o : O} : (fVar 14 (a0 :: a1 :: a2 :: a3 :: a4 :: a5 :: a6 :: a7 :: a8 :: a9 :: a10 :: a11 :: a12 :: a13 :: some o :: ρ) S).w P X = (Out.of (readO o) S).w P X := rfl
@[simp] theorem w_v15 {a0 a1 a2 a3 a4 a5 a6 a7 a8 a9 a10 a11 a12 a13 a14 : Option O} {o : O} : (fVar 15 (a0 :: a1 :: a2 :: a3 :: a4 :: a5 :: a6 :: a7 :: a8 :: a9 :: a10 :: a11 :: a12 :: a13 :: a14 :: some o :: ρ) S).w P X = (Out.of (readO o) S).w P X := rfl
@[simp] theorem w_rv {d : D} : (Out.of (readO (.v d)) S).w P X = P (.v d) S := rfl
@[simp] theorem w_rl {d : List D} : (Out.of (readO (.l d)) S).w P X = P (.b d) S := rfl
@[simp] theorem w_rlt {d : List D} : (Out.of (readO (.lt d)) S).w P X = P (.b d) S := rfl
@[simp] theorem w_sF0 {a0 : Option O} : (sSetF 0 fa (a0 :: ρ) S).w K = (fa (a0 :: ρ) S).w (fun e S1 => ∃ d, per e = some d ∧ K.nx (some (.v d) :: ρ) S1) (fun C fs S1 => K.ex C fs (a0 :: ρ) S1) := w_setF (by simp)
@[simp] theorem w_sS0 {a0 : Option O} : (sSet 0 fa (a0 :: ρ) S).w K = (fa (a0 :: ρ) S).w (fun e S1 => ∃ o, stO e = some o ∧ K.nx (some o :: ρ) S1) (fun C fs S1 => K.ex C fs (a0 :: ρ) S1) := w_set (by simp)
@[simp] theorem w_sF1 {a0 a1 : Option O} : (sSetF 1 fa (a0 :: a1 :: ρ) S).w K = (fa (a0 :: a1 :: ρ) S).w (fun e S1 => ∃ d, per e = some d ∧ K.nx (a0 :: some (.v d) :: ρ) S1) (fun C fs S1 => K.ex C fs (a0 :: a1 :: ρ) S1) := w_setF (by simp)
@[simp] theorem w_sS1 {a0 a1 : Option O} : (sSet 1 fa (a0 :: a1 :: ρ) S).w K = (fa (a0 :: a1 :: ρ) S).w (fun e S1 => ∃ o, stO e = some o ∧ K.nx (a0 :: some o :: ρ) S1) (fun C fs S1 => K.ex C fs (a0 :: a1 :: ρ) S1) := w_set (by simp)
@[simp] theorem w_sF2 {a0 a1 a2 : Option O} : (sSetF 2 fa (a0 :: a1 :: a2 :: ρ) S).w K = (fa (a0 :: a1 :: a2 :: ρ) S).w (fun e S1 => ∃ d, per e = some d ∧ K.nx (a0 :: a1 :: some (.v d) :: ρ) S1) (fun C fs S1 => K.ex C fs (a0 :: a1 :: a2 :: ρ) S1) := w_setF (by simp)
@[simp] theorem w_sS2 {a0 a1 a2 : Option O} : (sSet 2 fa (a0 :: a1 :: a2 :: ρ) S).w K = (fa (a0 :: a1 :: a2 :: ρ) S).w (fun e S1 => ∃ o, stO e = some o ∧ K.nx (a0 :: a1 :: some o :: ρ) S1) (fun C fs S1 => K.ex C fs (a0 :: a1 :: a2 :: ρ) S1) := w_set (by simp)
@[simp] theorem w_sF3 {a0 a1 a2 a3 : Option O} : (sSetF 3 fa (a0 :: a1 :: a2 :: a3 :: ρ) S).w K = (fa (a0 :: a1 :: a2 :: a3 :: ρ) S).w (fun e S1 => ∃ d, per e = some d ∧ K.nx (a0 :: a1 :: a2 :: some (.v d) :: ρ) S1) (fun C fs S1 => K.ex C fs (a0 :: a1 :: a2 :: a3 :: ρ) S1) := w_setF (by simp)
@[simp] theorem w_sS3 {a0 a1 a2 a3 : Option O} : (sSet 3 fa (a0 :: a1 :: a2 :: a3 :: ρ) S).w K = (fa (a0 :: a1 :: a2 :: a3 :: ρ) S).w (fun e S1 => ∃ o, stO e = some o ∧ K.nx (a0 :: a1 :: a2 :: some o :: ρ) S1) (fun C fs S1 => K.ex C fs (a0 :: a1 :: a2 :: a3 :: ρ) S1) := w_set (by simp)
@[simp] theorem w_sF4 {a0 a1 a2 a3 a4 : Option O} : (sSetF 4 fa (a0 :: a1 :: a2 :: a3 :: a4 :: ρ) S).w K = (fa (a0 :: a1 :: a2 :: a3 :: a4 :: ρ) S).w (fun e S1 => ∃ d, per e = some d ∧ K.nx (a0 :: a1 :: a2 :: a3 :: some (.v d) :: ρ) S1) (fun C fs S1 => K.ex C fs (a0 :: a1 :: a2 :: a3 :: a4 :: ρ) S1) := w_setF (by simp)
@[simp] theorem w_sS4 {a0 a1 a2 a3 a4 : Option O} : (sSet 4 fa (a0 :: a1 :: a2 :: a3 :: a4 :: ρ) S).w K = (fa (a0 :: a1 :: a2 :: a3 :: a4 :: ρ) S).w (fun e S1 => ∃ o, stO e = some o ∧ K.nx (a0 :: a1 :: a2 :: a3 :: some o :: ρ) S1) (fun C fs S1 => K.ex C fs (a0 :: a1 :: a2 :: a3 :: a4 :: ρ) S1) := w_set (by simp)
@[simp] theorem w_sF5 {a0 a1 a2 a3 a4 a5 : Option O} : (sSetF 5 fa (a0 :: a1 :: a2 :: a3 :: a4 :: a5 :: ρ) S).w K = (fa (a0 :: a1 :: a2 :: a3 :: a4 :: a5 :: ρ) S).w (fun e S1 => ∃ d, per e = some d ∧ K.nx (a0 :: a1 :: a2 :: a3 :: a4 :: some (.v d) :: ρ) S1) (fun C fs S1 => K.ex C fs (a0 :: a1 :: a2 :: a3 :: a4 :: a5 :: ρ) S1) := w_setF (by simp)
@[simp] theorem w_sS5 {a0 a1 a2 a3 a4 a5 : Option O} : (sSet 5 fa (a0 :: a1 :: a2 :: a3 :: a4 :: a5 :: ρ) S).w K = (fa (a0 :: a1 :: a2 :: a3 :: a4 :: a5 :: ρ) S).w (fun e S1 => ∃ o, stO e = some o ∧ K.nx (a0 :: a1 :: a2 :: a3 :: a4 :: some o :: ρ) S1) (fun C fs S1 => K.ex C fs (a0 :: a1 :: a2 :: a3 :: a4 :: a5 :: ρ) S1) := w_set (by simp)
@[simp] theorem w_sF6 {a0 a1 a2 a3 a4 a5 a6 : Option O} : (sSetF 6 fa (a0 :: a1 :: a2 :: a3 :: a4 :: a5 :: a6 :: ρ) S).w K = (fa (a0 :: a1 :: a2 :: a3 :: a4 :: a5 :: a6 :: ρ) S).w (fun e S1 => ∃ d, per e = some d ∧ K.nx (a0 :: a1 :: a2 :: a3 :: a4 :: a5 :: some (.v d) :: ρ) S1) (fun C fs S1 => K.ex C fs (a0 :: a1 :: a2 :: a3 :: a4 :: a5 :: a6 :: ρ) S1) := w_setF (by simp)
@[simp] theorem w_sS6 {a0 a1 a2 a3 a4 a5 a6 : Option O} : (sSet 6 fa (a0 :: a1 :: a2 :: a3 :: a4 :: a5 :: a6 :: ρ) S).w K = (fa (a0 :: a1 :: a2 :: a3 :: a4 :: a5 :: a6 :: ρ) S).w (fun e S1 => ∃ o, stO e = some o ∧ K.nx (a0 :: a1 :: a2 :: a3 :: a4 :: a5 :: some o :: ρ) S1) (fun C fs S1 => K.ex C fs (a0 :: a1 :: a2 :: a3 :: a4 :: a5 :: a6 :: ρ) S1) := w_set (by simp)
@[simp] theorem w_sF7 {a0 a1 a2 a3 a4 a5 a6 a7 : Option O} : (sSetF 7 fa (a0 :: a1 :: a2 :: a3 :: a4 :: a5 :: a6 :: a7 :: ρ) S).w K = (fa (a0 :: a1 :: a2 :: a3 :: a4 :: a5 :: a6 :: a7 :: ρ) S).w (fun e S1 => ∃ d, per e = some d ∧ K.nx (a0 :: a1 :: a2 :: a3 :: a4 :: a5 :: a6 :: some (.v d) :: ρ) S1) (fun C fs S1 => K.ex C fs (a0 :: a1 :: a2 :: a3 :: a4 :: a5 :: a6 :: a7 :: ρ) S1) := w_setF (by simp)
@[simp] theorem w_sS7 {a0 a1 a2 a3 a4 a5 a6 a7 : Option O} : (sSet 7 fa (a0 :: a1 :: a2 :: a3 :: a4 :: a5 :: a6 :: a7 :: ρ) S).w K = (fa (a0 :: a1 :: a2 :: a3 :: a4 :: a5 :: a6 :: a7 :: ρ) S).w (fun e S1 => ∃ o, stO e = some o ∧ K.nx (a0 :: a1 :: a2 :: a3 :: a4 :: a5 :: a6 :: some o :: ρ) S1) (fun C fs S1 => K.ex C fs (a0 :: a1 :: a2 :: a3 :: a4 :: a5 :: a6 :: a7 :: ρ) S1) := w_set (by simp)
@[simp] theorem w_sF8 {a0 a1 a2 a3 a4 a5 a6 a7 a8 : Option O} : (sSetF 8 fa (a0 :: a1 :: a2 :: a3 :: a4 :: a5 :: a6 :: a7 :: a8 :: ρ) S).w K = (fa (a0 :: a1 :: a2 :: a3 :: a4 :: a5 :: a6 :: a7 :: a8 :: ρ) S).w (fun e S1 => ∃ d, per e = some d ∧ K.nx (a0 :: a1 :: a2 :: a3 :: a4 :: a5 :: a6 :: a7 :: some (.v d) :: ρ) S1) (fun C fs S1 => K.ex C fs (a0 :: a1 :: a2 :: a3 :: a4 :: a5 :: a6 :: a7 :: a8 :: ρ) S1) := w_setF (by simp)
@[simp] theorem w_sS8 {a0 a1 a2 a3 a4 a5 a6 a7 a8 : Option O} : (sSet 8 fa (a0 :: a1 :: a2 :: a3 :: a4 :: a5 :: a6 :: a7 :: a8 :: ρ) S).w K = (fa (a0 :: a1 :: a2 :: a3 :: a4 :: a5 :: a6 :: a7 :: a8 :: ρ) S).w (fun e S1 => ∃ o, stO e = some o ∧ K.nx (a0 :: a1 :: a2 :: a3 :: a4 :: a5 :: a6 :: a7 :: some o :: ρ) S1) (fun C fs S1 => K.ex C fs (a0 :: a1 :: a2 :: a3 :: a4 :: a5 :: a6 :: a7 :: a8 :: ρ) S1) := w_set (by simp)
@[simp] theorem w_sF9 {a0 a1 a2 a3 a4 a5 a6 a7 a8 a9 : Option O} : (sSetF 9 fa (a0 :: a1 :: a2 :: a3 :: a4 :: a5 :: a6 :: a7 :: a8 :: a9 :: ρ) S).w K = (fa (a0 :: a1 :: a2 :: a3 :: a4 :: a5 :: a6 :: a7 :: a8 :: a9 :: ρ) S).w (fun e S1 => ∃ d, per e = some d ∧ K.nx (a0 :: a1 :: a2 :: a3 :: a4 :: a5 :: a6 :: a7 :: a8 :: some (.v d) :: ρ) S1) (fun C fs S1 => K.ex C fs (a0 :: a1 :: a2 :: a3 :: a4 :: a5 :: a6 :: a7 :: a8 :: a9 :: ρ) S1) := w_setF (by simp)
@[simp] theorem w_sS9 {a0 a1 a2 a3 a4 a5 a6 a7 a8 a9 : Option O} : (sSet 9 fa (a0 :: a1 :: a2 :: a3 :: a4 :: a5 :: a6 :: a7 :: a8 :: a9 :: ρ) S).w K = (fa (a0 :: a1 :: a2 :: a3 :: a4 :: a5 :: a6 :: a7 :: a8 :: a9 :: ρ) S).w (fun e S1 => ∃ o, stO e = some o ∧ K.nx (a0 :: a1 :: a2 :: a3 :: a4 :: a5 :: a6 :: a7 :: a8 :: some o :: ρ) S1) (fun C fs S1 => K.ex C fs (a0 :: a1 :: a2 :: a3 :: a4 :: a5 :: a6 :: a7 :: a8 :: a9 :: ρ) S1) := w_set (by simp)
@[simp] theorem w_sF10 {a0 a1 a2 a3 a4 a5 a6 a7 a8 a9 a10 : Option O} : (sSetF 10 fa (a0 :: a1 :: a2 :: a3 :: a4 :: a5 :: a6 :: a7 :: a8 :: a9 :: a10 :: ρ) S).w K = (fa (a0 :: a1 :: a2 :: a3 :: a4 :: a5 :: a6 :: a7 :: a8 :: a9 :: a10 :: ρ) S).w (fun e S1 => ∃ d, per e = some d ∧ K.nx (a0 :: a1 :: a2 :: a3 :: a4 :: a5 :: a6 :: a7 :: a8 :: a9 :: some (.v d) :: ρ) S1) (fun C fs S1 => K.ex C fs (a0 :: a1 :: a2 :: a3 :: a4 :: a5 :: a6 :: a7 :: a8 :: a9 :: a10 :: ρ) S1) := w_setF (by simp)
@[simp] theorem w_sS10 {a0 a1 a2 a3 a4 a5 a6 a7 a8 a9 a10 : Option O} : (sSet 10 fa (a0 :: a1 :: a2 :: a3 :: a4 :: a5 :: a6 :: a7 :: a8 :: a9 :: a10 :: ρ) S).w K = (fa (a0 :: a1 :: a2 :: a3 :: a4 :: a5 :: a6 :: a7 :: a8 :: a9 :: a10 :: ρ) S).w (fun e S1 => ∃ o, stO e = some o ∧ K.nx (a0 :: a1 :: a2 :: a3 :: a4 :: a5 :: a6 :: a7 :: a8 :: a9 :: some o :: ρ) S1) (fun C fs S1 => K.ex C fs (a0 :: a1 :: a2 :: a3 :: a4 :: a5 :: a6 :: a7 :: a8 :: a9 :: a10 :: ρ) S1) := w_set (by simp)
@[simp] theorem w_sF11 {a0 a1 a2 a3 a4 a5 a6 a7 a8 a9 a10 a11 : Option O} : (sSetF 11 fa (a0 :: a1 :: a2 :: a3 :: a4 :: a5 :: a6 :: a7 :: a8 :: a9 :: a10 :: a11 :: ρ) S).w K = (fa (a0 :: a1 :: a2 :: a3 :: a4 :: a5 :: a6 :: a7 :: a8 :: a9 :: a10 :: a11 :: ρ) S).w (fun e S1 => ∃ d, per e = some d ∧ K.nx (a0 :: a1 :: a2 :: a3 :: a4 :: a5 :: a6 :: a7 :: a8 :: a9 :: a10 :: some (.v d) :: ρ) S1) (fun C fs S1 => K.ex C fs (a0 :: a1 :: a2 :: a3 :: a4 :: a5 :: a6 :: a7 :: a8 :: a9 :: a10 :: a11 :: ρ) S1) := w_setF (by simp)
@[simp] theorem w_sS11 {a0 a1 a2 a3 a4 a5 a6 a7 a8 a9 a10 a11 : Option O} : (sSet 11 fa (a0 :: a1 :: a2 :: a3 :: a4 :: a5 :: a6 :: a7 :: a8 :: a9 :: a10 :: a11 :: ρ) S).w K = (fa (a0 :: a1 :: a2 :: a3 :: a4 :: a5 :: a6 :: a7 :: a8 :: a9 :: a10 :: a11 :: ρ) S).w (fun e S1 => ∃ o, stO e = some o ∧ K.nx (a0 :: a1 :: a2 :: a3 :: a4 :: a5 :: a6 :: a7 :: a8 :: a9 :: a10 :: some o :: ρ) S1) (fun C fs S1 => K.ex C fs (a0 :: a1 :: a2 :: a3 :: a4 :: a5 :: a6 :: a7 :: a8 :: a9 :: a10 :: a11 :: ρ) S1) := w_set (by simp)
@[simp] theorem w_sF12 {a0 a1 a2 a3 a4 a5 a6 a7 a8 a9 a10 a11 a12 : Option O} : (sSetF 12 fa (a0 :: a1 :: a2 :: a3 :: a4 :: a5 :: a6 :: a7 :: a8 :: a9 :: a10 :: a11 :: a12 :: ρ) S).w K = (fa (a0 :: a1 :: a2 :: a3 :: a4 :: a5 :: a6 :: a7 :: a8 :: a9 :: a10 :: a11 :: a12 :: ρ) S).w (fun e S1 => ∃ d, per e = some d ∧ K.nx (a0 :: a1 :: a2 :: a3 :: a4 :: a5 :: a6 :: a7 :: a8 :: a9 :: a10 :: a11 :: some (.v d) :: ρ) S1) (fun C fs S1 => K.ex C fs (a0 :: a1 :: a2 :: a3 :: a4 :: a5 :: a6 :: a7 :: a8 :: a9 :: a10 :: a11 :: a12 :: ρ) S1) := w_setF (by simp)
@[simp] theorem w_sS12 {a0 a1 a2 a3 a4 a5 a6 a7 a8 a9 a10 a11 a12 : Option O} : (sSet 12 fa (a0 :: a1 :: a2 :: a3 :: a4 :: a5 :: a6 :: a7 :: a8 :: a9 :: a10 :: a11 :: a12 :: ρ) S).w K = (fa (a0 :: a1 :: a2 :: a3 :: a4 :: a5 :: a6 :: a7 :: a8 :: a9 :: a10 :: a11 :: a12 :: ρ) S).w (fun e S1 => ∃ o, stO e = some o ∧ K.nx (a0 :: a1 :: a2 :: a3 :: a4 :: a5 :: a6 :: a7 :: a8 :: a9 :: a10 :: a11 :: some o :: ρ) S1) (fun C fs S1 => K.ex C fs (a0 :: a1 :: a2 :: a3 :: a4 :: a5 :: a6 :: a7 :: a8 :: a9 :: a10 :: a11 :: a12 :: ρ) S1) := w_set (by simp)
@[simp] theorem w_sF13 {a0 a1 a2 a3 a4 a5 a6 a7 a8 a9 a10 a11 a12 a13 : Option O} : (sSetF 13 fa (a0 :: a1 :: a2 :: a3 :: a4 :: a5 :: a6 :: a7 :: a8 :: a9 :: a10 :: a11 :: a12 :: a13 :: ρ) S).w K = (fa (a0 :: a1 :: a2 :: a3 :: a4 :: a5 :: a6 :: a7 :: a8 :: a9 :: a10 :: a11 :: a12 :: a13 :: ρ) S).w (fun e S1 => ∃ d, per e = some d ∧ K.nx (a0 :: a1 :: a2 :: a3 :: a4 :: a5 :: a6 :: a7 :: a8 :: a9 :: a10 :: a11 :: a12 :: some (.v d) :: ρ) S1) (fun C fs S1 => K.ex C fs (a0 :: a1 :: a2 :: a3 :: a4 :: a5 :: a6 :: a7 :: a8 :: a9 :: a10 :: a11 :: a12 :: a13 :: ρ) S1) := w_setF (by simp)
@[simp] theorem w_sS13 {a0 a1 a2 a3 a4 a5 a6 a7 a8 a9 a10 a11 a12 a13 : Option O} : (sSet 13 fa (a0 :: a1 :: a2 :: a3 :: a4 :: a5 :: a6 :: a7 :: a8 :: a9 :: a10 :: a11 :: a12 :: a13 :: ρ) S).w K = (fa (a0 :: a1 :: a2 :: a3 :: a4 :: a5 :: a6 :: a7 :: a8 :: a9 :: a10 :: a11 :: a12 :: a13 :: ρ) S).w (fun e S1 => ∃ o, stO e = some o ∧ K.nx (a0 :: a1 :: a2 :: a3 :: a4 :: a5 :: a6 :: a7 :: a8 :: a9 :: a10 :: a11 :: a12 :: some o :: ρ) S1) (fun C fs S1 => K.ex C fs (a0 :: a1 :: a2 :: a3 :: a4 :: a5 :: a6 :: a7 :: a8 :: a9 :: a10 :: a11 :: a12 :: a13 :: ρ) S1) := w_set (by simp)
@[simp] theorem w_sF14 {a0 a1 a2 a3 a4 a5 a6 a7 a8 a9 a10 a11 a12 a13 a14 : Option O} : (sSetF 14 fa (a0 :: a1 :: a2 :: a3 :: a4 :: a5 :: a6 :: a7 :: a8 :: a9 :: a10 :: a11 :: a12 :: a13 :: a14 :: ρ) S).w K = (fa (a0 :: a1 :: a2 :: a3 :: a4 :: a5 :: a6 :: a7 :: a8 :: a9 :: a10 :: a11 :: a12 :: a13 :: a14 :: ρ) S).w (fun e S1 => ∃ d, per e = some d ∧ K.nx (a0 :: a1 :: a2 :: a3 :: a4 :: a5 :: a6 :: a7 :: a8 :: a9 :: a10 :: a11 :: a12 :: a13 :: some (.v d) :: ρ) S1) (fun C fs S1 => K.ex C fs (a0 :: a1 :: a2 :: a3 :: a4 :: a5 :: a6 :: a7 :: a8 :: a9 :: a10 :: a11 :: a12 :: a13 :: a14 :: ρ) S1) := w_setF (by simp)
@[simp] theorem w_sS14 {a0 a1 a2 a3 a4 a5 a6 a7 a8 a9 a10 a11 a12 a13 a14 : Option O} : (sSet 14 fa (a0 :: a1 :: a2 :: a3 :: a4 :: a5 :: a6 :: a7 :: a8 :: a9 :: a10 :: a11 :: a12 :: a13 :: a14 :: ρ) S).w K = (fa (a0 :: a1 :: a2 :: a3 :: a4 :: a5 :: a6 :: a7 :: a8 :: a9 :: a10 :: a11 :: a12 :: a13 :: a14 :: ρ) S).w (fun e S1 => ∃ o, stO e = some o ∧ K.nx (a0 :: a1 :: a2 :: a3 :: a4 :: a5 :: a6 :: a7 :: a8 :: a9 :: a10 :: a11 :: a12 :: a13 :: some o :: ρ) S1) (fun C fs S1 => K.ex C fs (a0 :: a1 :: a2 :: a3 :: a4 :: a5 :: a6 :: a7 :: a8 :: a9 :: a10 :: a11 :: a12 :: a13 :: a14 :: ρ) S1) := w_set (by simp)
@[simp] theorem w_sF15 {a0 a1 a2 a3 a4 a5 a6 a7 a8 a9 a10 a11 a12 a13 a14 a15 : Option O} : (sSetF 15 fa (a0 :: a1 :: a2 :: a3 :: a4 :: a5 :: a6 :: a7 :: a8 :: a9 :: a10 :: a11 :: a12 :: a13 :: a14 :: a15 :: ρ) S).w K = (fa (a0 :: a1 :: a2 :: a3 :: a4 :: a5 :: a6 :: a7 :: a8 :: a9 :: a10 :: a11 :: a12 :: a13 :: a14 :: a15 :: ρ) S).w (fun e S1 => ∃ d, per e = some d ∧ K.nx (a0 :: a1 :: a2 :: a3 :: a4 :: a5 :: a6 :: a7 :: a8 :: a9 :: a10 :: a11 :: a12 :: a13 :: a14 :: some (.v d) :: ρ) S1) (fun C fs S1 => K.ex C fs (a0 :: a1 :: a2 :: a3 :: a4 :: a5 :: a6 :: a7 :: a8 :: a9 :: a10 :: a11 :: a12 :: a13 :: a14 :: a15 :: ρ) S1) := w_setF (by simp)
@[simp] theorem w_sS15 {a0 a1 a2 a3 a4 a5 a6 a7 a8 a9 a10 a11 a12 a13 a14 a15 : Option O} : (sSet 15 fa (a0 :: a1 :: a2 :: a3 :: a4 :: a5 :: a6 :: a7 :: a8 :: a9 :: a10 :: a11 :: a12 :: a13 :: a14 :: a15 :: ρ) S).w K = (fa (a0 :: a1 :: a2 :: a3 :: a4 :: a5 :: a6 :: a7 :: a8 :: a9 :: a10 :: a11 :: a12 :: a13 :: a14 :: a15 :: ρ) S).w (fun e S1 => ∃ o, stO e = some o ∧ K.nx (a0 :: a1 :: a2 :: a3 :: a4 :: a5 :: a6 :: a7 :: a8 :: a9 :: a10 :: a11 :: a12 :: a13 :: a14 :: some o :: ρ) S1) (fun C fs S1 => K.ex C fs (a0 :: a1 :: a2 :: a3 :: a4 :: a5 :: a6 :: a7 :: a8 :: a9 :: a10 :: a11 :: a12 :: a13 :: a14 :: a15 :: ρ) S1) := w_set (by simp)
end
/-! ### values -/
@[simp] theorem gNe_bl {a b : Bool} : gNe (.v (.bl a)) (.v (.bl b)) = some (.v (.bl (a != b))) := rfl
@[simp] theorem gEq_bl {a b : Bool} : gEq (.v (.bl a)) (.v (.bl b)) = some (.v (.bl (a == b))) := rfl
@[simp] theorem gNe_int {a b : Int} : gNe (.v (.int a)) (.v (.int b)) = some (.v (.bl (a != b))) := rfl
@[simp] theorem gEq_int {a b : Int} : gEq (.v (.int a)) (.v (.int b)) = some (.v (.bl (a == b))) := rfl
@[simp] theorem gAdd_int {a b : Int} : gAdd (.v (.int a)) (.v (.int b)) = some (.v (.int (a + b))) := rfl
@[simp] theorem gSub_int {a b : Int} : gSub (.v (.int a)) (.v (.int b)) = some (.v (.int (a - b))) := rfl
@[simp] theorem gNeg_int {a : Int} : gNeg (.v (.int a)) = some (.v (.int (-a))) := rfl
@[simp] theorem gLt_int {a b : Int} : gLt (.v (.int a)) (.v (.int b)) = some (.v (.bl (decide (a < b)))) := rfl
@[simp] theorem gLe_int {a b : Int} : gLe (.v (.int a)) (.v (.int b)) = some (.v (.bl (decide (a ≤ b)))) := rfl
@[simp] theorem gGt_int {a b : Int} : gGt (.v (.int a)) (.v (.int b)) = some (.v (.bl (decide (b < a)))) := rfl
@[simp] theorem gGe_int {a b : Int} : gGe (.v (.int a)) (.v (.int b)) = some (.v (.bl (decide (b ≤ a)))) := rfl
@[simp] theorem gIsN_non {e : E} : gIsN e (.v .non) = some (.v (.bl (isNone e))) := rfl
@[simp] theorem gNotN_non {e : E} : gNotN e (.v .non) = some (.v (.bl (!isNone e))) := rfl
@[simp] theorem bl_bl {b : Bool} : E.bl? (.v (.bl b)) = some b := rfl
@[simp] theorem int_int {b : Int} : E.int? (.v (.int b)) = some b := rfl
@[simp] theorem toO_v {d : D} : toO (.v d) = .v d := rfl
@[simp] theorem toO_n {d : List D} : toO (.n d) = .v (.lst d) := rfl
@[simp] theorem toO_b {d : List D} : toO (.b d) = .lt d := rfl
@[simp] theorem per_v {d : D} : per (.v d) = some d := rfl
@[simp] theorem ret_v {d : D} : retE (.v d) = some (.v d) := rfl
@[simp] theorem ret_n {d : List D} : retE (.n d) = some (.n d) := rfl
@[simp] theorem gLen_tup {ds : List D} : gLen [.v (.tup ds)] = some (.v (.int ds.length)) := rfl
@[simp] theorem gLen_lst {ds : List D} : gLen [.v (.lst ds)] = some (.v (.int ds.length)) := rfl
@[simp] theorem gLen_lt {ds : List D} : gLen [.lt ds] = some (.v (.int ds.length)) := rfl
@[simp] theorem ty_tup {ds : List D} : tyE (.v (.tup ds)) = some "tuple" := rfl
@[simp] theorem ty_lst {ds : List D} : tyE (.v (.lst ds)) = some "list" := rfl
@[simp] theorem ty_b {ds : List D} : tyE (.b ds) = some "list" := rfl
@[simp] theorem ty_n {ds : List D} : tyE (.n ds) = some "list" := rfl
@[simp] theorem ty_int {i : Int} : tyE (.v (.int i)) = some "int" := rfl
@[simp] theorem ty_bl {i : Bool} : tyE (.v (.bl i)) = some "bool" := rfl
@[simp] theorem ty_str {i : Str} : tyE (.v (.str i)) = some "str" := rfl
@[simp] theorem ty_dct {k : List (Key × D)} : tyE (.v (.dct k)) = some "dict" := rfl
@[simp] theorem ty_non : tyE (.v .non) = some "NoneType" := rfl
theorem ne_of_dec {a b : String} (h : (a == b) = false) : (a == b) = false := h
@[simp] theorem isB_NoneType_bool : isB "NoneType" "bool" = false := by decide
@[simp] theorem isB_NoneType_int : isB "NoneType" "int" = false := by decide
@[simp] theorem isB_NoneType_str : isB "NoneType" "str" = false := by decide
@[simp] theorem isB_NoneType_tuple : isB "NoneType" "tuple" = false := by decide
@[simp] theorem isB_NoneType_list : isB "NoneType" "list" = false := by decide
@[simp] theorem isB_NoneType_dict : isB "NoneType" "dict" = false := by decide
@[simp] theorem isB_bool_bool : isB "bool" "bool" = true := by decide
@[simp] theorem isB_bool_int : isB "bool" "int" = true := by decide
@[simp] theorem isB_bool_str : isB "bool" "str" = false := by decide
@[simp] theorem isB_bool_tuple : isB "bool" "tuple" = false := by decide
@[simp] theorem isB_bool_list : isB "bool" "list" = false := by decide
@[simp] theorem isB_bool_dict : isB "bool" "dict" = false := by decide
@[simp] theorem isB_int_bool : isB "int" "bool" = false := by decide
@[simp] theorem isB_int_int : isB "int" "int" = true := by decide
@[simp] theorem isB_int_str : isB "int" "str" = false := by decide
@[simp] theorem isB_int_tuple : isB "int" "tuple" = false := by decide
@[simp] theorem isB_int_list : isB "int" "list" = false := by decide
@[simp] theorem isB_int_dict : isB "int" "dict" = false := by decide
@[simp] theorem isB_str_bool : isB "str" "bool" = false := by decide
@[simp] theorem isB_str_int : isB "str" "int" = false := by decide
@[simp] theorem isB_str_str : isB "str" "str" = true := by decide
@[simp] theorem isB_str_tuple : isB "str" "tuple" = false := by decide
@[simp] theorem isB_str_list : isB "str" "list" = false := by decide
@[simp] theorem isB_str_dict : isB "str" "dict" = false := by decide
@[simp] theorem isB_tuple_bool : isB "tuple" "bool" = false := by decide
@[simp] theorem isB_tuple_int : isB "tuple" "int" = false := by decide
@[simp] theorem isB_tuple_str : isB "tuple" "str" = false := by decide
@[simp] theorem isB_tuple_tuple : isB "tuple" "tuple" = true := by decide
@[simp] theorem isB_tuple_list : isB "tuple" "list" = false := by decide
@[simp] theorem isB_tuple_dict : isB "tuple" "dict" = false := by decide
@[simp] theorem isB_list_bool : isB "list" "bool" = false := by decide
@[simp] theorem isB_list_int : isB "list" "int" = false := by decide
@[simp] theorem isB_list_str : isB "list" "str" = false := by decide
@[simp] theorem isB_list_tuple : isB "list" "tuple" = false := by decide
@[simp] theorem isB_list_list : isB "list" "list" = true := by decide
@[simp] theorem isB_list_dict : isB "list" "dict" = false := by decide
@[simp] theorem isB_dict_bool : isB "dict" "bool" = false := by decide
@[simp] theorem isB_dict_int : isB "dict" "int" = false := by decide
@[simp] theorem isB_dict_str : isB "dict" "str" = false := by decide
@[simp] theorem isB_dict_tuple : isB "dict" "tuple" = false := by decide
@[simp] theorem isB_dict_list : isB "dict" "list" = false := by decide
@[simp] theorem isB_dict_dict : isB "dict" "dict" = true := by decide
section
variable {P : E → Dr → Prop} {X : PX} {S : Dr} {ρ : Env}
@[simp] theorem w_lc {fi : Env → Dr → Out (List D)} {tgt : D → Env → Option Env} {ft : Env → Dr → Out Bool} {fe : Env → Dr → Out E} {vs : List Nat} : (fLc fi tgt ft fe vs ρ S).w P X = (fi ρ S).w (fun ds S1 => ∃ xs S2, lcD tgt ft fe (wipeE ρ vs) ds S1 = .ok xs S2 ∧ xs.length ≤ sizeLine ∧ P (.n xs) S2) X := by
  unfold fLc
  rw [w_bind]
  congr 1
  funext ds S1
  cases lcD tgt ft fe (wipeE ρ vs) ds S1 with
  | ok xs S2 =>
    show (if xs.length ≤ sizeLine then Out.ok (E.n xs) S2 else .stk).w P X = _
    split
    · rename_i h
      exact propext ⟨fun k => ⟨xs, S2, rfl, h, k⟩, fun ⟨_, _, e, _, k⟩ => by cases e; exact k⟩
    · rename_i h
      exact propext ⟨fun k => k.elim, fun ⟨_, _, e, k, _⟩ => by cases e; exact (h k).elim⟩
  | exc C fs S2 => exact propext ⟨fun k => k.elim, fun ⟨_, _, e, _⟩ => by cases e⟩
  | stk => exact propext ⟨fun k => k.elim, fun ⟨_, _, e, _⟩ => by cases e⟩
end
@[simp] theorem gAll_lst {bs : List Bool} : gAll [.v (.lst (bs.map D.bl))] = some (.v (.bl (bs.all id))) := by
  show (match blsD (bs.map D.bl) with | some cs => some (E.v (.bl (cs.all id))) | none => none) = _
  rw [bls_map]
@[simp] theorem gAny_lst {bs : List Bool} : gAny [.v (.lst (bs.map D.bl))] = some (.v (.bl (bs.any id))) := by
  show (match blsD (bs.map D.bl) with | some cs => some (E.v (.bl (cs.any id))) | none => none) = _
  rw [bls_map]
@[simp] theorem gZip_tt {c : Bool} {xs ys : List D} : gZip c [.v (.tup xs), .v (.tup ys)] = some (zipD xs ys) := rfl
@[simp] theorem gZip_ll {c : Bool} {xs ys : List D} : gZip c [.v (.lst xs), .v (.lst ys)] = some (zipD xs ys) := rfl
@[simp] theorem gEnum_t {c : Bool} {xs : List D} : gEnum c [.v (.tup xs)] = some (enumD xs) := rfl
@[simp] theorem gEnum_l {c : Bool} {xs : List D} : gEnum c [.v (.lst xs)] = some (enumD xs) := rfl
/-- enumerate, from i on -/
def enF : Nat → List D → List D
  | _, [] => []
  | i, d :: ds => .tup [.int (i : Int), d] :: enF (i + 1) ds
theorem enF_zip : ∀ (ds : List D) (i : Nat), enF i ds = (List.range' i ds.length).zipWith (fun (i : Nat) d => D.tup [.int (i : Int), d]) ds
  | [], _ => rfl
  | d :: ds, i => by
    rw [enF, enF_zip ds (i + 1), List.length_cons, List.range'_succ]
    rfl
@[simp] theorem enumD_eq {ds : List D} : enumD ds = enF 0 ds := by
  unfold enumD
  rw [enF_zip, List.range_eq_range']
theorem cut_up {α : Type} {xs : List α} {k : Nat} : cutD xs none (some (k : Int)) = xs.take k := by
  unfold cutD
  rw [HT.sIx_none, HT.sIx_nat, List.drop_zero, Nat.sub_zero]
  rcases Nat.le_total k xs.length with h | h
  · rw [Nat.min_eq_left h]
  · rw [Nat.min_eq_right h, List.take_of_length_le (Nat.le_refl _), List.take_of_length_le h]
theorem gSl_t60 {ds : List D} : gSl none (some 60) (.v (.tup ds)) = some (.v (.tup (ds.take 60))) := by
  rw [← cut_up]
  rfl
/-- a value with a built-in class -/
def Ty1 (d : D) : Prop := ∃ t, tyE (.v d) = some t
theorem rng_succ {lo : Int} {n : Nat} : rngD lo (n + 1) = .int lo :: rngD (lo + 1) n := by
  unfold rngD
  rw [List.range_succ_eq_map, List.map_cons, List.map_map]
  congr 1
  · simp
  · apply List.map_congr_left
    intro a _
    show D.int _ = D.int _
    congr 1
    simp
    omega
theorem rng_zero {lo : Int} : rngD lo 0 = [] := rfl
theorem gRng1_int {i : Int} (h : -(2 ^ 62) ≤ i ∧ i < 2 ^ 62) : gRng1 [.v (.int i)] = some (rngD 0 i.toNat) := if_pos h
theorem gRng1_nat {n : Nat} (h : n < 2 ^ 62) : gRng1 [.v (.int (n : Int))] = some (rngD 0 n) := by
  rw [gRng1_int ⟨by omega, by omega⟩]
  simp
@[simp] theorem gMin2_int {i j : Int} : gMin2 [.v (.int i), .v (.int j)] = some (.v (.int (if j < i then j else i))) := rfl
@[simp] theorem gMax2_int {i j : Int} : gMax2 [.v (.int i), .v (.int j)] = some (.v (.int (if j > i then j else i))) := rfl
theorem gIx_t {ds : List D} {i : Nat} {d : D} (h : ds[i]? = some d) : gIx (.v (.tup ds)) (.v (.int (i : Int))) = some (.v d) := by
  show (atI ds (i : Int)).map E.v = _
  rw [atI_nat h]
  rfl
theorem gIx_l {ds : List D} {i : Nat} {d : D} (h : ds[i]? = some d) : gIx (.v (.lst ds)) (.v (.int (i : Int))) = some (.v d) := by
  show (atI ds (i : Int)).map E.v = _
  rw [atI_nat h]
  rfl
theorem gIx_b {ds : List D} {i : Nat} {d : D} (h : ds[i]? = some d) : gIx (.b ds) (.v (.int (i : Int))) = some (.v d) := by
  show (atI ds (i : Int)).map E.v = _
  rw [atI_nat h]
  rfl
/-! ### try -/
section
variable {S : Dr} {ρ : Env} {K : Kt} {gb gs : Env → Dr → SO} {P : E → Dr → Prop} {X : PX}
@[simp] theorem w_unX {i : Nat} {o : SO} : (unX i o).w K = o.w ⟨fun ρ S => noX (ρ.set i none) = true ∧ K.nx (ρ.set i none) S, K.rt, fun ρ S => noX (ρ.set i none) = true ∧ K.bk (ρ.set i none) S, fun ρ S => noX (ρ.set i none) = true ∧ K.ct (ρ.set i none) S, fun _ _ _ _ => False⟩ := by
  have aux : ∀ {c : Prop} [Decidable c] {o : SO} {p : Prop}, (o.w K = p) → ((if c then o else .stk : SO).w K) = (c ∧ p) := fun {c} _ {o p} h => by
    by_cases hc : c
    · rw [if_pos hc, h]; exact propext ⟨fun k => ⟨hc, k⟩, fun k => k.2⟩
    · rw [if_neg hc]; exact propext ⟨fun k => k.elim, fun k => hc k.1⟩
  cases o with
  | nx ρ S => exact aux rfl
  | bk ρ S => exact aux rfl
  | ct ρ S => exact aux rfl
  | rt e S => rfl
  | exc C fs ρ S => rfl
  | stk => rfl
@[simp] theorem w_try {i : Nat} {mt : Addr → Option Bool} : (sTry i mt gb gs ρ S).w K = (gb ρ S).w { K with ex := fun C fs ρ1 S1 => ∃ b, mt C = some b ∧ if b = true then (noX ρ1 = true ∧ i < ρ1.length) ∧ (unX i (gs (ρ1.set i (some (.x C fs))) S1)).w K else K.ex C fs ρ1 S1 } := by
  unfold sTry
  cases gb ρ S with
  | exc C fs ρ1 S1 =>
    show (match mt C with | some true => (if noX ρ1 = true ∧ i < ρ1.length then unX i (gs (ρ1.set i (some (.x C fs))) S1) else .stk) | some false => .exc C fs ρ1 S1 | none => .stk : SO).w K = ∃ b, mt C = some b ∧ if b = true then (noX ρ1 = true ∧ i < ρ1.length) ∧ (unX i (gs (ρ1.set i (some (.x C fs))) S1)).w K else K.ex C fs ρ1 S1
    cases mt C with
    | none => exact propext ⟨fun h => h.elim, fun ⟨_, h, _⟩ => by cases h⟩
    | some b =>
      cases b with
      | false => exact propext ⟨fun h => ⟨false, rfl, h⟩, fun ⟨_, h, k⟩ => by cases h; exact k⟩
      | true =>
        by_cases hc : noX ρ1 = true ∧ i < ρ1.length
        · show (if noX ρ1 = true ∧ i < ρ1.length then unX i (gs (ρ1.set i (some (.x C fs))) S1) else .stk : SO).w K = _
          rw [if_pos hc]
          exact propext ⟨fun h => ⟨true, rfl, hc, h⟩, fun ⟨_, h, k⟩ => by cases h; exact k.2⟩
        · show (if noX ρ1 = true ∧ i < ρ1.length then unX i (gs (ρ1.set i (some (.x C fs))) S1) else .stk : SO).w K = _
          rw [if_neg hc]
          exact propext ⟨fun h => h.elim, fun ⟨_, h, k⟩ => by cases h; exact hc k.1⟩
  | _ => rfl
theorem w_xf {i : Nat} {ok : Addr → Bool} {f : Str} {C : Addr} {fs : List (Str × D)} (h : ρ[i]? = some (some (.x C fs))) : (fXf i ok f ρ S).w P X = (ok C = true ∧ ∃ d, fs.lookup f = some d ∧ P (.v d) S) := by
  unfold fXf
  rw [h]
  dsimp only
  cases ok C with
  | false => exact propext ⟨fun k => k.elim, fun k => by cases k.1⟩
  | true =>
    cases hl : fs.lookup f with
    | none => exact propext ⟨fun k => k.elim, fun ⟨_, _, k, _⟩ => by cases k⟩
    | some d => exact propext ⟨fun k => ⟨rfl, d, rfl, k⟩, fun ⟨_, _, k, q⟩ => by cases k; exact q⟩
@[simp] theorem w_xf0 {ok : Addr → Bool} {f : Str} {C : Addr} {fs : List (Str × D)} : (fXf 0 ok f (some (.x C fs) :: ρ) S).w P X = (ok C = true ∧ ∃ d, fs.lookup f = some d ∧ P (.v d) S) := w_xf rfl
@[simp] theorem w_xf1 {a0 : Option O} {ok : Addr → Bool} {f : Str} {C : Addr} {fs : List (Str × D)} : (fXf 1 ok f (a0 :: some (.x C fs) :: ρ) S).w P X = (ok C = true ∧ ∃ d, fs.lookup f = some d ∧ P (.v d) S) := w_xf rfl
@[simp] theorem w_xf2 {a0 a1 : Option O} {ok : Addr → Bool} {f : Str} {C : Addr} {fs : List (Str × D)} : (fXf 2 ok f (a0 :: a1 :: some (.x C fs) :: ρ) S).w P X = (ok C = true ∧ ∃ d, fs.lookup f = some d ∧ P (.v d) S) := w_xf rfl
@[simp] theorem w_xf3 {a0 a1 a2 : Option O} {ok : Addr → Bool} {f : Str} {C : Addr} {fs : List (Str × D)} : (fXf 3 ok f (a0 :: a1 :: a2 :: some (.x C fs) :: ρ) S).w P X = (ok C = true ∧ ∃ d, fs.lookup f = some d ∧ P (.v d) S) := w_xf rfl
@[simp] theorem w_xf4 {a0 a1 a2 a3 : Option O} {ok : Addr → Bool} {f : Str} {C : Addr} {fs : List (Str × D)} : (fXf 4 ok f (a0 :: a1 :: a2 :: a3 :: some (.x C fs) :: ρ) S).w P X = (ok C = true ∧ ∃ d, fs.lookup f = some d ∧ P (.v d) S) := w_xf rfl
@[simp] theorem w_xf5 {a0 a1 a2 a3 a4 : Option O} {ok : Addr → Bool} {f : Str} {C : Addr} {fs : List (Str × D)} : (fXf 5 ok f (a0 :: a1 :: a2 :: a3 :: a4 :: some (.x C fs) :: ρ) S).w P X = (ok C = true ∧ ∃ d, fs.lookup f = some d ∧ P (.v d) S) := w_xf rfl
@[simp] theorem w_xf6 {a0 a1 a2 a3 a4 a5 : Option O} {ok : Addr → Bool} {f : Str} {C : Addr} {fs : List (Str × D)} : (fXf 6 ok f (a0 :: a1 :: a2 :: a3 :: a4 :: a5 :: some (.x C fs) :: ρ) S).w P X = (ok C = true ∧ ∃ d, fs.lookup f = some d ∧ P (.v d) S) := w_xf rfl
@[simp] theorem w_xf7 {a0 a1 a2 a3 a4 a5 a6 : Option O} {ok : Addr → Bool} {f : Str} {C : Addr} {fs : List (Str × D)} : (fXf 7 ok f (a0 :: a1 :: a2 :: a3 :: a4 :: a5 :: a6 :: some (.x C fs) :: ρ) S).w P X = (ok C = true ∧ ∃ d, fs.lookup f = some d ∧ P (.v d) S) := w_xf rfl
@[simp] theorem w_xf8 {a0 a1 a2 a3 a4 a5 a6 a7 : Option O} {ok : Addr → Bool} {f : Str} {C : Addr} {fs : List (Str × D)} : (fXf 8 ok f (a0 :: a1 :: a2 :: a3 :: a4 :: a5 :: a6 :: a7 :: some (.x C fs) :: ρ) S).w P X = (ok C = true ∧ ∃ d, fs.lookup f = some d ∧ P (.v d) S) := w_xf rfl
@[simp] theorem w_xf9 {a0 a1 a2 a3 a4 a5 a6 a7 a8 : Option O} {ok : Addr → Bool} {f : Str} {C : Addr} {fs : List (Str × D)} : (fXf 9 ok f (a0 :: a1 :: a2 :: a3 :: a4 :: a5 :: a6 :: a7 :: a8 :: some (.x C fs) :: ρ) S).w P X = (ok C = true ∧ ∃ d, fs.lookup f = some d ∧ P (.v d) S) := w_xf rfl
@[simp] theorem w_xf10 {a0 a1 a2 a3 a4 a5 a6 a7 a8 a9 : Option O} {ok : Addr → Bool} {f : Str} {C : Addr} {fs : List (Str × D)} : (fXf 10 ok f (a0 :: a1 :: a2 :: a3 :: a4 :: a5 :: a6 :: a7 :: a8 :: a9 :: some (.x C fs) :: ρ) S).w P X = (ok C = true ∧ ∃ d, fs.lookup f = some d ∧ P (.v d) S) := w_xf rfl
@[simp] theorem w_xf11 {a0 a1 a2 a3 a4 a5 a6 a7 a8 a9 a10 : Option O} {ok : Addr → Bool} {f : Str} {C : Addr} {fs : List (Str × D)} : (fXf 11 ok f (a0 :: a1 :: a2 :: a3 :: a4 :: a5 :: a6 :: a7 :: a8 :: a9 :: a10 :: some (.x C fs) :: ρ) S).w P X = (ok C = true ∧ ∃ d, fs.lookup f = some d ∧ P (.v d) S) := w_xf rfl
@[simp] theorem w_xf12 {a0 a1 a2 a3 a4 a5 a6 a7 a8 a9 a10 a11 : Option O} {ok : Addr → Bool} {f : Str} {C : Addr} {fs : List (Str × D)} : (fXf 12 ok f (a0 :: a1 :: a2 :: a3 :: a4 :: a5 :: a6 :: a7 :: a8 :: a9 :: a10 :: a11 :: some (.x C fs) :: ρ) S).w P X = (ok C = true ∧ ∃ d, fs.lookup f = some d ∧ P (.v d) S) := w_xf rfl
@[simp] theorem w_xf13 {a0 a1 a2 a3 a4 a5 a6 a7 a8 a9 a10 a11 a12 : Option O} {ok : Addr → Bool} {f : Str} {C : Addr} {fs : List (Str × D)} : (fXf 13 ok f (a0 :: a1 :: a2 :: a3 :: a4 :: a5 :: a6 :: a7 :: a8 :: a9 :: a10 :: a11 :: a12 :: some (.x C fs) :: ρ) S).w P X = (ok C = true ∧ ∃ d, fs.lookup f = some d ∧ P (.v d) S) := w_xf rfl
@[simp] theorem w_xf14 {a0 a1 a2 a3 a4 a5 a6 a7 a8 a9 a10 a11 a12 a13 : Option O} {ok : Addr → Bool} {f : Str} {C : Addr} {fs : List (Str × D)} : (fXf 14 ok f (a0 :: a1 :: a2 :: a3 :: a4 :: a5 :: a6 :: a7 :: a8 :: a9 :: a10 :: a11 :: a12 :: a13 :: some (.x C fs) :: ρ) S).w P X = (ok C = true ∧ ∃ d, fs.lookup f = some d ∧ P (.v d) S) := w_xf rfl
@[simp] theorem w_xf15 {a0 a1 a2 a3 a4 a5 a6 a7 a8 a9 a10 a11 a12 a13 a14 : Option O} {ok : Addr → Bool} {f : Str} {C : Addr} {fs : List (Str × D)} : (fXf 15 ok f (a0 :: a1 :: a2 :: a3 :: a4 :: a5 :: a6 :: a7 :: a8 :: a9 :: a10 :: a11 :: a12 :: a13 :: a14 :: some (.x C fs) :: ρ) S).w P X = (ok C = true ∧ ∃ d, fs.lookup f = some d ∧ P (.v d) S) := w_xf rfl
end
end Dn

set_option Elab.async false
set_option linter.all false
set_option maxRecDepth 100000
set_option maxHeartbeats 4000000
namespace Dn
open PySem PySem.Spec PyProof.Rows L2

/-! ### x[::-1] of lists and tuples -/
section
open HT
variable {prog : Program} {w : World} {A : Around} {E : Value → Shared → Prop} {s : Shared}
theorem sliceApplied_rev {sl : Addr} {t : Tok} {n : Nat} {Q : Int × Int × Nat → Shared → Prop} (hs : s.heap.IsSliceOf sl .none .none (.int (-1) t))
    (h : Q ((n : Int) - 1, -1, n) s) : wpAny (model prog w) A (Builtin.Slice.sliceApplied (.ref sl) (pure (n : Int))) Q E s := by
  obtain ⟨os, hos, hcs, hds⟩ := id hs
  unfold Builtin.Slice.sliceApplied Builtin.Slice.sliceFields
  refine wpAny_bind (wpAny_bind (wpAny_field hos hds (x := .none) rfl (wpAny_bind (wpAny_field hos hds (x := .none) rfl (wpAny_bind (wpAny_field hos hds (x := .int (-1) t) rfl (wpAny_pure ?_)))))))
  refine wpAny_bind (slicePart_ (.int (-1) t) ?_)
  show wpAny _ _ (if ((-1 : Int) == 0) = true then _ else _) _ _ s
  rw [if_neg (by decide)]
  refine wpAny_bind (slicePart_ .none (wpAny_bind (slicePart_ .none (wpAny_bind (wpAny_pure ?_)))))
  show wpAny _ _ (match Builtin.Slice.sliceAdjust none none (-1) (n : Int) with | (lo, hi) => pure (lo, (-1 : Int), Builtin.Slice.slicePlaces lo hi (-1))) _ _ s
  have e : Builtin.Slice.sliceAdjust none none (-1) (n : Int) = ((n : Int) - 1, -1) := by
    unfold Builtin.Slice.sliceAdjust
    simp
  rw [e]
  have e2 : Builtin.Slice.slicePlaces ((n : Int) - 1) (-1) (-1) = n := by
    unfold Builtin.Slice.slicePlaces
    have h1 : ¬ (-1 : Int) > 0 := by omega
    simp only [h1, if_false]
    split <;> simp <;> omega
  show wpAny _ _ (pure ((n : Int) - 1, (-1 : Int), Builtin.Slice.slicePlaces ((n : Int) - 1) (-1) (-1))) _ _ s
  rw [e2]
  exact wpAny_pure h
theorem pick_rev (xs : Array Value) : ((List.range xs.size).filterMap fun (m : Nat) => xs[(((xs.size : Nat) : Int) - 1 + (m : Int) * -1).toNat]?).toArray = xs.toList.reverse.toArray := by
  congr 1
  have e : ∀ l : List Nat, (∀ m ∈ l, m < xs.size) → (l.filterMap fun (m : Nat) => xs[(((xs.size : Nat) : Int) - 1 + (m : Int) * -1).toNat]?) = l.map fun m => xs.toList.reverse.getD m .none := by
    intro l hl
    induction l with
    | nil => rfl
    | cons m l ih =>
      have hm := hl m (by simp)
      have e1 : ((((xs.size : Nat) : Int) - 1 + (m : Int) * -1)).toNat = xs.size - 1 - m := by omega
      have h2 : xs[xs.size - 1 - m]? = some (xs.toList.reverse.getD m .none) := by
        rw [List.getD_eq_getElem?_getD, List.getElem?_reverse (by simpa using hm)]
        simp
        rw [Array.getElem?_eq_getElem (by omega)]
        rfl
      rw [List.filterMap_cons, e1, h2, List.map_cons, ih fun z hz => hl z (by simp [hz])]
  rw [e _ fun m hm => by simpa using hm]
  apply List.ext_getElem
  · simp
  · intro i h1 h2
    simp
    simp at h1
    rw [List.getElem?_eq_getElem (by simpa using h1)]
    simp
theorem getItem_tuple_rev {t sl : Addr} {items : Array Value} {u : Tok} {Q : Value → Shared → Prop} (ht : IsTup s.heap t items) (hs : s.heap.IsSliceOf sl .none .none (.int (-1) u))
    (h : Q (.ref s.heap.objs.size) { s with heap := s.heap.push { cls := .type "tuple", data := .seq items.toList.reverse.toArray } })
    (hsz : items.size ≤ sizeLine) : wpAny (model prog w) A (getItem (.ref t) (.ref sl)) Q E s := by
  have htake : sizeOk (.seq items.toList.reverse.toArray) := by
    show items.toList.reverse.toArray.size ≤ sizeLine
    rw [List.size_toArray, List.length_reverse, Array.length_toList]
    exact hsz
  obtain ⟨os, hos, hcs, hds⟩ := id hs
  have hTs : s.TypeIs (.ref sl) "slice" := ⟨os, hos, hcs⟩
  unfold getItem
  try with_reducible refine wpAny_holding ?_
  first | refine wpAny_bind (wpAny_pure ?_) | skip
  refine wpAny_bind (wpAny_sequenceKey ht.typeIs (by decide) ?_)
  refine wpAny_bind (wpAny_callSpecial?_slot (name := Str.ofString "__getitem__") ht.typeIs PyProof.Rows.slot_tuple_getitem
    (wpAny_call_entry PyProof.Rows.slot_tuple_getitem ht.typeIs entry_tuple_getitem ?_ (args_tuple_getitem _ _)))
  show wpAny _ _ (Builtin.Tuple.tupleItemsOf (.ref t) >>= _) _ _ s
  refine wpAny_bind (tupleItemsOf_ ht ?_)
  refine wpAny_bind (wpAny_typeOf hTs ?_)
  rw [if_pos (by decide)]
  refine wpAny_bind (sliceApplied_rev hs ?_)
  have hno : ¬ (((((items.size : Nat) : Int) - 1) == 0 && (-1 : Int) == 1 && items.size == items.size) = true) := by
    intro q
    rw [Bool.and_eq_true, Bool.and_eq_true] at q
    exact absurd q.1.2 (by decide)
  show wpAny _ _ (if ((((items.size : Nat) : Int) - 1) == 0 && (-1 : Int) == 1 && items.size == items.size) = true then _ else _) _ _ s
  rw [if_neg hno, pick_rev]
  first
    | exact wpAny_bind (m := Builtin.Tuple.tupleExact _) (wpAny_newObj_type (wpAny_pure ⟨_, rfl, wpAny_pure h⟩) htake)
    | exact wpAny_bind (m := Builtin.Tuple.tupleExact _) (wpAny_newObj_type (wpAny_bind (wpAny_pure (wpAny_pure ⟨_, rfl, wpAny_pure h⟩))) htake)
    | exact wpAny_bind (wpAny_bind (m := Builtin.Tuple.tupleExact _) (wpAny_newObj_type (wpAny_pure (wpAny_pure ⟨_, rfl, wpAny_pure h⟩)) htake))
    | exact wpAny_bind (wpAny_bind (m := Builtin.Tuple.tupleExact _) (wpAny_newObj_type (wpAny_pure ⟨_, rfl, wpAny_pure h⟩) htake))
end
def tRevA (K : PySem.W.Frag) (te : TE) : TE := fun σ H Q => te σ H fun x H1 => (∃ a xs, x = .ref a ∧ SqL K H1 a xs ∧ ∀ p, H1 p = none → Q (.ref p) (upd H1 p (.lst xs.reverse))) ∨
  (∃ a xs, x = .ref a ∧ SqT K H1 a xs ∧ ∀ p, H1 p = none → Q (.ref p) (upd H1 p (.tup xs.reverse)))
theorem pe_revA {X : Cx} {e : Expr} {te : TE} {k : Nat} {p1 p2 p3 pos : Pos} (he : PE X e te) : PE X (.Subscript e (.Slice none none (some (.UnaryOp .USub (.Constant (.int 1) k p1) p2)) p3) pos) (tRevA X.K te) := by
  refine ⟨fun pins s σ H Q I h => ?_⟩
  refine Subscript_ (thn (he.run pins s σ H _ I h) fun v s1 ⟨x, H1, I1, r1, q1⟩ => ?_)
  have hst : PO X (some (.UnaryOp .USub (.Constant (.int 1) k p1) p2)) (tPart (tUn (rU fun i => .int (-i)) (tC (.int 1)))) := po_some (pe_un un_neg pe_int)
  refine wpAny_Slice (thn (po_none.run pins s1 σ H1 (fun o H2 => o = none ∧ H2 = H1) I1 ⟨rfl, rfl⟩) fun vl s2 ⟨l, H2, I2, pl, el, e2⟩ => ?_)
  subst el e2
  refine thn (po_none.run pins s2 σ H2 (fun o H3 => o = none ∧ H3 = H2) I2 ⟨rfl, rfl⟩) fun vu s3 ⟨u, H3, I3, pu, eu, e3⟩ => ?_
  subst eu e3
  refine thn (hst.run pins s3 σ H3 (fun o H4 => o = some (-1) ∧ H4 = H3) I3 ⟨1, rfl, -1, rfl, rfl, rfl⟩) fun vs s4 ⟨o, H4, I4, ps, eo, e4⟩ => ?_
  subst eo e4
  have I5 : Inv X pins σ H4 { s4 with heap := s4.heap.push { cls := .type "slice", data := .fields #[vl, vu, vs] } } := I4.kept (t' := s4.toks) fun b ob q => Heap.get?_push_of_some _ q
  rcases q1 with ⟨a, xs, ex, hx, q⟩ | ⟨a, xs, ex, hx, q⟩
  · subst ex
    cases r1
    obtain ⟨its, r, ht, hz⟩ := I5.list hx
    have hlen := r.length
    show wpAny (model X.prog X.w) X.A (subscriptTail e (.Slice none none (some (.UnaryOp .USub (.Constant (.int 1) k p1) p2)) p3) (.ref a) (.ref s4.heap.objs.size)) (EP X pins σ Q) X.xe { s4 with heap := s4.heap.push { cls := .type "slice", data := .fields #[vl, vu, vs] } }
    refine tail_any (ops := [.ref a, .ref s4.heap.objs.size]) ht.isList.typeIs (PySem.slot_list_getitem.lookup) ?_ (by with_unfolding_all rfl)
    refine wpAny_getItem_list_slice ht.isList (Heap.IsSliceOf.new _ vl vu vs) pl pu ps (by decide) ?_ (by rw [List.size_toArray]; omega)
    rw [PySem.W.krv_pick]
    refine ⟨.ref _, _, I5.laid (t' := s4.toks) (o := .lst xs.reverse) (fun b ob q => Heap.get?_push_of_some _ q) (Nat.le_refl _) ?_, rfl, q _ (I5.hok.fresh (Nat.le_refl _))⟩
    exact ⟨by rw [List.length_reverse]; exact hz, _, 0, r.reverse, Heap.get?_push_size _ rfl⟩
  · subst ex
    cases r1
    obtain ⟨its, r, ht, hz⟩ := I5.tuple hx
    have hlen := r.length
    cases pl
    cases pu
    cases ps with
    | int i t =>
    show wpAny (model X.prog X.w) X.A (subscriptTail e (.Slice none none (some (.UnaryOp .USub (.Constant (.int 1) k p1) p2)) p3) (.ref a) (.ref s4.heap.objs.size)) (EP X pins σ Q) X.xe { s4 with heap := s4.heap.push { cls := .type "slice", data := .fields #[.none, .none, .int (-1) t] } }
    refine tail_any (ops := [.ref a, .ref s4.heap.objs.size]) ht.typeIs (PyProof.Rows.slot_tuple_getitem.lookup) ?_ (by with_unfolding_all rfl)
    refine getItem_tuple_rev ht (Heap.IsSliceOf.new _ .none .none (.int (-1) t)) ?_ (by rw [List.size_toArray]; omega)
    refine ⟨.ref _, _, I5.laid (t' := s4.toks) (o := .tup xs.reverse) (fun b ob q => Heap.get?_push_of_some _ q) (Nat.le_refl _) ?_, rfl, q _ (I5.hok.fresh (Nat.le_refl _))⟩
    exact ⟨by rw [List.length_reverse]; exact hz, _, r.reverse, IsTup.new _ _⟩
section
variable {X : Cx} {W : WX} {B : Bs} {bs : Hp × Hp} {Hs Hf H : Hp} {ρ : Env} {S : Dr} {σ : L2.St} {a b e : Expr} {es : List Expr} {fa fb : Env → Dr → Out E} {fr : Env → Dr → Out (List O)} {pos p2 : Pos}
theorem RepL.rvs {K : PySem.W.Frag} {dr : Addr} : ∀ {vs : List V} {ds : List D}, RepL K dr Hf vs ds → RepL K dr Hf vs.reverse ds.reverse
  | _, _, .nil => .nil
  | _, _, .cons h l => by
    rw [List.reverse_cons, List.reverse_cons]
    exact l.rvs.append (.one h)
def gRev : E → Option E
  | .v (.tup ds) => some (.v (.tup ds.reverse))
  | x => match x.ls with
    | some ds => some (.n ds.reverse)
    | none => none
theorem je_rev {k : Nat} {p1 p2 p3 pos : Pos} (hK : X.K = B.K) (ha : JE X W B a fa) : JE X W B (.Subscript a (.Slice none none (some (.UnaryOp .USub (.Constant (.int 1) k p1) p2)) p3) pos) (fUn gRev fa) :=
  JE.mk (pe_revA pe_W) fun bs σ H ρ S Hf Q r h => by
    show tW X a σ H fun x H1 => _
    rw [hK]
    refine ha.bind r h back_e fun e1 S1 v H1 Hf1 r1 n1 z1 h1 => ?_
    cases q : gRev e1 with
    | none => rw [q] at h1; exact h1.elim
    | some e =>
      rw [q] at h1
      have k : VP B S1 Hf1 H1 e Q := fun v Hf' H' n d z => h1 v Hf' H' n d z
      unfold gRev at q
      split at q
      · rename_i ds
        cases q
        obtain ⟨a, vs, rfl, t, lr⟩ := rep_tup (Ex.refl Hf1) z1.v_ok
        exact .inr ⟨a, vs, rfl, ex_t r1.ex t, fun p hp => VP.newT r1 k lr.rvs hp⟩
      · split at q
        · rename_i ds q1
          cases q
          obtain ⟨a, vs, rfl, t, lr⟩ := z1.ls r1 q1
          exact .inl ⟨a, vs, rfl, SqL.of t, fun p hp => VP.newL r1 k lr.rvs hp⟩
        · cases q

/-! ### is True, is False -/
def gIsB : E → E → Option E
  | .v (.bl a), .v (.bl b) => some (.v (.bl (decide (a = b))))
  | _, _ => none
theorem oj_isB : OpJ B rIsB gIsB := fun bs σ H ρ S Hf Hs1 Hs2 x y e1 e2 e Q r h1 h2 q k => by
  unfold gIsB at q
  split at q
  · cases q
    cases h1.v_ok
    cases h2.v_ok
    exact ⟨_, _, rfl, rfl, VP.now r k (Rep.bl _)⟩
  · cases q

/-! ### < of ints and of tuples of ints -/
def gLtT : E → E → Option E
  | .v (.tup a), .v (.tup b) => match intsD a, intsD b with
    | some ns, some ms => some (.v (.bl (HT.lexLt ns ms)))
    | _, _ => none
  | _, _ => none
theorem oj_ltT : OpJ B (rLtT B.K) gLtT := fun bs σ H ρ S Hf Hs1 Hs2 x y e1 e2 e Q r h1 h2 q k => by
  unfold gLtT at q
  split at q
  · split at q
    · rename_i ns ms q1 q2
      cases q
      obtain ⟨a, vs, rfl, t1, l1⟩ := rep_tup (Ex.refl Hf) h1.v_ok
      obtain ⟨b, ws, rfl, t2, l2⟩ := rep_tup (Ex.refl Hf) h2.v_ok
      rw [ints_ok l1 q1] at t1
      rw [ints_ok l2 q2] at t2
      exact ⟨a, b, ns, ms, rfl, rfl, ex_t r.ex t1, ex_t r.ex t2, VP.now r k (Rep.bl _)⟩
    · cases q
  · cases q
def gLtA : E → E → Option E := fun x y => match gLt x y with
  | some e => some e
  | none => gLtT x y
theorem oj_ltA : OpJ B (fun x y H Q => (rI0 fun i j => V.bl (decide (i < j))) x y H Q ∨ rLtT B.K x y H Q) gLtA := OpJ.or oj_lt oj_ltT
theorem op_ltA (hK : X.K = B.K) (hu : X.A.units + 65 < cLine) : OpR X (compareOp .Lt) (fun x y H Q => (rI0 fun i j => V.bl (decide (i < j))) x y H Q ∨ rLtT B.K x y H Q) := OpR.or op_lt (hK ▸ op_ltT (by omega))
end
end Dn

set_option Elab.async false
set_option linter.all false
set_option maxRecDepth 100000
set_option maxHeartbeats 4000000
namespace Dn
open PySem PySem.Spec PyProof.Rows L2

/-! ### texts' methods with one argument -/
def E.str? : E → Option Str
  | .v (.str x) => some x
  | _ => none
def fM1 (g : E → E → Option E) (fa fb : Env → Dr → Out E) : Env → Dr → Out E := fun ρ S => (fa ρ S).bind fun x S1 => match x.str? with
  | some _ => (fb ρ S1).bind fun y S2 => Out.of (g x y) S2
  | none => .stk
section
variable {X : Cx} {W : WX} {B : Bs} {bs : Hp × Hp} {Hs Hf H : Hp} {ρ : Env} {S : Dr} {σ : L2.St} {a b e : Expr} {es : List Expr} {fa fb : Env → Dr → Out E} {fr : Env → Dr → Out (List O)} {pos p2 : Pos} {D : Ends} {c : Bool} {tg : Expr}
theorem ER.str {v : V} {e : E} {x : Str} (h : ER B Hs Hf H v e) (q : e.str? = some x) : v = .str x := by
  cases e with
  | v d =>
    cases d <;> simp [E.str?] at q
    subst q
    cases h
    rfl
  | _ => cases q
theorem je_m1 {id : String} {name : Str} {apos : Pos} {r : V → List V → Hp → VK → Prop} {g : E → E → Option E} (slot : Slot "str" name id) (ty : typeOf (.builtin id) = pure (.type "method_descriptor")) (rule : MtR X id r) (hj : OpJ B (fun x y H Q => r x [y] H Q) g)
    (ha : JE X W B a fa) (hb : JE X W B b fb) (hs : starEach [b] X.env = [(false, eval b X.env)] := by exact star_1 rfl) (hbase : attributeBase a name X.env (eval a X.env) = eval a X.env := by rfl) (hline : (apos.endLine == pos.line) = true := by rfl) :
    JE X W B (.Call (.Attribute a name apos) [b] [] pos) (fM1 g fa fb) :=
  JE.mk (pe_m1 slot ty rule pe_W pe_W hs hbase hline) fun bs σ H ρ S Hf Q R0 h => by
    show tW X a σ H fun x H1 => (∃ a, x = .str a) ∧ tW X b σ H1 fun y H2 => r x [y] H2 Q
    refine ha.bind R0 h back_e fun e1 S1 v H1 Hf1 r1 n1 z1 h1 => ?_
    cases qs : e1.str? with
    | none => rw [qs] at h1; exact h1.elim
    | some x =>
      rw [qs] at h1
      refine ⟨⟨x, z1.str qs⟩, ?_⟩
      refine hb.bind r1 h1 back_e fun e2 S2 v2 H2 Hf2 r2 n2 z2 h2 => ?_
      cases q : g e1 e2 with
      | none => rw [q] at h2; exact h2.elim
      | some e =>
        rw [q] at h2
        exact hj _ _ _ _ _ _ _ _ _ _ _ _ _ _ r2 (z1.next r1 n2) z2 q fun v Hf' H' n d z => h2 v Hf' H' n d z
def strsD : List Dn.D → Option (List Str)
  | [] => some []
  | .str b :: ds => (strsD ds).map (b :: ·)
  | _ :: _ => none
theorem strs_ok {K : PySem.W.Frag} {dr : Addr} : ∀ {ds : List Dn.D} {vs : List V} {cs : List Str}, RepL K dr Hf vs ds → strsD ds = some cs → vs = cs.map V.str
  | [], _, _, .nil, q => by simp [strsD] at q; subst q; rfl
  | .str b :: ds, _, _, .cons h l, q => by
    simp [strsD] at q
    obtain ⟨cs, q, rfl⟩ := q
    cases h
    rw [strs_ok l q]; rfl
  | .non :: ds, _, _, _, q => by simp [strsD] at q
  | .int _ :: ds, _, _, _, q => by simp [strsD] at q
  | .bl _ :: ds, _, _, _, q => by simp [strsD] at q
  | .tup _ :: ds, _, _, _, q => by simp [strsD] at q
  | .lst _ :: ds, _, _, _, q => by simp [strsD] at q
  | .dct _ :: ds, _, _, _, q => by simp [strsD] at q
  | .obj _ _ :: ds, _, _, _, q => by simp [strsD] at q
  | .exn _ _ :: ds, _, _, _, q => by simp [strsD] at q
  | .ref _ :: ds, _, _, _, q => by simp [strsD] at q
  | .ty _ :: ds, _, _, _, q => by simp [strsD] at q
  | .drw :: ds, _, _, _, q => by simp [strsD] at q
  | .scr _ :: ds, _, _, _, q => by simp [strsD] at q
theorem strs_map (ns : List Str) : strsD (ns.map Dn.D.str) = some ns := by
  induction ns with
  | nil => rfl
  | cons n r ih => simp [strsD, ih]
theorem rep_strs {K : PySem.W.Frag} {dr : Addr} : ∀ (ys : List Str), RepL K dr Hf (ys.map V.str) (ys.map Dn.D.str)
  | [] => .nil
  | y :: ys => .cons (.str y) (rep_strs ys)
def E.tu : E → Option (List Dn.D)
  | .v (.tup ds) => some ds
  | _ => none
def gSplit : E → E → Option E
  | .v (.str x), .v (.str y) => if (y.length == 0) = false ∧ x.length + 2 ≤ sizeLine then some (.n ((Txt.split x y).map Dn.D.str)) else none
  | _, _ => none
def gPart : E → E → Option E
  | .v (.str x), .v (.str y) => if (y.length == 0) = false ∧ x.length ≤ sizeLine then some (.v (.tup [.str (Txt.partition x y).1, .str (Txt.partition x y).2.1, .str (Txt.partition x y).2.2])) else none
  | _, _ => none
def gEnds : E → E → Option E
  | .v (.str x), .v (.str y) => some (.v (.bl (Txt.endswith x y)))
  | _, _ => none
def gJoin : E → E → Option E := fun x y => match x.str? with
  | some a => match (match y.ls with | some ds => some ds | none => y.tu) with
    | some ds => match strsD ds with
      | some ys => if (ys.map (·.length)).sum + ys.length * a.length ≤ 16777216 then some (.v (.str (Txt.join a ys))) else none
      | none => none
    | none => none
  | none => none
theorem oj_split : OpJ B (fun x y H Q => ∃ a b, x = .str a ∧ [y] = [.str b] ∧ (b.length == 0) = false ∧ a.length + 2 ≤ sizeLine ∧ rNewStrs (Txt.split a b) H Q) gSplit := fun bs σ H ρ S Hf Hs1 Hs2 x y e1 e2 e Q r h1 h2 q k => by
  unfold gSplit at q
  split at q
  · split at q
    · rename_i hc
      cases q
      cases h1.v_ok
      cases h2.v_ok
      exact ⟨_, _, rfl, rfl, hc.1, hc.2, fun p hp => VP.newL r k (rep_strs _) hp⟩
    · cases q
  · cases q
theorem oj_part : OpJ B (fun x y H Q => ∃ a b, x = .str a ∧ [y] = [.str b] ∧ (b.length == 0) = false ∧ a.length ≤ sizeLine ∧
    ∀ p, H p = none → Q (.ref p) (upd H p (.tup [.str (Txt.partition a b).1, .str (Txt.partition a b).2.1, .str (Txt.partition a b).2.2]))) gPart := fun bs σ H ρ S Hf Hs1 Hs2 x y e1 e2 e Q r h1 h2 q k => by
  unfold gPart at q
  split at q
  · split at q
    · rename_i hc
      cases q
      cases h1.v_ok
      cases h2.v_ok
      exact ⟨_, _, rfl, rfl, hc.1, hc.2, fun p hp => VP.newT r k (.cons (.str _) (.cons (.str _) (.cons (.str _) .nil))) hp⟩
    · cases q
  · cases q
theorem oj_ends : OpJ B (fun x y H Q => ∃ a b, x = .str a ∧ [y] = [.str b] ∧ Q (.bl (Txt.endswith a b)) H) gEnds := fun bs σ H ρ S Hf Hs1 Hs2 x y e1 e2 e Q r h1 h2 q k => by
  unfold gEnds at q
  split at q
  · cases q
    cases h1.v_ok
    cases h2.v_ok
    exact ⟨_, _, rfl, rfl, VP.now r k (Rep.bl _)⟩
  · cases q
theorem oj_join : OpJ B (fun x y H Q => ∃ a p, ∃ ys : List Str, x = .str a ∧ [y] = [.ref p] ∧ (SqL B.K H p (ys.map V.str) ∨ SqT B.K H p (ys.map V.str)) ∧
    (ys.map (·.length)).sum + ys.length * a.length ≤ 16777216 ∧ Q (.str (Txt.join a ys)) H) gJoin := fun bs σ H ρ S Hf Hs1 Hs2 x y e1 e2 e Q r h1 h2 q k => by
  unfold gJoin at q
  split at q
  · rename_i a qa
    cases h1.str qa
    split at q
    · rename_i ds qd
      split at q
      · rename_i ys qy
        split at q
        · rename_i hc
          cases q
          cases ql : e2.ls with
          | some ds' =>
            rw [ql] at qd
            cases qd
            obtain ⟨p, vs, rfl, t, l⟩ := h2.ls r ql
            rw [strs_ok l qy] at t
            exact ⟨_, p, ys, rfl, rfl, .inl (SqL.of t), hc, VP.now r k (Rep.str _)⟩
          | none =>
            rw [ql] at qd
            dsimp only at qd
            cases e2 with
            | v d =>
              cases d <;> simp [E.tu] at qd
              subst qd
              obtain ⟨p, vs, rfl, t, l⟩ := rep_tup (Ex.refl Hf) h2.v_ok
              rw [strs_ok l qy] at t
              exact ⟨_, p, ys, rfl, rfl, .inr (ex_t r.ex t), hc, VP.now r k (Rep.str _)⟩
            | _ => cases qd
        · cases q
      · cases q
    · cases q
  · cases q
theorem je_split {apos : Pos} (ha : JE X W B a fa) (hb : JE X W B b fb) (hs : starEach [b] X.env = [(false, eval b X.env)] := by exact star_1 rfl) (hbase : attributeBase a "split" X.env (eval a X.env) = eval a X.env := by rfl) (hline : (apos.endLine == pos.line) = true := by rfl) :
    JE X W B (.Call (.Attribute a "split" apos) [b] [] pos) (fM1 gSplit fa fb) := je_m1 PySem.F.slot_str_split PySem.F.type_str_split mt_split oj_split ha hb hs hbase hline
theorem je_part {apos : Pos} (ha : JE X W B a fa) (hb : JE X W B b fb) (hs : starEach [b] X.env = [(false, eval b X.env)] := by exact star_1 rfl) (hbase : attributeBase a "partition" X.env (eval a X.env) = eval a X.env := by rfl) (hline : (apos.endLine == pos.line) = true := by rfl) :
    JE X W B (.Call (.Attribute a "partition" apos) [b] [] pos) (fM1 gPart fa fb) := je_m1 PySem.F.slot_str_partition PySem.F.type_str_partition mt_partition oj_part ha hb hs hbase hline
theorem je_ends {apos : Pos} (ha : JE X W B a fa) (hb : JE X W B b fb) (hs : starEach [b] X.env = [(false, eval b X.env)] := by exact star_1 rfl) (hbase : attributeBase a "endswith" X.env (eval a X.env) = eval a X.env := by rfl) (hline : (apos.endLine == pos.line) = true := by rfl) :
    JE X W B (.Call (.Attribute a "endswith" apos) [b] [] pos) (fM1 gEnds fa fb) := je_m1 PySem.F.slot_str_endswith PySem.F.type_str_endswith mt_endswith oj_ends ha hb hs hbase hline
theorem je_join {apos : Pos} (hK : X.K = B.K) (ha : JE X W B a fa) (hb : JE X W B b fb) (hs : starEach [b] X.env = [(false, eval b X.env)] := by exact star_1 rfl) (hbase : attributeBase a "join" X.env (eval a X.env) = eval a X.env := by rfl) (hline : (apos.endLine == pos.line) = true := by rfl) :
    JE X W B (.Call (.Attribute a "join" apos) [b] [] pos) (fM1 gJoin fa fb) := je_m1 PySem.F.slot_str_join PySem.F.type_str_join (hK ▸ mt_join (X := X)) oj_join ha hb hs hbase hline

/-! ### a sign in a text -/
def gInSg (neg : Bool) : E → E → Option E
  | .v (.str x), .v (.str z) => match x.cps.toList with
    | [c] => some (.v (.bl (if neg then !decide (c ∈ z.cps.toList) else decide (c ∈ z.cps.toList))))
    | _ => none
  | _, _ => none
theorem sg_eq {x : Str} {c : Nat} (h : x.cps.toList = [c]) : x = ⟨#[c]⟩ := by
  cases x with
  | mk a => congr 1; apply Array.ext'; exact h
theorem oj_inSg : OpJ B (fun x y H Q => ∃ (c : Nat) (z : Str), x = .str ⟨#[c]⟩ ∧ y = .str z ∧ Q (.bl (decide (c ∈ z.cps.toList))) H) (gInSg false) := fun bs σ H ρ S Hf Hs1 Hs2 x y e1 e2 e Q r h1 h2 q k => by
  unfold gInSg at q
  split at q
  · split at q
    · rename_i c hc
      cases q
      cases h1.v_ok
      cases h2.v_ok
      exact ⟨c, _, by rw [← sg_eq hc], rfl, VP.now r k (Rep.bl _)⟩
    · cases q
  · cases q
theorem oj_notInSg : OpJ B (fun x y H Q => ∃ (c : Nat) (z : Str), x = .str ⟨#[c]⟩ ∧ y = .str z ∧ Q (.bl (!decide (c ∈ z.cps.toList))) H) (gInSg true) := fun bs σ H ρ S Hf Hs1 Hs2 x y e1 e2 e Q r h1 h2 q k => by
  unfold gInSg at q
  split at q
  · split at q
    · rename_i c hc
      cases q
      cases h1.v_ok
      cases h2.v_ok
      exact ⟨c, _, by rw [← sg_eq hc], rfl, VP.now r k (Rep.bl _)⟩
    · cases q
  · cases q

/-! ### a text is walked -/
theorem wk_str {z : Str} {Hf1 H1 : Hp} : Wk B bs c Hf1 H1 (Its z) (z.cps.toList.map fun c => Dn.D.str ⟨#[c]⟩) := by
  refine ⟨fun _ => True, fun i H v H' => H' = H ∧ ∃ c, z.cps[i]? = some c ∧ v = .str ⟨#[c]⟩, by rw [List.length_map, Array.length_toList]; exact walk_str, fun _ _ _ _ _ _ _ _ => trivial, fun i Hf H ρ S σ v H' hi r x g y => ?_⟩
  obtain ⟨rfl, u, hu, rfl⟩ := y
  exact ⟨.str ⟨#[u]⟩, Hf, by rw [List.getElem?_map, Array.getElem?_toList, hu]; rfl, r.nx0, r.drw, .str _⟩
def itEs (c : Bool) : E → Option (List Dn.D)
  | .v (.str z) => some (z.cps.toList.map fun c => Dn.D.str ⟨#[c]⟩)
  | e => itE c e
def fItrs (c : Bool) (fa : Env → Dr → Out E) : Env → Dr → Out (List Dn.D) := fun ρ S => (fa ρ S).bind fun e S1 => Out.of (itEs c e) S1
/-- lists, tuples and texts -/
theorem ji_seqs (hK : X.K = B.K) (ha : JE X W B a fa) : JI X W B c tg a (fItrs c fa) := by
  obtain ⟨wi, pw, qw⟩ := ji_seq (c := c) (tg := tg) hK ha
  refine ⟨_, PI.or pw (pi_str pe_W), fun bs σ H ρ S Hf P r h => ?_⟩
  unfold fItrs at h
  by_cases ht : ∃ z S1, fa ρ S = .ok (.v (.str z)) S1
  · obtain ⟨z, S1, q⟩ := ht
    rw [q] at h
    refine .inr ?_
    show tW X a σ H fun x H1 => ∃ y, x = .str y ∧ P (Its y) H1
    refine ha.go bs σ H ρ S Hf _ r ?_
    rw [q]
    intro v Hf1 H1 n d z1
    cases z1.v_ok
    exact ⟨_, rfl, h _ H1 Hf1 (r.next n d) n wk_str⟩
  · refine .inl (qw bs σ H ρ S Hf P r ?_)
    unfold fItr
    cases q : fa ρ S with
    | stk => rw [q] at h; exact h
    | exc C fs S1 => rw [q] at h; exact h
    | ok e S1 =>
      rw [q] at h
      have e2 : itEs c e = itE c e := by
        cases e with
        | v d => cases d <;> first | rfl | exact (ht ⟨_, _, q⟩).elim
        | _ => rfl
      have h : IPost B W bs c ρ σ Hf H (Out.of (itEs c e) S1) P := h
      rw [e2] at h
      exact h

/-! ### a, b = x, y -/
def sPar (i j : Nat) (fr : Env → Dr → Out (List O)) : Env → Dr → SO := fun ρ S => if i < ρ.length ∧ j < ρ.length then (fr ρ S).so ρ fun os S1 => match os with
  | [.v d1, .v d2] => .nx ((ρ.set i (some (.v d1))).set j (some (.v d2))) S1
  | _ => .stk else .stk
def sPar3 (i j l : Nat) (fr : Env → Dr → Out (List O)) : Env → Dr → SO := fun ρ S => if i < ρ.length ∧ j < ρ.length ∧ l < ρ.length then (fr ρ S).so ρ fun os S1 => match os with
  | [.v d1, .v d2, .v d3] => .nx (((ρ.set i (some (.v d1))).set j (some (.v d2))).set l (some (.v d3))) S1
  | _ => .stk else .stk
theorem js_par (i j : Nat) {x y : Str} {px py pt : Pos} {kt k2 pt2} (hc : X.calm = true) (hN : X.N.Nodup) (ha : JA X W B [a, b] fr) (hij : i ≠ j := by decide) (hi : X.N[i]? = some x := by rfl) (hj : X.N[j]? = some y := by rfl)
    (hx : X.env.scope.names.lookup x = some .local := by rfl) (hy : X.env.scope.names.lookup y = some .local := by rfl)
    (hw : swappedStores [.Tuple [.Name x px, .Name y py] kt pt] (.Tuple [a, b] k2 pt2) X.env = pure (some [x, y]) := by rfl)
    (hs : swapsWithSole [.Tuple [.Name x px, .Name y py] kt pt] (.Tuple [a, b] k2 pt2) pos.line X.env = pure false := by rfl) :
    JS X W B (.Assign [.Tuple [.Name x px, .Name y py] kt pt] (.Tuple [a, b] k2 pt2) pos) (sPar i j fr) :=
  JS.mk (ps_par hc hN hi hj hij hx hy pa_W hw hs) fun bs σ H ρ S Hf D r h => by
    show tWA X [a, b] σ H fun vs H1 => ∃ v w, vs = [v, w] ∧ D.nx ((σ.set i (some v)).set j (some w)) H1
    unfold sPar at h
    split at h
    · rename_i hl
      refine ha.so r h fun os S1 vs H1 Hf1 r1 n1 z1 q => ?_
      split at q
      · obtain ⟨v, w, rfl, h1, h2⟩ := as2 z1
        exact ⟨v, w, rfl, q _ Hf1 H1 ((r1.store (o := .v _) hl.1 (show SlR B bs Hf1 H1 v (.v _) from h1) fun w => by cases w).store (o := .v _) (by rw [List.length_set]; exact hl.2) (show SlR B bs Hf1 H1 w (.v _) from h2) fun w => by cases w)⟩
      · exact q.elim
    · exact h.elim
theorem as3 {vs : List V} {o o2 o3 : O} (z : AsR B Hf H vs [o, o2, o3]) : ∃ v v2 v3, vs = [v, v2, v3] ∧ ArR B Hf H v o ∧ ArR B Hf H v2 o2 ∧ ArR B Hf H v3 o3 := by
  cases z with | cons h t => obtain ⟨v2, v3, rfl, h2, h3⟩ := as2 t; exact ⟨_, _, _, rfl, h, h2, h3⟩
theorem js_par3 (i j l : Nat) {cc : Expr} {x y z : Str} {px py pz pt : Pos} {kt k2 pt2} (hc : X.calm = true) (hN : X.N.Nodup) (ha : JA X W B [a, b, cc] fr) (hij : i ≠ j := by decide) (hil : i ≠ l := by decide) (hjl : j ≠ l := by decide) (hi : X.N[i]? = some x := by rfl) (hj : X.N[j]? = some y := by rfl) (hl : X.N[l]? = some z := by rfl)
    (hx : X.env.scope.names.lookup x = some .local := by rfl) (hy : X.env.scope.names.lookup y = some .local := by rfl) (hz : X.env.scope.names.lookup z = some .local := by rfl)
    (hw : swappedStores [.Tuple [.Name x px, .Name y py, .Name z pz] kt pt] (.Tuple [a, b, cc] k2 pt2) X.env = pure (some [x, y, z]) := by rfl)
    (hs : swapsWithSole [.Tuple [.Name x px, .Name y py, .Name z pz] kt pt] (.Tuple [a, b, cc] k2 pt2) pos.line X.env = pure false := by rfl) :
    JS X W B (.Assign [.Tuple [.Name x px, .Name y py, .Name z pz] kt pt] (.Tuple [a, b, cc] k2 pt2) pos) (sPar3 i j l fr) :=
  JS.mk (ps_par3 hc hN hi hj hl hij hil hjl hx hy hz pa_W hw hs) fun bs σ H ρ S Hf D r h => by
    show tWA X [a, b, cc] σ H fun vs H1 => ∃ u v w, vs = [u, v, w] ∧ D.nx (((σ.set i (some u)).set j (some v)).set l (some w)) H1
    unfold sPar3 at h
    split at h
    · rename_i hl
      refine ha.so r h fun os S1 vs H1 Hf1 r1 n1 z1 q => ?_
      split at q
      · obtain ⟨u, v, w, rfl, h1, h2, h3⟩ := as3 z1
        exact ⟨u, v, w, rfl, q _ Hf1 H1 (((r1.store (o := .v _) hl.1 (show SlR B bs Hf1 H1 u (.v _) from h1) fun w => by cases w).store (o := .v _) (by rw [List.length_set]; exact hl.2.1) (show SlR B bs Hf1 H1 v (.v _) from h2) fun w => by cases w).store (o := .v _) (by rw [List.length_set, List.length_set]; exact hl.2.2) (show SlR B bs Hf1 H1 w (.v _) from h3) fun w => by cases w)⟩
      · exact q.elim
    · exact h.elim
end
end Dn

set_option Elab.async false
set_option linter.all false
set_option maxRecDepth 100000
set_option maxHeartbeats 4000000
namespace Dn
open PySem PySem.Spec PyProof.Rows L2

/-! ### comprehensions, loops, with draws in them -/
section
variable {tgt : D → Env → Option Env} {ft : Env → Dr → Out Bool} {fe : Env → Dr → Out E} {ρ : Env}
/-- each turn makes at most k draws -/
theorem lc_draw {G : D → Prop} {k : Nat} : ∀ (ds : List D) (S : Dr) (t : Nat), OkD t S → (∀ d ∈ ds, ∀ S t', OkD t' S → t' + k ≤ t + k * ds.length → ∃ ρ1, tgt d ρ = some ρ1 ∧ (ft ρ1 S).w (fun c S1 => if c = true then (fe ρ1 S1).w (fun e S2 => ∃ x, per e = some x ∧ G x ∧ OkD (t' + k) S2) noX' else OkD (t' + k) S1) noX') →
    ∃ xs S', lcD tgt ft fe ρ ds S = .ok xs S' ∧ xs.length ≤ ds.length ∧ (∀ x ∈ xs, G x) ∧ OkD (t + k * ds.length) S'
  | [], S, t, hS, _ => ⟨[], S, rfl, Nat.le_refl _, by simp, hS⟩
  | d :: ds, S, t, hS, h => by
    obtain ⟨ρ1, e1, w⟩ := h d (by simp) S t hS (by rw [List.length_cons, Nat.mul_add]; omega)
    have ih := fun S (hS : OkD (t + k) S) => lc_draw ds S (t + k) hS fun d' m S t' a b => h d' (by simp [m]) S t' a (by rw [List.length_cons, Nat.mul_add]; omega)
    rw [lcD, e1]
    dsimp only
    cases q : ft ρ1 S with
    | stk => rw [q] at w; exact w.elim
    | exc C fs S1 => rw [q] at w; exact w.elim
    | ok c S1 =>
      rw [q] at w
      cases c with
      | false =>
        have w : OkD (t + k) S1 := w
        obtain ⟨xs, S', e2, l, g, o⟩ := ih S1 w
        exact ⟨xs, S', e2, by simp; omega, g, by rw [List.length_cons, Nat.mul_add]; exact o.mono (by omega)⟩
      | true =>
        have w : (fe ρ1 S1).w (fun e S2 => ∃ x, per e = some x ∧ G x ∧ OkD (t + k) S2) noX' := w
        show ∃ xs S', ((fe ρ1 S1).bind fun e S2 => match per e with
          | none => Out.stk
          | some x => (lcD tgt ft fe ρ ds S2).bind fun xs S3 => .ok (x :: xs) S3) = .ok xs S' ∧ _
        cases q2 : fe ρ1 S1 with
        | stk => rw [q2] at w; exact w.elim
        | exc C fs S1 => rw [q2] at w; exact w.elim
        | ok e S2 =>
          rw [q2] at w
          obtain ⟨x, p, gx, w⟩ := w
          obtain ⟨xs, S', e2, l, g, o⟩ := ih S2 w
          refine ⟨x :: xs, S', ?_, by simp; omega, ?_, by rw [List.length_cons, Nat.mul_add]; exact o.mono (by omega)⟩
          · show (match per e with
              | none => Out.stk
              | some x => (lcD tgt ft fe ρ ds S2).bind fun xs S3 => .ok (x :: xs) S3) = _
            rw [p]
            dsimp only
            rw [e2]
            rfl
          · intro z m
            rcases List.mem_cons.mp m with rfl | m
            · exact gx
            · exact g z m
/-- .. without a test -/
theorem lc_draw1 {G : D → Prop} {k : Nat} : ∀ (ds : List D) (S : Dr) (t : Nat), OkD t S → (∀ d ∈ ds, ∀ S t', OkD t' S → t' + k ≤ t + k * ds.length → ∃ ρ1, tgt d ρ = some ρ1 ∧ (fe ρ1 S).w (fun e S2 => ∃ x, per e = some x ∧ G x ∧ OkD (t' + k) S2) noX') →
    ∃ xs S', lcD tgt fYes fe ρ ds S = .ok xs S' ∧ xs.length = ds.length ∧ (∀ x ∈ xs, G x) ∧ OkD (t + k * ds.length) S'
  | [], S, t, hS, _ => ⟨[], S, rfl, rfl, by simp, hS⟩
  | d :: ds, S, t, hS, h => by
    obtain ⟨ρ1, e1, w⟩ := h d (by simp) S t hS (by rw [List.length_cons, Nat.mul_add]; omega)
    have ih := fun S (hS : OkD (t + k) S) => lc_draw1 ds S (t + k) hS fun d' m S t' a b => h d' (by simp [m]) S t' a (by rw [List.length_cons, Nat.mul_add]; omega)
    rw [lcD, e1]
    show ∃ xs S', ((fe ρ1 S).bind fun e S2 => match per e with
      | none => Out.stk
      | some x => (lcD tgt fYes fe ρ ds S2).bind fun xs S3 => .ok (x :: xs) S3) = .ok xs S' ∧ _
    cases q2 : fe ρ1 S with
    | stk => rw [q2] at w; exact w.elim
    | exc C fs S1 => rw [q2] at w; exact w.elim
    | ok e S2 =>
      rw [q2] at w
      obtain ⟨x, p, gx, w⟩ := w
      obtain ⟨xs, S', e2, l, g, o⟩ := ih S2 w
      refine ⟨x :: xs, S', ?_, by simp [l], ?_, by rw [List.length_cons, Nat.mul_add]; exact o.mono (by omega)⟩
      · show (match per e with
          | none => Out.stk
          | some x => (lcD tgt fYes fe ρ ds S2).bind fun xs S3 => .ok (x :: xs) S3) = _
        rw [p]
        dsimp only
        rw [e2]
        rfl
      · intro z m
        rcases List.mem_cons.mp m with rfl | m
        · exact gx
        · exact g z m
/-- nothing is drawn: the items one by one -/
theorem lc_map {S : Dr} (f : D → D) : ∀ (ds : List D), (∀ d ∈ ds, ∃ ρ1, tgt d ρ = some ρ1 ∧ (fe ρ1 S).w (fun e S2 => per e = some (f d) ∧ S2 = S) noX') → lcD tgt fYes fe ρ ds S = .ok (ds.map f) S
  | [], _ => rfl
  | d :: ds, h => by
    obtain ⟨ρ1, e1, w⟩ := h d (by simp)
    have ih := lc_map f ds fun d' m => h d' (by simp [m])
    rw [lcD, e1]
    show ((fe ρ1 S).bind fun e S2 => match per e with
      | none => Out.stk
      | some x => (lcD tgt fYes fe ρ ds S2).bind fun xs S3 => .ok (x :: xs) S3) = _
    cases q2 : fe ρ1 S with
    | stk => rw [q2] at w; exact w.elim
    | exc C fs S1 => rw [q2] at w; exact w.elim
    | ok e S2 =>
      rw [q2] at w
      obtain ⟨p, rfl⟩ := w
      show (match per e with
        | none => Out.stk
        | some x => (lcD tgt fYes fe ρ ds S2).bind fun xs S3 => .ok (x :: xs) S3) = _
      rw [p]
      dsimp only
      rw [ih]
      rfl
/-- .. with a test -/
theorem lc_filter {S : Dr} (p : D → Bool) (f : D → D) : ∀ (ds : List D), (∀ d ∈ ds, ∃ ρ1, tgt d ρ = some ρ1 ∧ (ft ρ1 S).w (fun c S1 => c = p d ∧ S1 = S) noX' ∧ (p d = true → (fe ρ1 S).w (fun e S2 => per e = some (f d) ∧ S2 = S) noX')) →
    lcD tgt ft fe ρ ds S = .ok ((ds.filter p).map f) S
  | [], _ => rfl
  | d :: ds, h => by
    obtain ⟨ρ1, e1, w0, w⟩ := h d (by simp)
    have ih := lc_filter p f ds fun d' m => h d' (by simp [m])
    rw [lcD, e1]
    dsimp only
    cases q : ft ρ1 S with
    | stk => rw [q] at w0; exact w0.elim
    | exc C fs S1 => rw [q] at w0; exact w0.elim
    | ok c S1 =>
      rw [q] at w0
      obtain ⟨rfl, rfl⟩ := w0
      cases hp : p d with
      | false =>
        show lcD tgt ft fe ρ ds S1 = _
        rw [ih, List.filter_cons_of_neg (by simp [hp])]
      | true =>
        have w := w hp
        show ((fe ρ1 S1).bind fun e S2 => match per e with
          | none => Out.stk
          | some x => (lcD tgt ft fe ρ ds S2).bind fun xs S3 => .ok (x :: xs) S3) = _
        cases q2 : fe ρ1 S1 with
        | stk => rw [q2] at w; exact w.elim
        | exc C fs S1 => rw [q2] at w; exact w.elim
        | ok e S2 =>
          rw [q2] at w
          obtain ⟨pe, rfl⟩ := w
          show (match per e with
            | none => Out.stk
            | some x => (lcD tgt ft fe ρ ds S2).bind fun xs S3 => .ok (x :: xs) S3) = _
          rw [pe]
          dsimp only
          rw [ih, List.filter_cons_of_pos hp]
          rfl
end
theorem Out.eq_w {α : Type} {e : α} {o : Out α} {S' : Dr} (h : o.w (fun a S1 => a = e ∧ S1 = S') noX') : o = .ok e S' := by
  cases o with
  | ok a S1 => obtain ⟨rfl, rfl⟩ := h; rfl
  | exc C fs S1 => exact h.elim
  | stk => exact h.elim
theorem Out.w_eq {α : Type} {P : α → Dr → Prop} {X : PX} {e : α} {o : Out α} {S' : Dr} (h : o = .ok e S') (k : P e S') : o.w P X := by rw [h]; exact k
/-- what holds of all, from one noX' reading -/
theorem Out.w.of {α : Type} {P P' : α → Dr → Prop} {X : PX} {o : Out α} (h : o.w P noX') (k : ∀ a S, P a S → P' a S) : o.w P' X := h.mono k fun _ _ _ z => z.elim
/-- the items of a list that are drawn from -/
theorem gIx_any {ds : List D} {x : E} (hx : x = .v (.lst ds) ∨ x = .b ds ∨ x = .n ds ∨ x = .v (.tup ds)) {r : Int} (h0 : 0 ≤ r) (h1 : r < ds.length) : ∃ d ∈ ds, gIx x (.v (.int r)) = some (.v d) := by
  obtain ⟨i, rfl⟩ : ∃ i : Nat, r = (i : Int) := ⟨r.toNat, by omega⟩
  have hi : i < ds.length := by omega
  refine ⟨ds[i], List.getElem_mem hi, ?_⟩
  have e : atI ds (i : Int) = some ds[i] := atI_nat (by simp [hi])
  rcases hx with rfl | rfl | rfl | rfl
  · show (atI ds (i : Int)).map E.v = _; rw [e]; rfl
  · show (atI ds (i : Int)).map E.v = _; rw [e]; rfl
  · show (atI ds (i : Int)).map E.v = _; rw [e]; rfl
  · show (atI ds (i : Int)).map E.v = _; rw [e]; rfl
end Dn

set_option Elab.async false
set_option linter.all false
set_option maxRecDepth 100000
set_option maxHeartbeats 4000000
namespace Dn
open PySem PySem.Spec PyProof.Rows L2

/-! ### values, more -/
@[simp] theorem szl : sizeLine = 16777216 := sizeLine_eq
@[simp] theorem vals_nil : vals [] = some [] := rfl
@[simp] theorem vals_cons {d : D} {os : List O} : vals (.v d :: os) = (vals os).map (d :: ·) := rfl
@[simp] theorem gLstD_eq {os : List O} : gLstD os = (vals os).bind fun ds => if ds.length ≤ 16777216 then some (.n ds) else none := by
  unfold gLstD
  rw [szl]
  cases vals os <;> rfl
@[simp] theorem gTupD_eq {os : List O} : gTupD os = (vals os).bind fun ds => if ds.length ≤ 16777216 then some (.v (.tup ds)) else none := by
  unfold gTupD
  rw [szl]
  cases vals os <;> rfl
@[simp] theorem wipe_nil' {ρ : Env} : wipeE ρ [] = ρ := rfl
@[simp] theorem wipe_cons' {ρ : Env} {i : Nat} {r : List Nat} : wipeE ρ (i :: r) = (wipeE ρ r).set i none := rfl
@[simp] theorem tgN_eq {i : Nat} {d : D} {ρ : Env} : tgN i d ρ = if i < ρ.length then some (ρ.set i (some (.v d))) else none := rfl
@[simp] theorem tgNil_nil {ρ : Env} : tgNil [] ρ = some ρ := rfl
@[simp] theorem tgCons_cons {g : D → Env → Option Env} {gs : List D → Env → Option Env} {d : D} {r : List D} {ρ : Env} : tgCons g gs (d :: r) ρ = (g d ρ).bind (gs r) := rfl
@[simp] theorem tgT_tup {n : Nat} {gs : List D → Env → Option Env} {ds : List D} {ρ : Env} : tgT n gs (.tup ds) ρ = if ds.length = n then gs ds ρ else none := rfl
@[simp] theorem stO_v {d : D} : stO (.v d) = some (.v d) := rfl
@[simp] theorem stO_n {d : List D} : stO (.n d) = some (.l d) := rfl
@[simp] theorem stO_nd {d : List (Key × D)} : stO (.nd d) = some (.d d) := rfl
@[simp] theorem toO_nd {d : List (Key × D)} : toO (.nd d) = .v (.dct d) := rfl
@[simp] theorem toO_bd {d : List (Key × D)} : toO (.bd d) = .ld d := rfl
@[simp] theorem per_n {d : List D} : per (.n d) = some (.lst d) := rfl
@[simp] theorem per_nd {d : List (Key × D)} : per (.nd d) = some (.dct d) := rfl
@[simp] theorem gTupleOf_l {ds : List D} : gTupleOf [.v (.lst ds)] = some (.v (.tup ds)) := rfl
@[simp] theorem gTupleOf_lt {ds : List D} : gTupleOf [.lt ds] = some (.v (.tup ds)) := rfl
@[simp] theorem gTupleOf_t {ds : List D} : gTupleOf [.v (.tup ds)] = some (.v (.tup ds)) := rfl
@[simp] theorem gListOf_l {ds : List D} : gListOf [.v (.lst ds)] = some (.n ds) := rfl
@[simp] theorem gListOf_lt {ds : List D} : gListOf [.lt ds] = some (.n ds) := rfl
@[simp] theorem gListOf_t {ds : List D} : gListOf [.v (.tup ds)] = some (.n ds) := rfl
@[simp] theorem gIntOf_int {i : Int} : gIntOf [.v (.int i)] = some (.v (.int i)) := rfl
@[simp] theorem gIntOf_bl {b : Bool} : gIntOf [.v (.bl b)] = some (.v (.int (if b then 1 else 0))) := rfl
theorem gMul_int {i j : Int} (h : CMul i j) : gMul (.v (.int i)) (.v (.int j)) = some (.v (.int (i * j))) := by
  show (match gMulI (.v (.int i)) (.v (.int j)) with | some e => some e | none => gMulL _ _) = _
  have : gMulI (.v (.int i)) (.v (.int j)) = some (.v (.int (i * j))) := by
    show (if CMul i j then some (D.int (i * j)) else none).map E.v = _
    rw [if_pos h]
    rfl
  rw [this]
theorem gPow_int {i j : Int} (h : CPow i j) : gPow (.v (.int i)) (.v (.int j)) = some (.v (.int (i ^ j.toNat))) := by
  show (if CPow i j then some (D.int (i ^ j.toNat)) else none).map E.v = _
  rw [if_pos h]
  rfl
theorem gMod_int {i j : Int} (h : j ≠ 0) : gMod (.v (.int i)) (.v (.int j)) = some (.v (.int (i.fmod j))) := by
  show (if j ≠ 0 then some (D.int (i.fmod j)) else none).map E.v = _
  rw [if_pos h]
  rfl
theorem gFdiv_int {i j : Int} (h : CDivN i j) : gFdiv (.v (.int i)) (.v (.int j)) = some (.v (.int (i.fdiv j))) := by
  show (if CDivN i j then some (D.int (i.fdiv j)) else none).map E.v = _
  rw [if_pos h]
  rfl
@[simp] theorem gPow_1030 : gPow (.v (.int 10)) (.v (.int 30)) = some (.v (.int (10 ^ 30))) := gPow_int (by unfold CPow; decide)
@[simp] theorem gPow_1040 : gPow (.v (.int 10)) (.v (.int 40)) = some (.v (.int (10 ^ 40))) := gPow_int (by unfold CPow; decide)
theorem gMul_l {x : E} {ds : List D} {k : Int} (hx : x.ls = some ds) (hn : x.int? = none) (h : -(2 ^ 63) ≤ k ∧ k < 2 ^ 63 ∧ ds.length * k.toNat ≤ sizeLine) : gMul x (.v (.int k)) = some (.n (List.replicate k.toNat ds).flatten) := by
  have e1 : gMulI x (.v (.int k)) = none := by
    cases x with
    | v d => cases d <;> first | rfl | (simp [E.int?] at hn)
    | _ => rfl
  show (match gMulI x (.v (.int k)) with | some e => some e | none => gMulL x (.v (.int k))) = _
  rw [e1]
  show (match x.ls, E.v (.int k) with
    | some a, .v (.int k) => if -(2 ^ 63) ≤ k ∧ k < 2 ^ 63 ∧ a.length * k.toNat ≤ sizeLine then some (E.n (List.replicate k.toNat a).flatten) else none
    | _, _ => none) = _
  rw [hx]
  exact if_pos h
@[simp] theorem gAdd_tt {a b : List D} : gAdd (.v (.tup a)) (.v (.tup b)) = if a.length + b.length ≤ 16777216 then some (.v (.tup (a ++ b))) else none := by
  show (match gAddT (.v (.tup a)) (.v (.tup b)) with | some e => some e | none => gAddL _ _) = _
  show (match (if a.length + b.length ≤ sizeLine then some (E.v (.tup (a ++ b))) else none) with | some e => some e | none => none) = _
  rw [szl]
  split <;> split <;> simp_all
theorem gAdd_ls {x y : E} {a b : List D} (hx : x.ls = some a) (hy : y.ls = some b) : gAdd x y = if a.length + b.length ≤ 16777216 then some (.n (a ++ b)) else none := by
  have e1 : gAddI x y = none := by
    cases x with
    | v d => cases d <;> first | rfl | (simp [E.ls] at hx)
    | _ => rfl
  have e2 : gAddS x y = none := by
    cases x with
    | v d => cases d <;> first | rfl | (simp [E.ls] at hx)
    | _ => rfl
  have e3 : gAddT x y = none := by
    cases x with
    | v d => cases d <;> first | rfl | (simp [E.ls] at hx)
    | _ => rfl
  unfold gAdd
  rw [e1, e2, e3]
  dsimp only
  unfold gAddL
  rw [hx, hy, szl]
@[simp] theorem gAdd_nn {a b : List D} : gAdd (.n a) (.n b) = if a.length + b.length ≤ 16777216 then some (.n (a ++ b)) else none := gAdd_ls rfl rfl
@[simp] theorem gAdd_ln {a b : List D} : gAdd (.v (.lst a)) (.n b) = if a.length + b.length ≤ 16777216 then some (.n (a ++ b)) else none := gAdd_ls rfl rfl
@[simp] theorem gAdd_nl {a b : List D} : gAdd (.n a) (.v (.lst b)) = if a.length + b.length ≤ 16777216 then some (.n (a ++ b)) else none := gAdd_ls rfl rfl
@[simp] theorem gAdd_ll {a b : List D} : gAdd (.v (.lst a)) (.v (.lst b)) = if a.length + b.length ≤ 16777216 then some (.n (a ++ b)) else none := gAdd_ls rfl rfl
@[simp] theorem gAdd_bn {a b : List D} : gAdd (.b a) (.n b) = if a.length + b.length ≤ 16777216 then some (.n (a ++ b)) else none := gAdd_ls rfl rfl
@[simp] theorem gAdd_bl {a b : List D} : gAdd (.b a) (.v (.lst b)) = if a.length + b.length ≤ 16777216 then some (.n (a ++ b)) else none := gAdd_ls rfl rfl
@[simp] theorem gAdd_bb {a b : List D} : gAdd (.b a) (.b b) = if a.length + b.length ≤ 16777216 then some (.n (a ++ b)) else none := gAdd_ls rfl rfl
@[simp] theorem gAdd_lb {a b : List D} : gAdd (.v (.lst a)) (.b b) = if a.length + b.length ≤ 16777216 then some (.n (a ++ b)) else none := gAdd_ls rfl rfl
@[simp] theorem gAdd_nb {a b : List D} : gAdd (.n a) (.b b) = if a.length + b.length ≤ 16777216 then some (.n (a ++ b)) else none := gAdd_ls rfl rfl
@[simp] theorem gRev_t {ds : List D} : gRev (.v (.tup ds)) = some (.v (.tup ds.reverse)) := rfl
@[simp] theorem gRev_l {ds : List D} : gRev (.v (.lst ds)) = some (.n ds.reverse) := rfl
@[simp] theorem gRev_n {ds : List D} : gRev (.n ds) = some (.n ds.reverse) := rfl
@[simp] theorem gRev_b {ds : List D} : gRev (.b ds) = some (.n ds.reverse) := rfl
@[simp] theorem gIsB_bl {a b : Bool} : gIsB (.v (.bl a)) (.v (.bl b)) = some (.v (.bl (decide (a = b)))) := rfl
@[simp] theorem itE_t {c : Bool} {ds : List D} : itE c (.v (.tup ds)) = some ds := rfl
@[simp] theorem itE_l {c : Bool} {ds : List D} : itE c (.v (.lst ds)) = some ds := rfl
@[simp] theorem itE_n {c : Bool} {ds : List D} : itE c (.n ds) = some ds := rfl
@[simp] theorem itE_b {ds : List D} : itE true (.b ds) = some ds := rfl
@[simp] theorem str_str {x : Str} : E.str? (.v (.str x)) = some x := rfl
@[simp] theorem isNone_non : isNone (.v .non) = true := rfl
@[simp] theorem isNone_int {i : Int} : isNone (.v (.int i)) = false := rfl
@[simp] theorem isNone_bl {i : Bool} : isNone (.v (.bl i)) = false := rfl
@[simp] theorem isNone_str {i : Str} : isNone (.v (.str i)) = false := rfl
@[simp] theorem isNone_tup {i : List D} : isNone (.v (.tup i)) = false := rfl
@[simp] theorem isNone_lst {i : List D} : isNone (.v (.lst i)) = false := rfl
@[simp] theorem isNone_obj {C : Addr} {i : List (Str × D)} : isNone (.v (.obj C i)) = false := rfl
@[simp] theorem isNone_n {i : List D} : isNone (.n i) = false := rfl
@[simp] theorem isNone_b {i : List D} : isNone (.b i) = false := rfl
section
variable {P : E → Dr → Prop} {X : PX} {S : Dr} {ρ : Env} {K : Kt} {fa fb : Env → Dr → Out E} {fr : Env → Dr → Out (List O)}
@[simp] theorem w_m1 {g : E → E → Option E} : (fM1 g fa fb ρ S).w P X = (fa ρ S).w (fun x S1 => ∃ z, x.str? = some z ∧ (fb ρ S1).w (fun y S2 => ∃ e, g x y = some e ∧ P e S2) X) X := by
  unfold fM1
  rw [w_bind]
  congr 1
  funext x S1
  cases hx : x.str? with
  | none => exact propext ⟨fun h => h.elim, fun ⟨_, h, _⟩ => by cases h⟩
  | some z =>
    show ((fb ρ S1).bind fun y S2 => Out.of (g x y) S2).w P X = _
    simp only [w_bind, w_of]
    exact propext ⟨fun h => ⟨z, rfl, h⟩, fun ⟨_, h, k⟩ => k⟩
@[simp] theorem w_itrs {c : Bool} {P : List D → Dr → Prop} : (fItrs c fa ρ S).w P X = (fa ρ S).w (fun e S1 => ∃ ds, itEs c e = some ds ∧ P ds S1) X := by
  unfold fItrs
  simp only [w_bind, w_of]
@[simp] theorem w_asg {g : D → Env → Option Env} : (sAsg g fa ρ S).w K = (fa ρ S).w (fun e S1 => ∃ d, per e = some d ∧ ∃ ρ', g d ρ = some ρ' ∧ K.nx ρ' S1) (fun C fs S1 => K.ex C fs ρ S1) := by
  unfold sAsg
  rw [w_so]
  congr 1
  funext e S1
  cases per e with
  | none => exact propext ⟨fun h => h.elim, fun ⟨_, h, _⟩ => by cases h⟩
  | some d =>
    show (match g d ρ with | some ρ' => SO.nx ρ' S1 | none => .stk : SO).w K = _
    cases hg : g d ρ with
    | none => exact propext ⟨fun h => h.elim, fun ⟨_, h, _, k, _⟩ => by cases h; rw [hg] at k; cases k⟩
    | some ρ' => exact propext ⟨fun h => ⟨d, rfl, ρ', hg, h⟩, fun ⟨_, h, _, k, q⟩ => by cases h; rw [hg] at k; cases k; exact q⟩
@[simp] theorem w_par {i j : Nat} : (sPar i j fr ρ S).w K = (i < ρ.length ∧ j < ρ.length ∧ (fr ρ S).w (fun os S1 => ∃ d1 d2, os = [.v d1, .v d2] ∧ K.nx ((ρ.set i (some (.v d1))).set j (some (.v d2))) S1) (fun C fs S1 => K.ex C fs ρ S1)) := by
  unfold sPar
  split
  · rename_i h
    refine Eq.trans ?_ (propext ⟨fun k => ⟨h.1, h.2, k⟩, fun k => k.2.2⟩)
    rw [w_so]
    congr 1
    funext os S1
    split
    · rename_i d1 d2
      exact propext ⟨fun h => ⟨d1, d2, rfl, h⟩, fun ⟨_, _, h, k⟩ => by cases h; exact k⟩
    · rename_i hn
      exact propext ⟨fun h => h.elim, fun ⟨_, _, h, k⟩ => (hn _ _ h).elim⟩
  · rename_i h
    exact propext ⟨fun k => k.elim, fun k => h ⟨k.1, k.2.1⟩⟩
@[simp] theorem w_par3 {i j l : Nat} : (sPar3 i j l fr ρ S).w K = (i < ρ.length ∧ j < ρ.length ∧ l < ρ.length ∧ (fr ρ S).w (fun os S1 => ∃ d1 d2 d3, os = [.v d1, .v d2, .v d3] ∧ K.nx (((ρ.set i (some (.v d1))).set j (some (.v d2))).set l (some (.v d3))) S1) (fun C fs S1 => K.ex C fs ρ S1)) := by
  unfold sPar3
  split
  · rename_i h
    refine Eq.trans ?_ (propext ⟨fun k => ⟨h.1, h.2.1, h.2.2, k⟩, fun k => k.2.2.2⟩)
    rw [w_so]
    congr 1
    funext os S1
    split
    · rename_i d1 d2 d3
      exact propext ⟨fun h => ⟨d1, d2, d3, rfl, h⟩, fun ⟨_, _, _, h, k⟩ => by cases h; exact k⟩
    · rename_i hn
      exact propext ⟨fun h => h.elim, fun ⟨_, _, _, h, k⟩ => (hn _ _ _ h).elim⟩
  · rename_i h
    exact propext ⟨fun k => k.elim, fun k => h ⟨k.1, k.2.1, k.2.2.1⟩⟩
theorem w_app {i : Nat} {ds : List D} (h : ρ[i]? = some (some (.l ds))) : (sApp i fa ρ S).w K = (fa ρ S).w (fun e S1 => ∃ d, per e = some d ∧ ds.length < sizeLine ∧ K.nx (ρ.set i (some (.l (ds ++ [d])))) S1) (fun C fs S1 => K.ex C fs ρ S1) := by
  unfold sApp
  rw [h]
  dsimp only
  rw [w_so]
  congr 1
  funext e S1
  cases per e with
  | none => exact propext ⟨fun h => h.elim, fun ⟨_, h, _⟩ => by cases h⟩
  | some d =>
    dsimp only
    split
    · rename_i hl
      exact propext ⟨fun h => ⟨d, rfl, hl, h⟩, fun ⟨_, h, _, k⟩ => by cases h; exact k⟩
    · rename_i hl
      exact propext ⟨fun h => h.elim, fun ⟨_, h, k, _⟩ => (hl k).elim⟩
theorem w_setIx {i : Nat} {ds : List D} (h : ρ[i]? = some (some (.l ds))) : (sSetIx i fa fb ρ S).w K = (fa ρ S).w (fun e S1 => ∃ d, per e = some d ∧ (fb ρ S1).w (fun k S2 => ∃ z, k.int? = some z ∧ ∃ j, ixN ds.length z = some j ∧ K.nx (ρ.set i (some (.l (ds.set j d)))) S2) (fun C fs S1 => K.ex C fs ρ S1)) (fun C fs S1 => K.ex C fs ρ S1) := by
  unfold sSetIx
  rw [w_so]
  congr 1
  funext e S1
  cases per e with
  | none => exact propext ⟨fun h => h.elim, fun ⟨_, h, _⟩ => by cases h⟩
  | some d =>
    rw [h]
    dsimp only
    rw [w_so]
    refine Eq.trans ?_ (propext ⟨fun h => ⟨d, rfl, h⟩, fun ⟨_, h, k⟩ => by cases h; exact k⟩)
    congr 1
    funext k S2
    cases k.int? with
    | none => exact propext ⟨fun h => h.elim, fun ⟨_, h, _⟩ => by cases h⟩
    | some z =>
      dsimp only
      cases hj : ixN ds.length z with
      | none => exact propext ⟨fun h => h.elim, fun ⟨_, h, _, k, _⟩ => by cases h; rw [hj] at k; cases k⟩
      | some j => exact propext ⟨fun h => ⟨z, rfl, j, hj, h⟩, fun ⟨_, h, _, k, q⟩ => by cases h; rw [hj] at k; cases k; exact q⟩
theorem ixN_ok {n : Nat} {z : Int} (h0 : 0 ≤ z) (h1 : z < n) : ixN n z = some z.toNat := by
  unfold ixN
  rw [if_pos h0, if_pos h1]
theorem w_retV {i : Nat} {o : O} (h : ρ[i]? = some (some o)) : (sRetV i ρ S).w K = ∃ e, retO o = some e ∧ K.rt e S := by
  unfold sRetV
  rw [h]
  dsimp only
  cases retO o with
  | none => exact propext ⟨fun h => h.elim, fun ⟨_, h, _⟩ => by cases h⟩
  | some e => exact propext ⟨fun h => ⟨e, rfl, h⟩, fun ⟨_, h, k⟩ => by cases h; exact k⟩
@[simp] theorem retO_v {d : D} : retO (.v d) = some (.v d) := rfl
@[simp] theorem retO_l {d : List D} : retO (.l d) = some (.n d) := rfl
@[simp] theorem retO_d {d : List (Key × D)} : retO (.d d) = some (.nd d) := rfl
theorem w_aug {i : Nat} {d : D} {g : E → E → Option E} (h : ρ[i]? = some (some (.v d))) : (sAug i g fa ρ S).w K = (fa ρ S).w (fun e S1 => ∃ d', g (.v d) e = some (.v d') ∧ K.nx (ρ.set i (some (.v d'))) S1) (fun C fs S1 => K.ex C fs ρ S1) := by
  unfold sAug
  rw [h]
  dsimp only
  rw [w_so]
  congr 1
  funext e S1
  have e2 : ∀ o : Option E, (match o with | some (.v d') => SO.nx (ρ.set i (some (.v d'))) S1 | _ => .stk : SO).w K = ∃ d', o = some (.v d') ∧ K.nx (ρ.set i (some (.v d'))) S1 := fun o => by
    split
    · rename_i d'
      exact propext ⟨fun h => ⟨d', rfl, h⟩, fun ⟨_, h, k⟩ => by cases h; exact k⟩
    · rename_i hn
      exact propext ⟨fun h => h.elim, fun ⟨_, h, k⟩ => (hn _ h).elim⟩
  exact e2 _
end
@[simp] theorem w_itf {α : Type} {c : Prop} [Decidable c] {a b : Out α} {P : α → Dr → Prop} {X : PX} : (if c then a else b).w P X = if c then a.w P X else b.w P X := by split <;> rfl
end Dn
namespace Dn
@[simp] theorem rng_len {lo : Int} {n : Nat} : (rngD lo n).length = n := by unfold rngD; simp
end Dn

set_option Elab.async false
set_option linter.all false
set_option maxRecDepth 100000
set_option maxHeartbeats 4000000
namespace Dn
open PySem PySem.Spec PyProof.Rows L2

/-! ### in: lists, a sign in a text -/
section
variable {X : Cx} {W : WX} {B : Bs}
def gInA (neg : Bool) : E → E → Option E := fun x y => match gInL neg x y with
  | some e => some e
  | none => gInSg neg x y
theorem oj_inA : OpJ B (fun x y H Q => rInD B.K x y H Q ∨ ∃ (c : Nat) (z : Str), x = .str ⟨#[c]⟩ ∧ y = .str z ∧ Q (.bl (decide (c ∈ z.cps.toList))) H) (gInA false) := OpJ.or oj_inL oj_inSg
theorem oj_notInA : OpJ B (fun x y H Q => rNotInD B.K x y H Q ∨ ∃ (c : Nat) (z : Str), x = .str ⟨#[c]⟩ ∧ y = .str z ∧ Q (.bl (!decide (c ∈ z.cps.toList))) H) (gInA true) := OpJ.or oj_notInL oj_notInSg
theorem op_inA (hK : X.K = B.K) (hu : X.A.units + 65 < cLine) : OpR X (compareOp .In) (fun x y H Q => rInD B.K x y H Q ∨ ∃ (c : Nat) (z : Str), x = .str ⟨#[c]⟩ ∧ y = .str z ∧ Q (.bl (decide (c ∈ z.cps.toList))) H) := OpR.or (hK ▸ op_inD hu) op_in_sign
theorem op_notInA (hK : X.K = B.K) (hu : X.A.units + 65 < cLine) : OpR X (compareOp .NotIn) (fun x y H Q => rNotInD B.K x y H Q ∨ ∃ (c : Nat) (z : Str), x = .str ⟨#[c]⟩ ∧ y = .str z ∧ Q (.bl (!decide (c ∈ z.cps.toList))) H) := OpR.or (hK ▸ op_notInD hu) op_notIn_sign
end
@[simp] theorem gLtA_int {a b : Int} : gLtA (.v (.int a)) (.v (.int b)) = some (.v (.bl (decide (a < b)))) := rfl
theorem gLtA_tup {a b : List Int} : gLtA (.v (.tup (a.map D.int))) (.v (.tup (b.map D.int))) = some (.v (.bl (HT.lexLt a b))) := by
  show (match intsD (a.map D.int), intsD (b.map D.int) with | some ns, some ms => some (E.v (.bl (HT.lexLt ns ms))) | _, _ => none) = _
  rw [ints_map, ints_map]
@[simp] theorem itEs_t {c : Bool} {ds : List D} : itEs c (.v (.tup ds)) = some ds := rfl
@[simp] theorem itEs_l {c : Bool} {ds : List D} : itEs c (.v (.lst ds)) = some ds := rfl
@[simp] theorem itEs_n {c : Bool} {ds : List D} : itEs c (.n ds) = some ds := rfl
@[simp] theorem itEs_b {ds : List D} : itEs true (.b ds) = some ds := rfl
theorem itEs_s {c : Bool} {z : Str} : itEs c (.v (.str z)) = some (z.cps.toList.map fun c => D.str ⟨#[c]⟩) := rfl

/-! ### plain data -/
/-- plain data of depth below n -/
def Pl : Nat → D → Prop
  | 0, _ => False
  | _ + 1, .non => True
  | _ + 1, .bl _ => True
  | _ + 1, .int _ => True
  | _ + 1, .str x => SeqAt.shaped (.str x) = true
  | n + 1, .tup ds => (∀ d ∈ ds, Pl n d) ∧ ds.length ≤ sizeLine
  | n + 1, .lst ds => (∀ d ∈ ds, Pl n d) ∧ ds.length ≤ sizeLine
  | _ + 1, _ => False
/-- .. without truth values -/
def Pi : Nat → D → Prop
  | 0, _ => False
  | _ + 1, .non => True
  | _ + 1, .int _ => True
  | _ + 1, .str x => SeqAt.shaped (.str x) = true
  | n + 1, .tup ds => (∀ d ∈ ds, Pi n d) ∧ ds.length ≤ sizeLine
  | n + 1, .lst ds => (∀ d ∈ ds, Pi n d) ∧ ds.length ≤ sizeLine
  | _ + 1, _ => False
theorem pl_mono : ∀ {n m : Nat} {d : D}, Pl n d → n ≤ m → Pl m d
  | 0, _, _, h, _ => h.elim
  | n + 1, 0, _, _, l => by omega
  | n + 1, m + 1, d, h, l => by
    cases d <;> first | exact h.elim | exact trivial | exact h | skip
    · exact ⟨fun x k => pl_mono (h.1 x k) (by omega), h.2⟩
    · exact ⟨fun x k => pl_mono (h.1 x k) (by omega), h.2⟩
theorem pi_mono : ∀ {n m : Nat} {d : D}, Pi n d → n ≤ m → Pi m d
  | 0, _, _, h, _ => h.elim
  | n + 1, 0, _, _, l => by omega
  | n + 1, m + 1, d, h, l => by
    cases d <;> first | exact h.elim | exact trivial | exact h | skip
    · exact ⟨fun x k => pi_mono (h.1 x k) (by omega), h.2⟩
    · exact ⟨fun x k => pi_mono (h.1 x k) (by omega), h.2⟩
theorem Pi.pl : ∀ {n : Nat} {d : D}, Pi n d → Pl n d
  | 0, _, h => h.elim
  | n + 1, d, h => by
    cases d <;> first | exact h.elim | exact trivial | exact h | skip
    · exact ⟨fun x k => (h.1 x k).pl, h.2⟩
    · exact ⟨fun x k => (h.1 x k).pl, h.2⟩
theorem shaped_str {x : Str} (h : SeqAt.shaped (.str x) = true) : (PyData.str x).canLay0 = true := SeqAt.canLay_of_shaped h
theorem pyL_of {n : Nat} (ih : ∀ d : D, Pl n d → ∃ p, toPy d = some p ∧ p.canLay0 = true ∧ p.depth ≤ n) : ∀ ds : List D, (∀ d ∈ ds, Pl n d) → ∃ ps, toPyL ds = some ps ∧ PyData.canLayAll0 ps = true ∧ PyData.depthAll ps ≤ n
  | [], _ => ⟨[], rfl, rfl, Nat.zero_le _⟩
  | d :: ds, h => by
    obtain ⟨p, e, a, b⟩ := ih d (h d (by simp))
    obtain ⟨ps, e2, a2, b2⟩ := pyL_of ih ds fun z m => h z (by simp [m])
    refine ⟨p :: ps, by rw [toPyL, e, e2], by rw [PyData.canLayAll0, a, a2]; rfl, ?_⟩
    rw [PyData.depthAll]
    omega
theorem py_of : ∀ {n : Nat} (d : D), Pl n d → ∃ p, toPy d = some p ∧ p.canLay0 = true ∧ p.depth ≤ n
  | 0, _, h => h.elim
  | n + 1, d, h => by
    cases d with
    | non => exact ⟨.none, rfl, rfl, Nat.zero_le _⟩
    | bl b => exact ⟨.bool b, rfl, rfl, Nat.zero_le _⟩
    | int i => exact ⟨.int i, rfl, rfl, Nat.zero_le _⟩
    | str x => exact ⟨.str x, rfl, shaped_str h, Nat.zero_le _⟩
    | tup ds =>
      obtain ⟨ps, e, a, b⟩ := pyL_of (fun d => py_of d) ds h.1
      exact ⟨.tuple ps, by rw [toPy, e]; rfl, a, Nat.succ_le_succ b⟩
    | lst ds =>
      obtain ⟨ps, e, a, b⟩ := pyL_of (fun d => py_of d) ds h.1
      exact ⟨.list ps, by rw [toPy, e]; rfl, a, Nat.succ_le_succ b⟩
    | _ => exact h.elim
theorem shp_of {n : Nat} {p : PyData} (hn : n ≤ 64) (a : p.canLay0 = true) (b : p.depth ≤ n) : SeqAt.shaped p = true := by
  unfold SeqAt.shaped
  rw [a, Bool.true_and, decide_eq_true_eq]
  omega
/-- Python's == of plain data -/
def eqD (d1 d2 : D) : Bool := match toPy d1, toPy d2 with
  | some p, some q => PyData.eqv p q
  | _, _ => false
theorem E.py_v {d : D} : E.py (.v d) = toPy d := rfl
theorem E.py_l {e : E} {ds : List D} (h : e.ls = some ds) : e.py = toPy (.lst ds) := by
  cases e with
  | v d => cases d <;> simp [E.ls] at h; subst h; rfl
  | b ds => cases h; rfl
  | n ds => cases h; rfl
  | _ => cases h
theorem gCmpD_pl {n : Nat} {x y : E} {d1 d2 : D} {f : PyData → PyData → Bool} (hx : x.py = toPy d1) (hy : y.py = toPy d2) (h1 : Pl n d1) (h2 : Pl n d2) (hn : n ≤ 64) : ∃ p q, toPy d1 = some p ∧ toPy d2 = some q ∧ gCmpD f x y = some (.v (.bl (f p q))) := by
  obtain ⟨p, e1, a1, b1⟩ := py_of d1 h1
  obtain ⟨q, e2, a2, b2⟩ := py_of d2 h2
  refine ⟨p, q, e1, e2, ?_⟩
  unfold gCmpD
  rw [hx, hy, e1, e2]
  exact if_pos ⟨shp_of hn a1 b1, shp_of hn a2 b2⟩
theorem gEq_pl {n : Nat} {x y : E} {d1 d2 : D} (hx : x.py = toPy d1) (hy : y.py = toPy d2) (h1 : Pl n d1) (h2 : Pl n d2) (hn : n ≤ 64) : gEq x y = some (.v (.bl (eqD d1 d2))) := by
  obtain ⟨p, q, e1, e2, e⟩ := gCmpD_pl (f := PyData.eqv) hx hy h1 h2 hn
  unfold gEq eqD
  rw [e, e1, e2]
theorem gNe_pl {n : Nat} {x y : E} {d1 d2 : D} (hx : x.py = toPy d1) (hy : y.py = toPy d2) (h1 : Pl n d1) (h2 : Pl n d2) (hn : n ≤ 64) : gNe x y = some (.v (.bl (!eqD d1 d2))) := by
  obtain ⟨p, q, e1, e2, e⟩ := gCmpD_pl (f := fun p q => !PyData.eqv p q) hx hy h1 h2 hn
  unfold gNe eqD
  rw [e, e1, e2]
theorem gInL_pl {n : Nat} {neg : Bool} {x y : E} {d : D} {ds : List D} (hx : x.py = toPy d) (hy : y.ls = some ds) (h1 : Pl n d) (h2 : ∀ z ∈ ds, Pl n z) (hn : n < 64) : gInL neg x y = some (.v (.bl (if neg then !ds.any (fun z => eqD z d) else ds.any (fun z => eqD z d)))) := by
  obtain ⟨p, e1, a1, b1⟩ := py_of d h1
  obtain ⟨ps, e2, a2, b2⟩ := pyL_of (fun d => py_of d) ds h2
  unfold gInL
  rw [hx, E.py_l hy, e1, toPy, e2]
  dsimp only [Option.map]
  rw [if_pos ⟨shp_of (by omega) a1 b1, shp_of (n := n + 1) (by omega) a2 (Nat.succ_le_succ b2)⟩]
  have e3 : ∀ (ds : List D) ps, toPyL ds = some ps → ps.any (fun z => PyData.eqv z p) = ds.any fun z => eqD z d := fun ds => by
    induction ds with
    | nil => intro ps q; cases q; rfl
    | cons z zs ih =>
      intro ps q
      rw [toPyL] at q
      split at q
      · rename_i pz pzs q1 q2
        cases q
        rw [List.any_cons, List.any_cons, ih _ q2]
        congr 1
        unfold eqD
        rw [q1, e1]
      · cases q
  rw [e3 ds ps e2]
theorem gInA_pl {n : Nat} {neg : Bool} {x y : E} {d : D} {ds : List D} (hx : x.py = toPy d) (hy : y.ls = some ds) (h1 : Pl n d) (h2 : ∀ z ∈ ds, Pl n z) (hn : n < 64) : gInA neg x y = some (.v (.bl (if neg then !ds.any (fun z => eqD z d) else ds.any (fun z => eqD z d)))) := by
  unfold gInA
  rw [gInL_pl hx hy h1 h2 hn]
theorem eqvL_iff {n : Nat} (ih : ∀ {d1 d2 : D} {p q : PyData}, Pi n d1 → Pi n d2 → toPy d1 = some p → toPy d2 = some q → (PyData.eqv p q = true ↔ d1 = d2)) : ∀ {xs ys : List D} {ps qs : List PyData}, (∀ d ∈ xs, Pi n d) → (∀ d ∈ ys, Pi n d) → toPyL xs = some ps → toPyL ys = some qs → (PyData.eqvAll ps qs = true ↔ xs = ys)
  | [], [], ps, qs, _, _, e1, e2 => by cases e1; cases e2; simp [PyData.eqvAll]
  | [], y :: ys, ps, qs, _, _, e1, e2 => by
    cases e1
    simp only [toPyL] at e2
    split at e2
    · cases e2; simp [PyData.eqvAll]
    · cases e2
  | x :: xs, [], ps, qs, _, _, e1, e2 => by
    cases e2
    simp only [toPyL] at e1
    split at e1
    · cases e1; simp [PyData.eqvAll]
    · cases e1
  | x :: xs, y :: ys, ps, qs, h1, h2, e1, e2 => by
    simp only [toPyL] at e1 e2
    split at e1
    · rename_i p ps' p1 p2
      cases e1
      split at e2
      · rename_i q qs' q1 q2
        cases e2
        rw [PyData.eqvAll, Bool.and_eq_true, ih (h1 x (by simp)) (h2 y (by simp)) p1 q1, eqvL_iff ih (fun d m => h1 d (by simp [m])) (fun d m => h2 d (by simp [m])) p2 q2]
        simp
      · cases e2
    · cases e1
theorem py_tup {ds : List D} {p : PyData} (h : toPy (.tup ds) = some p) : ∃ ps, p = .tuple ps ∧ toPyL ds = some ps := by
  simp only [toPy, Option.map_eq_some_iff] at h
  obtain ⟨ps, a, b⟩ := h
  exact ⟨ps, b.symm, a⟩
theorem py_lst {ds : List D} {p : PyData} (h : toPy (.lst ds) = some p) : ∃ ps, p = .list ps ∧ toPyL ds = some ps := by
  simp only [toPy, Option.map_eq_some_iff] at h
  obtain ⟨ps, a, b⟩ := h
  exact ⟨ps, b.symm, a⟩
theorem py_non {p : PyData} (h : toPy .non = some p) : p = .none := by cases h; rfl
theorem py_int {i : Int} {p : PyData} (h : toPy (.int i) = some p) : p = .int i := by cases h; rfl
theorem py_str {i : Str} {p : PyData} (h : toPy (.str i) = some p) : p = .str i := by cases h; rfl
theorem eqv_iff : ∀ {n : Nat} {d1 d2 : D} {p q : PyData}, Pi n d1 → Pi n d2 → toPy d1 = some p → toPy d2 = some q → (PyData.eqv p q = true ↔ d1 = d2)
  | 0, _, _, _, _, h, _, _, _ => h.elim
  | n + 1, d1, d2, p, q, h1, h2, e1, e2 => by
    have ih := fun {d1 d2 : D} {p q : PyData} (a : Pi n d1) (b : Pi n d2) (c : toPy d1 = some p) (d : toPy d2 = some q) => eqv_iff a b c d
    cases d1 <;> first | exact h1.elim | skip
    all_goals cases d2 <;> first | exact h2.elim | skip
    all_goals first
      | obtain ⟨ps, rfl, a1⟩ := py_tup e1
      | obtain ⟨ps, rfl, a1⟩ := py_lst e1
      | obtain rfl := py_non e1
      | obtain rfl := py_int e1
      | obtain rfl := py_str e1
    all_goals first
      | obtain ⟨qs, rfl, a2⟩ := py_tup e2
      | obtain ⟨qs, rfl, a2⟩ := py_lst e2
      | obtain rfl := py_non e2
      | obtain rfl := py_int e2
      | obtain rfl := py_str e2
    all_goals first
      | (rw [PyData.eqv, eqvL_iff ih h1.1 h2.1 a1 a2]; simp; done)
      | simp [PyData.eqv]
theorem eqD_iff {n : Nat} {d1 d2 : D} (h1 : Pi n d1) (h2 : Pi n d2) : eqD d1 d2 = true ↔ d1 = d2 := by
  obtain ⟨p, e1, _⟩ := py_of d1 h1.pl
  obtain ⟨q, e2, _⟩ := py_of d2 h2.pl
  unfold eqD
  rw [e1, e2]
  exact eqv_iff h1 h2 e1 e2
end Dn

set_option Elab.async false
set_option linter.all false
set_option maxRecDepth 100000
set_option maxHeartbeats 4000000
namespace Dn
open PySem PySem.Spec PyProof.Rows L2 TL

/-! ### texts -/
/-- the signs of a text -/
def sg (x : Str) : List Nat := x.cps.toList
@[simp] theorem itEs_sg {c : Bool} {z : Str} : itEs c (.v (.str z)) = some ((sg z).map fun c => D.str ⟨#[c]⟩) := rfl
theorem sg_len (x : Str) : x.length = (sg x).length := len_tl x
theorem sg_app (x y : Str) : sg (x ++ y) = sg x ++ sg y := tl_append x y
@[simp] theorem sg_one {c : Nat} : sg ⟨#[c]⟩ = [c] := rfl
@[simp] theorem ex2 {α β : Type} {a : α} {b : β} {P : α → β → Prop} : (∃ x y, (a = x ∧ b = y) ∧ P x y) = P a b := propext ⟨fun ⟨_, _, ⟨e1, e2⟩, h⟩ => e1 ▸ e2 ▸ h, fun h => ⟨a, b, ⟨rfl, rfl⟩, h⟩⟩
/-- all its signs are signs -/
def Sh (x : Str) : Prop := SeqAt.shaped (.str x) = true
theorem sh_iff {x : Str} : Sh x ↔ ∀ c ∈ sg x, c < 1114112 := by
  unfold Sh SeqAt.shaped
  have e : (PyData.str x).canLay0 = x.cps.all (· < 0x110000) := rfl
  have d : (PyData.str x).depth = 0 := rfl
  rw [e, d, Bool.and_eq_true, ← Array.all_toList, List.all_eq_true]
  show (∀ c ∈ sg x, decide (c < 1114112) = true) ∧ decide (0 ≤ 64) = true ↔ _
  simp
@[simp] theorem gInA_sg {neg : Bool} {c : Nat} {z : Str} : gInA neg (.v (.str ⟨#[c]⟩)) (.v (.str z)) = some (.v (.bl (if neg then !decide (c ∈ sg z) else decide (c ∈ sg z)))) := rfl
theorem dig_mem (c : Nat) : c ∈ sg "0123456789" ↔ 48 ≤ c ∧ c ≤ 57 := by
  have e : sg "0123456789" = [48, 49, 50, 51, 52, 53, 54, 55, 56, 57] := by decide
  rw [e]
  simp
  omega
theorem ne_tup {x : Str} {y : Str} : (x = y) ↔ sg x = sg y := ⟨fun h => by rw [h], fun h => ext_tl h⟩
theorem eqD_str {x y : Str} : eqD (.str x) (.str y) = decide (sg x = sg y) := by
  show PyData.eqv (.str x) (.str y) = _
  rw [show PyData.eqv (.str x) (.str y) = (x == y) from by rw [PyData.eqv]]
  rw [Bool.eq_iff_iff, beq_iff_eq, decide_eq_true_iff]
  exact ne_tup
theorem gEq_str {x y : Str} (hx : Sh x) (hy : Sh y) : gEq (.v (.str x)) (.v (.str y)) = some (.v (.bl (decide (sg x = sg y)))) := by
  rw [gEq_pl (n := 1) (d1 := .str x) (d2 := .str y) rfl rfl hx hy (by omega), eqD_str]
@[simp] theorem gLen_str {x : Str} (h : (sg x).length ≤ 16777216) : gLen [.v (.str x)] = some (.v (.int ((sg x).length : Int))) := by
  have e : x.length = (sg x).length := sg_len x
  show (if x.length ≤ sizeLine then some (E.v (.int (x.length : Int))) else none) = _
  rw [if_pos (by rw [e, szl]; exact h), e]
theorem gIx_s0 {x : Str} {c : Nat} {r : List Nat} (h : sg x = c :: r) (hl : (sg x).length ≤ 16777216) : gIx (.v (.str x)) (.v (.int 0)) = some (.v (.str ⟨#[c]⟩)) := by
  have e : x.length = (sg x).length := sg_len x
  show (if x.length ≤ sizeLine then (atI (sg x) 0).map fun c => E.v (.str ⟨#[c]⟩) else none) = _
  rw [if_pos (by rw [e, szl]; exact hl), h]
  have : atI (c :: r) (((0 : Nat) : Int)) = some c := atI_nat rfl
  rw [show ((0 : Int)) = ((0 : Nat) : Int) from rfl, this]
  rfl
theorem gStrOf_nat {n : Nat} (h : n ≤ 1000000) : gStrOf [.v (.int (n : Int))] = some (.v (.str (Str.ofString (toString (n : Int))))) := by
  show (if ((n : Int)).natAbs.log2 < 1920 then _ else none) = _
  rw [if_pos]
  have : ((n : Int)).natAbs = n := by omega
  rw [this]
  by_cases h0 : n = 0
  · subst h0; decide
  · exact (Nat.log2_lt h0).mpr (Nat.lt_of_le_of_lt h (Nat.lt_of_lt_of_le (by decide : (1000000 : Nat) < 2 ^ 20) (Nat.pow_le_pow_right (by omega) (by omega))))
theorem gIntOf_str {x : Str} {n : Int} (h : PySem.intText? x = some n) (hl : (sg x).length ≤ 640) : gIntOf [.v (.str x)] = some (.v (.int n)) := by
  have e : x.length = (sg x).length := sg_len x
  show (match PySem.intText? x with | some n => if x.length ≤ 640 then some (E.v (.int n)) else none | none => none) = _
  rw [h]
  exact if_pos (by rw [e]; exact hl)
abbrev numS (n : Nat) : Str := Str.ofString (toString (n : Int))
theorem sg_num (n : Nat) : sg (numS n) = numL n := tl_num n
theorem numL_head : ∀ (n : Nat), 1 ≤ n → ∃ c r, numL n = c :: r ∧ c ≠ 48 := fun n => by
  induction n using Nat.strongRecOn with
  | _ n ih =>
    intro h1
    by_cases h : n < 10
    · rw [numL_lt h]
      exact ⟨_, _, rfl, by omega⟩
    · rw [numL_step (by omega)]
      obtain ⟨c, r, e, hc⟩ := ih (n / 10) (by omega) (by omega)
      rw [e]
      exact ⟨c, _, rfl, hc⟩
theorem sh_num (n : Nat) : Sh (numS n) := sh_iff.mpr fun c m => by
  rw [sg_num] at m
  have := numL_digits n c m
  omega
/-- the tag that signs write -/
def tagOf (cs : List Nat) : Option Nat := if cs ≠ [] ∧ cs.length ≤ 4 ∧ (cs.all fun c => decide (48 ≤ c) && decide (c ≤ 57)) = true ∧ cs.head? ≠ some 48 ∧ 1 ≤ NumText.digitsVal cs ∧ NumText.digitsVal cs ≤ 4094 then some (NumText.digitsVal cs) else none
theorem tagOf_some {cs : List Nat} {n : Nat} (h : tagOf cs = some n) : cs ≠ [] ∧ cs.length ≤ 4 ∧ NumText.AllDigits cs ∧ cs.head? ≠ some 48 ∧ 1 ≤ n ∧ n ≤ 4094 ∧ NumText.digitsVal cs = n := by
  unfold tagOf at h
  split at h
  · rename_i k
    cases h
    refine ⟨k.1, k.2.1, fun c m => ?_, k.2.2.2.1, k.2.2.2.2.1, k.2.2.2.2.2, rfl⟩
    have := List.all_eq_true.mp k.2.2.1 c m
    simpa using this
  · cases h
theorem tagOf_num {n : Nat} (h1 : 1 ≤ n) (h2 : n ≤ 4094) : tagOf (numL n) = some n := by
  unfold tagOf
  rw [numL_val, if_pos]
  refine ⟨numL_ne n, numL_len (by omega) (by omega), ?_, ?_, h1, h2⟩
  · rw [List.all_eq_true]
    intro c m
    have := numL_digits n c m
    simp [this.1, this.2]
  · obtain ⟨c, r, e, hc⟩ := numL_head n h1
    rw [e]
    simpa using hc
theorem intText_tag {x : Str} {n : Nat} (h : tagOf (sg x) = some n) : PySem.intText? x = some (n : Int) := by
  obtain ⟨h1, h2, h3, _, _, _, h7⟩ := tagOf_some h
  have e := intText_digits (x := x) h3 h1 (by rw [sg_len]; exact Nat.le_trans h2 (by omega))
  rw [show NumText.digitsVal x.cps.toList = n from h7] at e
  exact e
/-- join and split by one sign -/
theorem gSplit_str {x : Str} {c : Nat} (h : (sg x).length + 2 ≤ 16777216) : gSplit (.v (.str x)) (.v (.str ⟨#[c]⟩)) = some (.n ((Txt.split x ⟨#[c]⟩).map D.str)) := by
  have e : x.length = (sg x).length := sg_len x
  show (if _ then _ else _) = _
  rw [if_pos ⟨rfl, by rw [e, szl]; exact h⟩]
theorem strs_sum {ys : List Str} {k : Nat} (h : ∀ y ∈ ys, (sg y).length ≤ k) : (ys.map Str.length).sum ≤ k * ys.length := by
  induction ys with
  | nil => simp
  | cons y ys ih =>
    have h1 := h y (by simp)
    have h2 := ih fun z m => h z (by simp [m])
    rw [← sg_len] at h1
    simp only [List.map_cons, List.sum_cons, List.length_cons, Nat.mul_add]
    omega
theorem gJoin_strs {x : E} {ys : List Str} {z : Str} {k : Nat} (hx : x.ls = some (ys.map D.str) ∨ x = .v (.tup (ys.map D.str))) (h : ∀ y ∈ ys, (sg y).length ≤ k) (hl : k * ys.length + ys.length * (sg z).length ≤ 16777216) : gJoin (.v (.str z)) x = some (.v (.str (Txt.join z ys))) := by
  have hs := strs_sum h
  have ez : z.length = (sg z).length := sg_len z
  have e1 : (match x.ls with | some ds => some ds | none => x.tu) = some (ys.map D.str) := by
    rcases hx with h | rfl
    · rw [h]
    · rfl
  unfold gJoin
  show (match (match x.ls with | some ds => some ds | none => x.tu) with
    | some ds => match strsD ds with
      | some ys => if (ys.map Str.length).sum + ys.length * z.length ≤ 16777216 then some (E.v (.str (Txt.join z ys))) else none
      | none => none
    | none => none) = _
  rw [e1]
  dsimp only
  rw [strs_map]
  dsimp only
  rw [if_pos (by rw [ez]; omega)]
theorem join_len {z : Str} {ys : List Str} {k : Nat} (h : ∀ y ∈ ys, (sg y).length ≤ k) : (sg (Txt.join z ys)).length ≤ k * ys.length + ys.length * (sg z).length := by
  have := StrLaws.join_length_le z ys
  rw [join_eq, ← sg_len, ← sg_len]
  have h2 : (ys.map fun x => x.length).sum ≤ k * ys.length := strs_sum h
  omega
theorem join_mem {z : Str} : ∀ {ys : List Str} {c : Nat}, c ∈ sg (Txt.join z ys) → c ∈ sg z ∨ ∃ y ∈ ys, c ∈ sg y
  | [], c, h => by rw [join_eq] at h; simp [sg, Str.join, Str.empty] at h
  | [y], c, h => .inr ⟨y, by simp, h⟩
  | y :: w :: r, c, h => by
    rw [join_eq] at h
    have h : c ∈ sg (y ++ z ++ Str.join z (w :: r)) := h
    rw [show sg (y ++ z ++ Str.join z (w :: r)) = sg y ++ sg z ++ sg (Str.join z (w :: r)) by rw [← sg_app, ← sg_app]] at h
    rcases List.mem_append.mp h with h | h
    · rcases List.mem_append.mp h with h | h
      · exact .inr ⟨y, by simp, h⟩
      · exact .inl h
    · rcases join_mem (ys := w :: r) (by rw [join_eq]; exact h) with h | ⟨v, m, h⟩
      · exact .inl h
      · exact .inr ⟨v, by simp [List.mem_cons.mp m], h⟩
theorem split_join1 {c : Nat} (hc : c < 256) {ys : List Str} (hne : ys ≠ []) (hp : ∀ y ∈ ys, c ∉ sg y) : Txt.split (Txt.join ⟨#[c]⟩ ys) ⟨#[c]⟩ = ys :=
  split_join (y := ⟨#[c]⟩) (s := c) (S := []) rfl (by simp [hc]) hne hp
/-- the parts of a text hold no sign of their own -/
theorem split_mem {x : Str} {c : Nat} {p : Str} (h : p ∈ Txt.split x ⟨#[c]⟩) : ∀ a ∈ sg p, a ∈ sg x := by
  have e := StrLaws.join_split x ⟨#[c]⟩
  have aux : ∀ (ys : List Str) (p : Str), p ∈ ys → ∀ a ∈ sg p, a ∈ sg (Str.join ⟨#[c]⟩ ys) := fun ys => by
    induction ys with
    | nil => intro p m; cases m
    | cons y r ih =>
      intro p m a ha
      cases r with
      | nil => rw [List.mem_singleton.mp m] at ha; exact ha
      | cons w r =>
        have e2 : sg (Str.join ⟨#[c]⟩ (y :: w :: r)) = sg y ++ sg (⟨#[c]⟩ : Str) ++ sg (Str.join ⟨#[c]⟩ (w :: r)) := by rw [← sg_app, ← sg_app]; rfl
        rw [e2]
        rcases List.mem_cons.mp m with rfl | m
        · exact List.mem_append_left _ (List.mem_append_left _ ha)
        · exact List.mem_append_right _ (ih p m a ha)
  intro a ha
  have := aux _ p h a ha
  rw [e] at this
  exact this
theorem split_len {x : Str} {c : Nat} {p : Str} (h : p ∈ Txt.split x ⟨#[c]⟩) : (sg p).length ≤ (sg x).length := by
  have := PyProof.Rows.part_short h
  rw [sg_len, sg_len] at this
  exact this
end Dn

set_option Elab.async false
set_option linter.all false
set_option maxRecDepth 100000
set_option maxHeartbeats 4000000
namespace Dn
open PySem PySem.Spec PyProof.Rows L2 TL

section
variable {α : Type} {tgt : D → Env → Option Env} {ft : Env → Dr → Out Bool} {fe : Env → Dr → Out E} {ρ : Env} {S : Dr}
theorem lc_mapL (g h : α → D) : ∀ (l : List α), (∀ a ∈ l, ∃ ρ1, tgt (g a) ρ = some ρ1 ∧ (fe ρ1 S).w (fun e S2 => per e = some (h a) ∧ S2 = S) noX') → lcD tgt fYes fe ρ (l.map g) S = .ok (l.map h) S
  | [], _ => rfl
  | d :: ds, k => by
    obtain ⟨ρ1, e1, w⟩ := k d (by simp)
    have ih := lc_mapL g h ds fun d' m => k d' (by simp [m])
    rw [List.map_cons, lcD, e1]
    show ((fe ρ1 S).bind fun e S2 => match per e with
      | none => Out.stk
      | some x => (lcD tgt fYes fe ρ (ds.map g) S2).bind fun xs S3 => .ok (x :: xs) S3) = _
    cases q2 : fe ρ1 S with
    | stk => rw [q2] at w; exact w.elim
    | exc C fs S1 => rw [q2] at w; exact w.elim
    | ok e S2 =>
      rw [q2] at w
      obtain ⟨p, rfl⟩ := w
      show (match per e with
        | none => Out.stk
        | some x => (lcD tgt fYes fe ρ (ds.map g) S2).bind fun xs S3 => .ok (x :: xs) S3) = _
      rw [p]
      dsimp only
      rw [ih]
      rfl
theorem lc_filterL (p : α → Bool) (g h : α → D) : ∀ (l : List α), (∀ a ∈ l, ∃ ρ1, tgt (g a) ρ = some ρ1 ∧ (ft ρ1 S).w (fun c S1 => c = p a ∧ S1 = S) noX' ∧ (p a = true → (fe ρ1 S).w (fun e S2 => per e = some (h a) ∧ S2 = S) noX')) →
    lcD tgt ft fe ρ (l.map g) S = .ok ((l.filter p).map h) S
  | [], _ => rfl
  | d :: ds, k => by
    obtain ⟨ρ1, e1, w0, w⟩ := k d (by simp)
    have ih := lc_filterL p g h ds fun d' m => k d' (by simp [m])
    rw [List.map_cons, lcD, e1]
    dsimp only
    cases q : ft ρ1 S with
    | stk => rw [q] at w0; exact w0.elim
    | exc C fs S1 => rw [q] at w0; exact w0.elim
    | ok c S1 =>
      rw [q] at w0
      obtain ⟨rfl, rfl⟩ := w0
      cases hp : p d with
      | false =>
        show lcD tgt ft fe ρ (ds.map g) S1 = _
        rw [ih, List.filter_cons_of_neg (by simp [hp])]
      | true =>
        have w := w hp
        show ((fe ρ1 S1).bind fun e S2 => match per e with
          | none => Out.stk
          | some x => (lcD tgt ft fe ρ (ds.map g) S2).bind fun xs S3 => .ok (x :: xs) S3) = _
        cases q2 : fe ρ1 S1 with
        | stk => rw [q2] at w; exact w.elim
        | exc C fs S1 => rw [q2] at w; exact w.elim
        | ok e S2 =>
          rw [q2] at w
          obtain ⟨pe, rfl⟩ := w
          show (match per e with
            | none => Out.stk
            | some x => (lcD tgt ft fe ρ (ds.map g) S2).bind fun xs S3 => .ok (x :: xs) S3) = _
          rw [pe]
          dsimp only
          rw [ih, List.filter_cons_of_pos hp]
          rfl
theorem gAll_map {p : α → Bool} {l : List α} {x : O} (hx : x = .v (.lst (l.map fun a => .bl (p a))) ∨ x = .lt (l.map fun a => .bl (p a))) : gAll [x] = some (.v (.bl (l.all p))) := by
  have e : (l.map fun a => D.bl (p a)) = (l.map p).map D.bl := by rw [List.map_map]; rfl
  have e2 : (l.map p).all id = l.all p := by rw [List.all_map]; rfl
  rw [e] at hx
  rw [← e2]
  rcases hx with rfl | rfl
  · exact gAll_lst
  · show (match blsD ((l.map p).map D.bl) with | some cs => some (E.v (.bl (cs.all id))) | none => none) = _
    rw [bls_map]
theorem gAny_map {p : α → Bool} {l : List α} {x : O} (hx : x = .v (.lst (l.map fun a => .bl (p a))) ∨ x = .lt (l.map fun a => .bl (p a))) : gAny [x] = some (.v (.bl (l.any p))) := by
  have e : (l.map fun a => D.bl (p a)) = (l.map p).map D.bl := by rw [List.map_map]; rfl
  have e2 : (l.map p).any id = l.any p := by rw [List.any_map]; rfl
  rw [e] at hx
  rw [← e2]
  rcases hx with rfl | rfl
  · exact gAny_lst
  · show (match blsD ((l.map p).map D.bl) with | some cs => some (E.v (.bl (cs.any id))) | none => none) = _
    rw [bls_map]
end
theorem so_true {o : SO} (w : o.w ⟨fun _ _ => False, fun e S => e = .v (.bl true), fun _ _ => False, fun _ _ => False, fun _ _ _ _ => False⟩) : ∃ S', o = .rt (.v (.bl true)) S' := by
  cases o with
  | rt e S => cases w; exact ⟨S, rfl⟩
  | nx ρ S => exact w.elim
  | bk ρ S => exact w.elim
  | ct ρ S => exact w.elim
  | exc C fs ρ S => exact w.elim
  | stk => exact w.elim
end Dn

set_option Elab.async false
set_option linter.all false
set_option maxRecDepth 100000
set_option maxHeartbeats 4000000
namespace Dn
open PySem PySem.Spec PyProof.Rows L2 TL

/-! ### text * int -/
def repS (x : Str) (k : Nat) : Str := ⟨(List.replicate k x.cps).foldl (· ++ ·) #[]⟩
def rMulS : R2 := fun x y H Q => ∃ a k, x = .str a ∧ y = .int k ∧ 0 ≤ k ∧ k ≤ 1000 ∧ a.length ≤ 1000 ∧ (a.length == 0) = false ∧ Q (.str (repS a k.toNat)) H
theorem rep_len (x : Str) (k : Nat) : (repS x k).length = k * x.length := by
  have aux : ∀ (k : Nat) (acc : Array Nat), ((List.replicate k x.cps).foldl (· ++ ·) acc).size = acc.size + k * x.cps.size := fun k => by
    induction k with
    | zero => intro acc; simp
    | succ k ih =>
      intro acc
      rw [List.replicate_succ, List.foldl_cons, ih, Array.size_append, Nat.add_mul]
      omega
  have := aux k #[]
  simp at this
  exact this
theorem not_tooLong {n : Nat} (h : n ≤ 16777216) : PySem.Builtin.Str.tooLong n = false := by
  unfold PySem.Builtin.Str.tooLong
  rw [decide_eq_false_iff_not, sizeLine_eq]
  omega
theorem op_mulS {X : Cx} : OpR X (binaryOp .Mult) rMulS := by
  intro pins s σ H x y v u Q I rx ry h
  obtain ⟨a, k, rfl, rfl, h1, h2, h3, h4, q⟩ := h
  obtain ⟨t, rfl⟩ := rx
  obtain ⟨t', rfl⟩ := ry
  have hb : (a.length : Int) * k ≤ 1000000 := by
    have : (a.length : Int) * k ≤ 1000 * 1000 := Int.mul_le_mul (by omega) h2 (by omega) (by omega)
    omega
  have e1 : repS a 1 = a := by
    show (⟨#[] ++ a.cps⟩ : Str) = a
    rw [Array.empty_append]
  refine PySem.P.mul_str (by simp; omega) (fun _ _ => ?_) (fun _ _ => ?_) ?_
  · have h5 : (1000 : Int) ≤ (2 ^ 63 - 1) / k := Int.le_ediv_of_mul_le (by omega) (by omega)
    exact Int.not_lt.mpr (Int.le_trans (by omega : (a.length : Int) ≤ 1000) h5)
  · have e : ((a.length * k.toNat : Nat) : Int) = (a.length : Int) * k := by
      rw [Int.natCast_mul, Int.toNat_of_nonneg (by omega)]
    exact not_tooLong (by omega)
  · by_cases k0 : k < 1
    · rw [if_pos k0]
      have : k = 0 := by omega
      subst this
      exact ⟨by decide, .str (repS a 0), H, I.tok _, ⟨_, rfl⟩, q⟩
    · rw [if_neg k0]
      by_cases k1 : k = 1
      · subst k1
        rw [if_pos (by simp)]
        refine ⟨.str a, H, I, ⟨_, rfl⟩, ?_⟩
        rw [show (1 : Int).toNat = 1 from rfl, e1] at q
        exact q
      · rw [if_neg (by rw [h4]; simp; omega)]
        refine ⟨?_, .str (repS a k.toNat), H, I.tok _, ⟨_, rfl⟩, q⟩
        show (repS a k.toNat).length ≤ sizeLine
        rw [rep_len, sizeLine_eq]
        have e : ((k.toNat * a.length : Nat) : Int) = (a.length : Int) * k := by
          rw [Int.natCast_mul, Int.toNat_of_nonneg (by omega), Int.mul_comm]
        omega
def gMulS : E → E → Option E
  | .v (.str x), .v (.int k) => if 0 ≤ k ∧ k ≤ 1000 ∧ x.length ≤ 1000 ∧ (x.length == 0) = false then some (.v (.str (repS x k.toNat))) else none
  | _, _ => none
section
variable {X : Cx} {W : WX} {B : Bs} {bs : Hp × Hp} {Hs Hf H : Hp} {ρ : Env} {S : Dr} {σ : L2.St} {a b e : Expr} {fa fb : Env → Dr → Out E} {pos p2 : Pos}
theorem oj_mulS : OpJ B rMulS gMulS := fun bs σ H ρ S Hf Hs1 Hs2 x y e1 e2 e Q r h1 h2 q k => by
  unfold gMulS at q
  split at q
  · split at q
    · rename_i hc
      cases q
      cases h1.v_ok
      cases h2.v_ok
      exact ⟨_, _, rfl, rfl, hc.1, hc.2.1, hc.2.2.1, hc.2.2.2, VP.now r k (Rep.str _)⟩
    · cases q
  · cases q
/-- * of ints, lists, texts -/
def gMulA : E → E → Option E := fun x y => match gMul x y with
  | some e => some e
  | none => gMulS x y
theorem je_mulA (ha : JE X W B a fa) (hb : JE X W B b fb) : JE X W B (.BinOp a .Mult b pos) (fOp gMulA fa fb) :=
  je_op (OpR.or (OpR.or op_mul op_rep) op_mulS) (OpJ.or (OpJ.or oj_mulI oj_mulL) oj_mulS) ha hb
end
theorem sg_rep (x : Str) (k : Nat) : sg (repS x k) = (List.replicate k (sg x)).flatten := by
  have aux : ∀ (k : Nat) (acc : Array Nat), ((List.replicate k x.cps).foldl (· ++ ·) acc).toList = acc.toList ++ (List.replicate k x.cps.toList).flatten := fun k => by
    induction k with
    | zero => intro acc; simp
    | succ k ih =>
      intro acc
      rw [List.replicate_succ, List.foldl_cons, ih, List.replicate_succ, List.flatten_cons, Array.toList_append, List.append_assoc]
  show ((List.replicate k x.cps).foldl (· ++ ·) #[]).toList = _
  rw [aux]
  rfl
theorem gMulA_int {i j : Int} (h : CMul i j) : gMulA (.v (.int i)) (.v (.int j)) = some (.v (.int (i * j))) := by
  unfold gMulA
  rw [gMul_int h]
theorem gMulA_l {x : E} {ds : List D} {k : Int} (hx : x.ls = some ds) (hn : x.int? = none) (h : -(2 ^ 63) ≤ k ∧ k < 2 ^ 63 ∧ ds.length * k.toNat ≤ sizeLine) : gMulA x (.v (.int k)) = some (.n (List.replicate k.toNat ds).flatten) := by
  unfold gMulA
  rw [gMul_l hx hn h]
end Dn

set_option Elab.async false
set_option linter.all false
set_option maxRecDepth 100000
set_option maxHeartbeats 4000000
namespace Dn
open PySem PySem.Spec PyProof.Rows L2

/-! ### objects: __init__ -/
abbrev Bs.at (B : Bs) (a : Addr) : Bs := { B with me := a }
section
variable {B : Bs} {bs : Hp × Hp} {Hs Hf Hf' H H' : Hp} {ρ : Env} {S S' : Dr} {σ : L2.St} {a : Addr} {W : WX}
theorem DrR.at (d : DrR B Hf S H) : DrR (B.at a) Hf S H := ⟨d.dr, d.cl, d.rs, d.ne⟩
theorem DrR.un (d : DrR (B.at a) Hf S H) : DrR B Hf S H := ⟨d.dr, d.cl, d.rs, d.ne⟩
theorem Nx.at (n : Nx B Hf H Hf' H') : Nx (B.at a) Hf H Hf' H' := ⟨n.ex, n.exf, n.fr, n.go, n.nd⟩
theorem Nx.un (n : Nx (B.at a) Hf H Hf' H') : Nx B Hf H Hf' H' := ⟨n.ex, n.exf, n.fr, n.go, n.nd⟩
theorem er_at {v : V} {e : E} (h : ER B Hs Hf H v e) : ER (B.at a) Hs Hf H v e := by cases e <;> exact h
theorem er_un {v : V} {e : E} (h : ER (B.at a) Hs Hf H v e) : ER B Hs Hf H v e := by cases e <;> exact h
theorem as_at {vs : List V} {os : List O} (h : AsR B Hf H vs os) : AsR (B.at a) Hf H vs os := by
  induction h with
  | nil => exact .nil
  | cons h _ ih => exact .cons (by rename_i o _ _; cases o <;> exact h) ih
theorem as_un {vs : List V} {os : List O} (h : AsR (B.at a) Hf H vs os) : AsR B Hf H vs os := by
  induction h with
  | nil => exact .nil
  | cons h _ ih => exact .cons (by rename_i o _ _; cases o <;> exact h) ih
theorem ep_un {o : Out E} {Q : VK} (h : EPost (B.at a) W Hf σ H (erel (B.at a)) o Q) : EPost B W Hf σ H (erel B) o Q := by
  cases o with
  | ok e S => exact fun v Hf' H' n d z => h v Hf' H' n.at d.at (er_at z)
  | exc C fs S => exact fun dd Hf' H' n d x => h dd Hf' H' n.at d.at x
  | stk => exact h
end
/-- a def's promise within an __init__ -/
theorem fn_at {P : Program} {w : World} {K : PySem.W.Frag} {mg : Str → Option Value} {base : Heap} {k : Nat} {f : Addr} {fd : FuncData} {ps : List Str} {B : Bs} {n : Nat} {F : List O → Dr → Out E} (a : Addr) (G : FnOk P w K mg base (L2.CX P w) k f fd ps (spF B n F)) :
    FnOk P w K mg base (L2.CX P w) k f fd ps (spF (B.at a) n F) :=
  G.imp fun vs H Q E ⟨hl, os, S, Hf, hx, hn, d, z, q⟩ => ⟨hl, os, S, Hf, hx, hn, d.un, as_un z, ep_un q⟩

def putG (f : Str) (v : D) : List (Str × D) → List (Str × D)
  | [] => [(f, v)]
  | (g, x) :: r => if g = f then (g, v) :: r else (g, x) :: putG f v r
theorem RepF.put {K : PySem.W.Frag} {dr : Addr} {H : Hp} {f : Str} {v : V} {d : D} (h : Rep K dr H v d) : ∀ {vs : List (Str × V)} {ds : List (Str × D)}, RepF K dr H vs ds → RepF K dr H (putF f v vs) (putG f d ds)
  | _, _, .nil => .cons h .nil
  | _, _, .cons (k := k) h1 l => by
    unfold putF putG
    by_cases e : k = f
    · rw [if_pos e, if_pos e]; exact .cons h l
    · rw [if_neg e, if_neg e]; exact .cons h1 (RepF.put h l)
theorem RepF.length {K : PySem.W.Frag} {dr : Addr} {H : Hp} : ∀ {vs : List (Str × V)} {ds : List (Str × D)}, RepF K dr H vs ds → vs.length = ds.length
  | _, _, .nil => rfl
  | _, _, .cons _ l => by simp only [List.length_cons]; rw [RepF.length l]
/-- the wanted end of an __init__ of the object at a -/
def IEnd (B : Bs) (C a : Addr) (Hf H : Hp) (o : Out (List (Str × D))) (Q : VK) (E : XK) : Prop := match o with
  | .ok fs S' => ∀ Hf' H' dx fv, Nx B Hf (del H a) Hf' H' → DrR B Hf' S' H' → H' a = some (.ins C dx fv) → RepF B.K B.dr Hf' fv fs → Hf' a = none → Q .non H'
  | .exc C' fs S' => ∀ d Hf' H', Nx B Hf (del H a) Hf' H' → DrR B Hf' S' H' → ExR B Hf' H' C' fs d → E (.ref C') d H'
  | .stk => False
/-- the promise of an __init__: n arguments, self among them -/
def spI (B : Bs) (n : Nat) (F : Addr → List (Str × D) → List O → Dr → Out (List (Str × D))) : Sp := fun vs H Q E => vs.length = n ∧ ∃ a C dx fv fs vr os S Hf, vs = .ref a :: vr ∧ H a = some (.ins C dx fv) ∧ RepF B.K B.dr Hf fv fs ∧ Hf a = none ∧ a ≠ B.dr ∧ a ≠ B.rs ∧ Ex Hf H ∧
  (Hf B.dr = none ∧ Hf B.rs = none) ∧ DrR B Hf S H ∧ AsR B Hf (del H a) vr os ∧ IEnd B C a Hf H (F C fs os S) Q E
def startI (N : Nat) (C : Addr) (fs : List (Str × D)) (os : List O) : Env := some (.ob C fs) :: (os.map some ++ List.replicate (N - (os.length + 1)) none)
def runI (N : Nat) (g : Env → Dr → SO) : Addr → List (Str × D) → List O → Dr → Out (List (Str × D)) := fun C fs os S => match g (startI N C fs os) S with
  | .nx ρ S' => match ρ with
    | some (.ob C' fs') :: _ => if C' = C then .ok fs' S' else .stk
    | _ => .stk
  | .exc C' fs' _ S' => .exc C' fs' S'
  | _ => .stk
section
variable {B : Bs} {bs : Hp × Hp} {Hs Hf Hf' H H' : Hp} {ρ : Env} {S S' : Dr} {σ : L2.St} {a : Addr} {W : WX}
theorem start_ri {N : List Str} {vr : List V} {os : List O} {C dx : Addr} {fv : List (Str × V)} {fs : List (Str × D)} (ha : H a = some (.ins C dx fv)) (l : RepF B.K B.dr Hf fv fs) (fa : Hf a = none) (n1 : a ≠ B.dr) (n2 : a ≠ B.rs) (hx : Ex Hf H) (hn : Hf B.dr = none ∧ Hf B.rs = none)
    (d : DrR B Hf S H) (z : AsR B Hf (del H a) vr os) : R (B.at a) (Hf, del H a) Hf (startI N.length C fs os) S (L2.start N (.ref a :: vr)) H := by
  have at_ : ∀ {i : Nat} {o : O}, (startI N.length C fs os)[i]? = some (some o) → (i = 0 ∧ o = .ob C fs) ∨ ∃ j, i = j + 1 ∧ os[j]? = some o := fun {i o} h => by
    cases i with
    | zero => cases h; exact .inl ⟨rfl, rfl⟩
    | succ j =>
      refine .inr ⟨j, rfl, ?_⟩
      have h : (os.map some ++ List.replicate (N.length - (os.length + 1)) none)[j]? = some (some o) := h
      rw [List.getElem?_append] at h
      split at h
      · rw [List.getElem?_map] at h
        cases e : os[j]? with
        | none => rw [e] at h; cases h
        | some o' => rw [e] at h; cases h; rfl
      · rw [List.getElem?_replicate] at h
        split at h <;> cases h
  have hl := as_len z
  refine ⟨hx, Ex.refl _, fun b o h => .inl h, hn, fun b o h m1 m2 => ?_, ⟨?_, ?_⟩, d.at, ?_, fun i o h => ?_, fun i j oi oj b hi hj wi wj _ _ => ?_⟩
  · by_cases e : b = a
    · have h : del H a b = some o := h
      rw [e, del_same] at h; cases h
    · have h : del H a b = some o := h
      rw [del_ne e] at h; exact h
  · exact ⟨_, by show del H a B.dr = _; rw [del_ne (Ne.symm n1)]; exact d.dr⟩
  · exact ⟨_, by show del H a B.rs = _; rw [del_ne (Ne.symm n2)]; exact d.rs⟩
  · unfold startI L2.start
    simp [hl]
  · rcases at_ h with ⟨rfl, rfl⟩ | ⟨j, rfl, h'⟩
    · exact ⟨.ref a, rfl, rfl, dx, fv, ha, l, fa, del_same⟩
    · obtain ⟨v, e, s⟩ := as_get z h'
      refine ⟨v, ?_, ?_⟩
      · unfold L2.start
        have hl := (List.getElem?_eq_some_iff.mp e).1
        show ((vr.map some) ++ _)[j]? = _
        rw [List.getElem?_append_left (by rw [List.length_map]; exact hl), List.getElem?_map, e]
        rfl
      · cases o with
        | v d => exact s
        | lt ds => exact s
        | ld ds => exact s
        | l ds => exact s.elim
        | d ds => exact s.elim
        | x C fs => exact s.elim
        | ob C fs => exact s.elim
  · have no : ∀ {j : Nat} {o : O}, os[j]? = some o → o.own = true → False := fun {j o} e w => by
      obtain ⟨v, _, s⟩ := as_get z e
      cases o with
      | v d => cases w
      | lt d => cases w
      | ld d => cases w
      | x C fs => cases w
      | l d => exact s
      | d d => exact s
      | ob C fs => exact s
    rcases at_ hi with ⟨rfl, _⟩ | ⟨k, rfl, h⟩
    · rcases at_ hj with ⟨rfl, _⟩ | ⟨k, rfl, h⟩
      · rfl
      · exact (no h wj).elim
    · exact (no h wi).elim
theorem init_end {W : WX} {C : Addr} {g : Env → Dr → SO} {N : Nat} {fs : List (Str × D)} {os : List O} {D : Ends} {Q : VK} {E : XK} (q : IEnd B C a Hf H (runI N g C fs os S) Q E) (hnx : ∀ σ H, Q .non H → D.nx σ H) (hW : ∀ c d σ H, E c d H → W c d σ H) :
    SPost (B.at a) W (Hf, del H a) D (g (startI N C fs os) S) := by
  unfold runI at q
  cases qg : g (startI N C fs os) S with
  | nx ρ' S' =>
    rw [qg] at q
    dsimp only at q
    split at q
    · rename_i C' fs' tl
      split at q
      · rename_i e
        subst e
        intro σ' Hf' H' r'
        obtain ⟨v, e2, rfl, dx, fv, h1, h2, h3, h4⟩ := r'.sl 0 (.ob C' fs') rfl
        exact hnx _ _ (q Hf' H' dx fv r'.whole.un r'.drw.un h1 h2 h3)
      · exact q.elim
    · exact q.elim
  | rt e S' => rw [qg] at q; exact q.elim
  | exc C' fs' ρ' S' => rw [qg] at q; exact fun σ' dd Hf' H' r' x => hW _ _ _ _ (q dd Hf' H' r'.whole.un r'.drw.un x)
  | bk ρ' S' => rw [qg] at q; exact q.elim
  | ct ρ' S' => rw [qg] at q; exact q.elim
  | stk => rw [qg] at q; exact q.elim
/-- an __init__ keeps its promise -/
theorem ji_mk {P : Program} {w : World} {K : PySem.W.Frag} {mg : Str → Option Value} {base : Heap} {x qual : Str} {st : Stmt} {f : Addr} {fd : FuncData} {N ps : List Str} {k : Nat} {g : Env → Dr → SO} (F : Fun K x qual st f fd) (Sc : FnScope N ps (defScope st))
    (hbody : ∀ (a : Addr) (cdv : Value) (A : Around) (outer : List PySem.Env) (s : Shared) (H : Hp) (E : XK), Room k (A.deeper (envOfC qual (defScope st) s.heap.objs.size f cdv)) →
      JB (cxOf (L2.CX P w) P w K mg base N qual (defScope st) f cdv A outer s H E) (fun cls d _ H => E cls d H) (B.at a) (defBody st) g) : FnOk P w K mg base (L2.CX P w) (k + 1) f fd ps (spI B ps.length (runI N.length g)) := by
  refine F.okX Sc (fun vs H Q E h => h.1) fun cdv A outer s H vs Q E hr h => ?_
  obtain ⟨_, a, C, dx, fv, fs, vr, os, S, Hf, rfl, ha, l, fa, n1, n2, hx, hn, d, z, q⟩ := h
  refine ⟨tWSs _ (defBody st), pss_W, ?_⟩
  refine (hbody a cdv A outer s H E hr).go (Hf, del H a) (L2.start N (.ref a :: vr)) H (startI N.length C fs os) S Hf _ (start_ri ha l fa n1 n2 hx hn d z) ?_
  exact init_end q (fun _ _ h => h) fun _ _ _ _ h => h
/-- .. with keyword-only parameters -/
theorem ji_mkD {P : Program} {w : World} {K : PySem.W.Frag} {mg : Str → Option Value} {base : Heap} {x qual : Str} {params : Arguments} {body : List Stmt} {scope : Scope} {dvs : List V} {kws : List (Str × V)} {f : Addr} {fd : FuncData} {N ps : List Str} {k : Nat} {g : Env → Dr → SO}
    (F : FunD K x qual params body scope dvs kws f fd) (Sc : FnScope N ps scope)
    (hbody : ∀ (a : Addr) (cdv : Value) (A : Around) (outer : List PySem.Env) (s : Shared) (H : Hp) (E : XK), Room k (A.deeper (envOfC qual scope s.heap.objs.size f cdv)) →
      JB (cxOf (L2.CX P w) P w K mg base N qual scope f cdv A outer s H E) (fun cls d _ H => E cls d H) (B.at a) body g) : FnOk P w K mg base (L2.CX P w) (k + 1) f fd ps (spI B ps.length (runI N.length g)) := by
  refine F.ok Sc (fun vs H Q E h => h.1) fun cdv A outer s H vs Q E hr h => ?_
  obtain ⟨_, a, C, dx, fv, fs, vr, os, S, Hf, rfl, ha, l, fa, n1, n2, hx, hn, d, z, q⟩ := h
  refine ⟨tWSs _ body, pss_W, ?_⟩
  refine (hbody a cdv A outer s H E hr).go (Hf, del H a) (L2.start N (.ref a :: vr)) H (startI N.length C fs os) S Hf _ (start_ri ha l fa n1 n2 hx hn d z) ?_
  exact init_end q (fun _ _ h => h) fun _ _ _ _ h => h
end

/-! self.f = e -/
def sFldI (ok : Addr → Bool) (f : Str) (fa : Env → Dr → Out E) : Env → Dr → SO := fun ρ S => (fa ρ S).so ρ fun e S1 => match per e with
  | none => .stk
  | some d => match ρ[(0 : Nat)]? with
    | some (some (.ob C fs)) => if ok C = true ∧ fs.length < 1000 then .nx (ρ.set 0 (some (.ob C (putG f d fs)))) S1 else .stk
    | _ => .stk
section
variable {X : Cx} {W : WX} {B : Bs} {bs : Hp × Hp} {Hs Hf H : Hp} {ρ : Env} {S : Dr} {σ : L2.St} {a b e o : Expr} {es : List Expr} {fa fb fo : Env → Dr → Out E} {fr : Env → Dr → Out (List O)} {pos p2 : Pos} {D : Ends}
theorem js_fldI {ok : Addr → Bool} {x f : Str} {p pos' : Pos} (T : ∀ C, ok C = true → Cls X.K C ∧ NoAttr X.K C f) (ha : JE X W B a fa) (hN : X.N[0]? = some x := by rfl) (hv : Vis X.env.scope x := by first | exact Or.inl rfl | exact Or.inr (Or.inl rfl) | exact Or.inr (Or.inr rfl))
    (hd : (x == ("__debug__" : Str)) = false := by decide) (hcd : (x == ("__classdict__" : Str)) = false := by decide) (hs : swapsWith a (some (.Attribute (.Name x p) f pos')) pos.line X.env = pure false := by rfl) :
    JS X W B (.Assign [.Attribute (.Name x p) f pos'] a pos) (sFldI ok f fa) := JS.mk (ps_fld (pe_var hN hv hd hcd) pe_W hs) fun bs σ H ρ S Hf D r h => by
  show tW X a σ H fun y H1 => tVar 0 σ H1 fun x H2 => ∃ a C dx fs, x = .ref a ∧ H2 a = some (.ins C dx fs) ∧ Cls X.K C ∧ NoAttr X.K C f ∧ fs.length < 1000 ∧ D.nx σ (upd H2 a (.ins C dx (putF f y fs)))
  refine ha.so r h fun e1 S1 v H1 Hf1 r1 n1 z1 h1 => ?_
  cases q : per e1 with
  | none => rw [q] at h1; exact h1.elim
  | some d =>
    rw [q] at h1
    obtain ⟨Hf2, n2, x2, d2, z2⟩ := per_ok r1 n1 z1 q
    have r2 := r.next n2 d2
    dsimp only at h1
    split at h1
    · rename_i C fs e
      split at h1
      · rename_i hc
        obtain ⟨w, e2, rfl, dx, fv, k1, k2, k3, k4⟩ := r2.sl 0 _ e
        obtain ⟨c1, c2⟩ := T C hc.1
        refine ⟨_, e2, B.me, C, dx, fv, rfl, k1, c1, c2, by rw [RepF.length k2]; exact hc.2, ?_⟩
        exact h1 _ Hf2 _ (r2.mut e rfl e2 ⟨rfl, dx, _, upd_same, RepF.put z2 k2, k3, k4⟩ rfl)
      · exact h1.elim
    · exact h1.elim

theorem JA.bind0 {α β : Type} {rel : Hp → α → β → Hp → Hp → Prop} {Q : β → Hp → Prop} {k : List O → Dr → Out α} {P : List V → Hp → Prop} (ha : JA X W B es fr) (r : R B bs Hf ρ S σ H) (h : EPost B W Hf σ H rel ((fr ρ S).bind k) Q)
    (hk : ∀ os S1 vs H1 Hf1, R B bs Hf1 ρ S1 σ H1 → Nx B Hf H Hf1 H1 → AsR B Hf1 H1 vs os → EPost B W Hf σ H rel (k os S1) Q → P vs H1) : tWA X es σ H P := by
  refine ha.go bs σ H ρ S Hf P r ?_
  cases q : fr ρ S with
  | ok e1 S1 =>
    rw [q] at h
    exact fun v Hf1 H1 n d z => hk e1 S1 v H1 Hf1 (r.next n d) n z h
  | exc C fs S1 => rw [q] at h; exact h
  | stk => rw [q] at h; exact h
/-! ### C(..) -/
theorem run_makeS {CX : CXT} {k : Nat} {f C : Addr} {fd : FuncData} {ps : List Str} {sp : Sp} {E : XK} {pins : List (Addr × Obj)} {s : Shared} {Q : VK} {us : List Value} {vs : List V} (M : Mk X.K C f) (F : FnOk X.prog X.w X.K X.mg X.base CX k f fd ps sp) (hr : Room (k + 1) X.A) (hb : Binds X.K fd ps [])
    (hx : PassesAt CX X σ E) (I : Inv X pins σ H s) (r : Vals vs us)
    (h : ∀ x dx, H x = none → H dx = none → dx ≠ x → sp (.ref x :: vs) (upd (upd H dx (.own x)) x (.ins C dx [])) (fun v H2 => v = .non ∧ Q (.ref x) H2) E) :
    wpAny (model X.prog X.w) X.A (call (.ref C) us) (EP X pins σ Q) X.xe s := by
  have hq := h (s.heap.objs.size + 1) s.heap.objs.size (I.hok.fresh (Nat.le_succ _)) (I.hok.fresh (Nat.le_refl _)) (Nat.ne_of_lt (Nat.lt_succ_self _))
  have I2 := Inv.made (C := C) I
  have r2 : Vals (V.ref (s.heap.objs.size + 1) :: vs) (Value.ref (s.heap.objs.size + 1) :: us) := .cons rfl r
  have hl : (Value.ref (s.heap.objs.size + 1) :: us ++ []).length = ps.length := by
    have e := r2.length
    rw [F.len _ _ _ _ hq] at e
    rw [List.append_nil]
    exact e.symm
  have hb2 := hb { s with heap := (s.heap.push PySem.W.emptyDict).push (PySem.W.instObj C s.heap.objs.size) } (Value.ref (s.heap.objs.size + 1) :: us) I2.kIn hl
  rw [List.append_nil] at hb2
  refine wpAny_call (make_map (f := f) I.kIn M.makes M.init (beq_iff_eq.mp M.fn) (codeAny_mono (F.run _ X.stack _ _ ⟨Value.ref (s.heap.objs.size + 1) :: us, []⟩ (Value.ref (s.heap.objs.size + 1) :: us) _ _ E (hr.make C us [])
    (I2.env0.make C us []) hb2 r2 hq) fun r s' hq' => ?_))
  cases r with
  | error e => exact hx pins _ _ e s' I2 hq'
  | ok fl =>
    cases fl with
    | ret u =>
      obtain ⟨v, H', I3, rv, ev, q3⟩ := I2.after hq'
      subst ev
      exact ⟨rv, ⟨V.ref (s.heap.objs.size + 1), H', I3, rfl, q3⟩⟩
    | next => exact False.elim hq'
    | brk => exact False.elim hq'
    | cont => exact False.elim hq'
def tMakeS (C : Addr) (sp : Sp) (E : L2.St → XK) (t : TA) : TE := fun σ H Q => t σ H fun vs H1 => ∀ x dx, H1 x = none → H1 dx = none → dx ≠ x → sp (.ref x :: vs) (upd (upd H1 dx (.own x)) x (.ins C dx [])) (fun v H2 => v = .non ∧ Q (.ref x) H2) (E σ)
theorem pe_makeS {CX : CXT} {k : Nat} {f C : Addr} {fd : FuncData} {ps : List Str} {sp : Sp} {E : L2.St → XK} {x : Str} {p : Pos} {t : TA} (M : Mk X.K C f) (F : FnOk X.prog X.w X.K X.mg X.base CX k f fd ps sp) (hr : Room (k + 1) X.A) (hg : Gl X x) (hm : X.mg x = some (.ref C)) (hb : Binds X.K fd ps []) (hx : ∀ σ, PassesAt CX X σ (E σ))
    (ha : PA X (e :: es) t) (hdb : (x == ("__debug__" : Str)) = false := by decide) (he : starEach (e :: es) X.env = (false, eval e X.env) :: starEach es X.env := by rfl) (hpl : (backTo pos (starEach es X.env)).any (·.1) = false := by rfl) :
    PE X (.Call (.Name x p) (e :: es) [] pos) (tMakeS C sp E t) := by
  refine ⟨fun pins s σ H Q I h => ?_⟩
  refine wpAny_Call_Name_kw (ld_glob I hg hm ?_ hdb)
  refine PySem.W.callWith_K (h₀ := X.base) I.ok.mod.kin M.kp (thn (ha.run pos pins s σ H _ I h) fun us s1 ⟨vs, H1, I1, r, q⟩ => ⟨I1.kIn, ?_⟩) he hpl
  exact run_makeS M F hr hb (hx σ) I1 r q
/-- a new object's place -/
theorem make_ok {n : Nat} {F : Addr → List (Str × Dn.D) → List O → Dr → Out (List (Str × Dn.D))} {C x dx : Addr} {vs : List V} {os : List O} {Hf1 H1 : Hp} {S1 : Dr} {Q : VK} (r : R B bs Hf ρ S σ H) (n1 : Nx B Hf H Hf1 H1) (r1 : R B bs Hf1 ρ S1 σ H1) (z1 : AsR B Hf1 H1 vs os) (hl : os.length + 1 = n)
    (hx : H1 x = none) (hdx : H1 dx = none) (ne : dx ≠ x) (h : EPost B W Hf σ H (erel B) ((F C [] os S1).bind fun fs S2 => .ok (.v (.obj C fs)) S2) Q) :
    spI B n F (.ref x :: vs) (upd (upd H1 dx (.own x)) x (.ins C dx [])) (fun v H2 => v = .non ∧ Q (.ref x) H2) (WE W σ) := by
  obtain ⟨m1, m2⟩ := r1.dr_ne hx
  obtain ⟨l1, l2⟩ := r1.dr_ne hdx
  have fx := r1.freeH hx
  have fdx := r1.freeH hdx
  have keep : ∀ b o, H1 b = some o → b ≠ x ∧ b ≠ dx := fun b o e => ⟨ne_of_none e hx, ne_of_none e hdx⟩
  have e1 : ∀ b o, H1 b = some o → upd (upd H1 dx (.own x)) x (.ins C dx []) b = some o := fun b o e => by
    obtain ⟨a1, a2⟩ := keep b o e
    rw [upd_ne a1, upd_ne a2]; exact e
  have e2 : ∀ b o, H1 b = some o → del (upd (upd H1 dx (.own x)) x (.ins C dx [])) x b = some o := fun b o e => by
    rw [del_ne (keep b o e).1]; exact e1 b o e
  have n2 : Nx B Hf1 H1 Hf1 (del (upd (upd H1 dx (.own x)) x (.ins C dx [])) x) := ⟨Ex.refl _, fun b o e => e2 b o (r1.ex b o e), fun _ _ q => .inl q, fun b o e _ _ => e2 b o e, r1.nd⟩
  have d2 : DrR B Hf1 S1 (upd (upd H1 dx (.own x)) x (.ins C dx [])) := ⟨e1 _ _ r1.drw.dr, r1.drw.cl, e1 _ _ r1.drw.rs, r1.drw.ne⟩
  have z2 : AsR B Hf1 (del (upd (upd H1 dx (.own x)) x (.ins C dx [])) x) vs os := by
    have aux : ∀ {vs : List V} {os : List O}, AsR B Hf1 H1 vs os → AsR B Hf1 (del (upd (upd H1 dx (.own x)) x (.ins C dx [])) x) vs os := fun z => by
      induction z with
      | nil => exact .nil
      | cons h _ ih => exact .cons (h.next n2) ih
    exact aux z1
  refine ⟨by rw [List.length_cons, as_len z1]; exact hl, x, C, dx, [], [], vs, os, S1, Hf1, rfl, upd_same, .nil, fx, m1, m2, fun b o e => e1 b o (r1.ex b o e), r1.nd, d2, z2, ?_⟩
  cases q : F C [] os S1 with
  | stk => rw [q] at h; exact h.elim
  | exc C' fs' S2 =>
    rw [q] at h
    exact fun d Hf' H' n3 d3 x3 => h d Hf' H' (n1.trans (n2.trans n3)) d3 x3
  | ok fs S2 =>
    rw [q] at h
    intro Hf' H' dx' fv n3 d3 k1 k2 k3
    refine ⟨rfl, ?_⟩
    have n4 := n1.trans (n2.trans n3)
    have hx0 : H x = none := by
      cases e : H x with
      | none => rfl
      | some u =>
        obtain ⟨a1, a2⟩ : x ≠ B.dr ∧ x ≠ B.rs := ⟨m1, m2⟩
        rw [n1.go x u e a1 a2] at hx; cases hx
    obtain ⟨y1, y2, y3⟩ := froz (r.next n4 d3) n4 k1 m1 m2 k3 hx0
    exact h _ _ _ y1 y3 (.obj upd_same (k2.mono y2))
def fMake (C : Addr) (n : Nat) (F : Addr → List (Str × Dn.D) → List O → Dr → Out (List (Str × Dn.D))) (fr : Env → Dr → Out (List O)) : Env → Dr → Out E := fun ρ S => (fr ρ S).bind fun os S1 => if os.length + 1 = n then (F C [] os S1).bind fun fs S2 => .ok (.v (.obj C fs)) S2 else .stk
/-- C(e, ..) -/
theorem je_make {n : Nat} {F : Addr → List (Str × Dn.D) → List O → Dr → Out (List (Str × Dn.D))} {k : Nat} {f C : Addr} {fd : FuncData} {ps : List Str} {x : Str} {p : Pos} (M : Mk X.K C f) (G : FnOk X.prog X.w X.K X.mg X.base (L2.CX X.prog X.w) k f fd ps (spI B n F)) (hr : Room (k + 1) X.A) (hm : X.mg x = some (.ref C))
    (hb : Binds X.K fd ps []) (tk : Takes X W) (ha : JA X W B (e :: es) fr) (hg : Gl X x := by rfl) (hdb : (x == ("__debug__" : Str)) = false := by decide) (he : starEach (e :: es) X.env = (false, eval e X.env) :: starEach es X.env := by exact star_c rfl) (hpl : (backTo pos (starEach es X.env)).any (·.1) = false := by exact star_any rfl) :
    JE X W B (.Call (.Name x p) (e :: es) [] pos) (fMake C n F fr) := JE.mk (pe_makeS (E := WE W) M G hr hg hm hb (fun σ => passAt tk σ) pa_W hdb he hpl) fun bs σ H ρ S Hf Q r h => by
  show tWA X (e :: es) σ H fun vs H1 => _
  refine ha.bind0 r h fun os S1 vs H1 Hf1 r1 n1 z1 h1 => ?_
  split at h1
  · rename_i hl
    intro x dx hx hdx ne
    exact make_ok r n1 r1 z1 hl hx hdx ne h1
  · exact h1.elim
end
end Dn

set_option Elab.async false
set_option linter.all false
set_option maxRecDepth 100000
set_option maxHeartbeats 4000000
namespace Dn
open PySem PySem.Spec PyProof.Rows L2

/-! ### a frozen object's fields, methods, properties -/
section
variable {X : Cx} {W : WX} {B : Bs} {bs : Hp × Hp} {Hs Hf H : Hp} {ρ : Env} {S : Dr} {σ : L2.St} {a b e o : Expr} {es : List Expr} {fa fb fo : Env → Dr → Out E} {fr : Env → Dr → Out (List O)} {pos p2 : Pos} {D : Ends}
theorem rep_obj (hx : Ex Hf H) {v : V} {C : Addr} {fs : List (Str × Dn.D)} (h : Rep B.K B.dr Hf v (.obj C fs)) : ∃ a dx fv, v = .ref a ∧ H a = some (.ins C dx fv) ∧ RepF B.K B.dr Hf fv fs := by
  cases h with
  | obj h1 l => exact ⟨_, _, _, rfl, hx _ _ h1, l⟩
theorem lk_none {K : PySem.W.Frag} {dr : Addr} {f : Str} : ∀ {vs : List (Str × V)} {ds : List (Str × Dn.D)}, RepF K dr Hf vs ds → ds.lookup f = none → vs.lookup f = none
  | _, _, .nil, _ => rfl
  | _, _, .cons (k := k) h l, q => by
    rw [List.lookup_cons] at q ⊢
    cases e : f == k with
    | true => rw [e] at q; cases q
    | false => rw [e] at q; exact lk_none l q
def fFld (ok : Addr → Bool) (f : Str) (fo : Env → Dr → Out E) : Env → Dr → Out E := fun ρ S => (fo ρ S).bind fun x S1 => match x with
  | .v (.obj C fs) => if ok C = true then match fs.lookup f with
    | some d => .ok (.v d) S1
    | none => .stk else .stk
  | _ => .stk
theorem je_fld {ok : Addr → Bool} {f : Str} (T : ∀ C, ok C = true → Cls X.K C ∧ NoAttr X.K C f) (ho : JE X W B o fo) (hb : attributeBase o f X.env (eval o X.env) = eval o X.env := by rfl) : JE X W B (.Attribute o f pos) (fFld ok f fo) :=
  JE.mk (pe_fld pe_W hb) fun bs σ H ρ S Hf Q r h => by
    show tW X o σ H fun x H1 => ∃ a C dx fs v, x = .ref a ∧ H1 a = some (.ins C dx fs) ∧ Cls X.K C ∧ NoAttr X.K C f ∧ fs.lookup f = some v ∧ Q v H1
    refine ho.bind r h back_e fun e1 S1 v H1 Hf1 r1 n1 z1 h1 => ?_
    split at h1
    · rename_i C fs
      split at h1
      · rename_i hok
        split at h1
        · rename_i d ql
          obtain ⟨a, dx, fv, rfl, ha, l⟩ := rep_obj r1.ex z1.v_ok
          obtain ⟨u, lu, z⟩ := RepF.lookup f l ql
          obtain ⟨c1, c2⟩ := T C hok
          exact ⟨a, C, dx, fv, u, rfl, ha, c1, c2, lu, EPost.now r1 h1 z⟩
        · exact h1.elim
      · exact h1.elim
    · exact h1.elim

/-! methods -/
theorem pe_methS {CX : CXT} {k : Nat} {f C : Addr} {m : Str} {fd : FuncData} {ps : List Str} {sp : Sp} {E : L2.St → XK} {apos : Pos} {t : TA} {ta : TE} {pl : Sem Bool} (he : PE X o ta) (c : Cls X.K C) (hm : Meth X.K C m f) (F : FnOk X.prog X.w X.K X.mg X.base CX k f fd ps sp) (hr : Room k X.A) (hb : Binds X.K fd ps []) (hx : ∀ σ, PassesAt CX X σ (E σ)) (ha : PA X (e :: es) t)
    (hst : starEach (e :: es) X.env = (false, eval e X.env) :: starEach es X.env := by rfl) (hpl : (backTo pos (starEach es X.env)).any (·.1) = false := by rfl)
    (ht : eval (.Call (.Attribute o m apos) (e :: es) [] pos) X.env = (do
      let ov ← eval o X.env
      standAt apos.atName
      let (f, first) ← holding [ov] (getMethod ov m pl)
      callWith pos f first (backTo pos (starEach (e :: es) X.env)) (backToKw pos (keywordEach [] X.env))) := by rfl) :
    PE X (.Call (.Attribute o m apos) (e :: es) [] pos) (fun σ H Q => ta σ H fun x H1 => ∃ a dx fs, x = .ref a ∧ H1 a = some (.ins C dx fs) ∧ fs.lookup m = none ∧ t σ H1 fun vs H2 => sp (.ref a :: vs) H2 Q (E σ)) := by
  refine ⟨fun pins s σ H Q I h => ?_⟩
  refine PySem.W.methodCall_KW (pl := pl) (thn (he.run pins s σ H _ I h) fun u s1 ⟨x, H1, I1, rx, a, dx, fs, ex, ea, l, q⟩ => ?_) ht
  subst ex
  obtain rfl : u = Value.ref a := rx
  refine getmeth_ok I1 ea c hm l ?_
  refine PySem.W.callWith_K (first := [.ref a]) (h₀ := X.base) I.ok.mod.kin hm.kp (thn (ha.run pos pins s1 σ H1 _ I1 q) fun us s2 ⟨vs, H2, I2, r, q2⟩ => ⟨I2.kIn, ?_⟩) hst hpl
  exact run_fnSD (us := .ref a :: us) (vs := .ref a :: vs) (dvs := []) (ds := []) F hr hb .nil (hx σ) I2 (.cons rfl r) (by rw [List.append_nil]; exact q2)
theorem pe_methS0 {CX : CXT} {k : Nat} {f C : Addr} {m : Str} {fd : FuncData} {ps : List Str} {sp : Sp} {E : L2.St → XK} {apos : Pos} {ta : TE} {pl : Sem Bool} (he : PE X o ta) (c : Cls X.K C) (hm : Meth X.K C m f) (F : FnOk X.prog X.w X.K X.mg X.base CX k f fd ps sp) (hr : Room k X.A) (hb : Binds X.K fd ps []) (hx : ∀ σ, PassesAt CX X σ (E σ))
    (ht : eval (.Call (.Attribute o m apos) [] [] pos) X.env = (do
      let ov ← eval o X.env
      standAt apos.atName
      let (f, first) ← holding [ov] (getMethod ov m pl)
      callWith pos f first (backTo pos (starEach [] X.env)) (backToKw pos (keywordEach [] X.env))) := by rfl) :
    PE X (.Call (.Attribute o m apos) [] [] pos) (fun σ H Q => ta σ H fun x H1 => ∃ a dx fs, x = .ref a ∧ H1 a = some (.ins C dx fs) ∧ fs.lookup m = none ∧ sp [.ref a] H1 Q (E σ)) := by
  refine ⟨fun pins s σ H Q I h => ?_⟩
  refine PySem.W.methodCall_KW (pl := pl) (thn (he.run pins s σ H _ I h) fun u s1 ⟨x, H1, I1, rx, a, dx, fs, ex, ea, l, q⟩ => ?_) ht
  subst ex
  obtain rfl : u = Value.ref a := rx
  refine getmeth_ok I1 ea c hm l ?_
  exact PySem.W.callWith_K0 (first := [.ref a]) I1.kIn hm.kp (run_fnSD (us := [.ref a]) (vs := [.ref a]) (dvs := []) (ds := []) F hr hb .nil (hx σ) I1 (.cons rfl .nil) (by rw [List.append_nil]; exact q))
/-- the methods of the name m: by the class -/
abbrev MTab := Addr → Option (List O → Dr → Out E)
def fMeth (tab : MTab) (m : Str) (n : Nat) (fo : Env → Dr → Out E) (fr : Env → Dr → Out (List O)) : Env → Dr → Out E := fun ρ S => (fo ρ S).bind fun x S1 => match x with
  | .v (.obj C fs) => match tab C with
    | some F => if fs.lookup m = none then (fr ρ S1).bind fun os S2 => if os.length + 1 = n then F (.v (.obj C fs) :: os) S2 else .stk else .stk
    | none => .stk
  | _ => .stk
/-- a method of the class C, ready to be called from X -/
structure MOk (X : Cx) (B : Bs) (m : Str) (n : Nat) (C : Addr) (F : List O → Dr → Out E) : Prop where
  c : Cls X.K C
  ex : ∃ (k : Nat) (f : Addr) (fd : FuncData) (ps : List Str), Meth X.K C m f ∧ FnOk X.prog X.w X.K X.mg X.base (L2.CX X.prog X.w) k f fd ps (spF B n F) ∧ Room k X.A ∧ Binds X.K fd ps []
theorem je_meth {tab : MTab} {m : Str} {n : Nat} {apos : Pos} {pl : Sem Bool} (ho : JE X W B o fo) (T : ∀ C F, tab C = some F → MOk X B m n C F) (tk : Takes X W) (ha : JA X W B (e :: es) fr) {C0 : Addr} {F0 : List O → Dr → Out E} (h0 : tab C0 = some F0)
    (hst : starEach (e :: es) X.env = (false, eval e X.env) :: starEach es X.env := by exact star_c rfl) (hpl : (backTo pos (starEach es X.env)).any (·.1) = false := by exact star_any rfl)
    (ht : eval (.Call (.Attribute o m apos) (e :: es) [] pos) X.env = (do
      let ov ← eval o X.env
      standAt apos.atName
      let (f, first) ← holding [ov] (getMethod ov m pl)
      callWith pos f first (backTo pos (starEach (e :: es) X.env)) (backToKw pos (keywordEach [] X.env))) := by rfl) : JE X W B (.Call (.Attribute o m apos) (e :: es) [] pos) (fMeth tab m n fo fr) := by
  refine .of fun bs σ H ρ S Hf Q r h => ?_
  have one : ∀ C F, MOk X B m n C F → (∀ x S1, fo ρ S = .ok x S1 → (∃ fs, x = .v (.obj C fs) ∧ tab C = some F) ∨ fMeth tab m n fo fr ρ S = .stk) → tW X (.Call (.Attribute o m apos) (e :: es) [] pos) σ H Q := fun C F ⟨c, k, f, fd, ps, hm, G, hr, hb⟩ hC => by
    refine tW_of (pe_methS (E := WE W) pe_W c hm G hr hb (fun σ => passAt tk σ) pa_W hst hpl ht) ?_
    refine ho.go bs σ H ρ S Hf _ r ?_
    unfold fMeth at h hC
    cases q : fo ρ S with
    | stk => rw [q] at h; exact h.elim
    | exc C fs S1 => rw [q] at h; exact h
    | ok x S1 =>
      rcases hC x S1 q with ⟨fs, rfl, hF⟩ | hs
      · rw [q] at h
        have h : EPost B W Hf σ H (erel B) (match tab C with
          | some F => if fs.lookup m = none then (fr ρ S1).bind fun os S2 => if os.length + 1 = n then F (.v (.obj C fs) :: os) S2 else .stk else .stk
          | none => .stk) Q := h
        rw [hF] at h
        dsimp only at h
        split at h
        · rename_i hl
          intro v Hf1 H1 n1 d1 z1
          have r1 := r.next n1 d1
          have z1 : ER B H Hf1 H1 v (.v (.obj C fs)) := z1
          obtain ⟨a, dx, fv, rfl, ea, l⟩ := rep_obj r1.ex z1.v_ok
          refine ⟨a, dx, fv, rfl, ea, lk_none l hl, ?_⟩
          refine ha.bind r1 (EPost.step back_e n1 d1 h) back_e fun os S2 vs H2 Hf2 r2 n2 z2 h2 => ?_
          split at h2
          · rename_i hn
            exact useF r2 (.cons (show ArR B Hf2 H2 (.ref a) (.v (.obj C fs)) from z1.v_ok.mono n2.ex) z2) (by simpa using hn) h2
          · exact h2.elim
        · exact h.elim
      · rw [hs] at h; exact h.elim
  by_cases ht : ∃ C fs S1 F, fo ρ S = .ok (.v (.obj C fs)) S1 ∧ tab C = some F
  · obtain ⟨C, fs, S1, F, q, hF⟩ := ht
    exact one C F (T C F hF) fun x S1' q' => .inl ⟨fs, by rw [q] at q'; cases q'; rfl, hF⟩
  · refine one C0 F0 (T C0 F0 h0) fun x S1 q => .inr ?_
    unfold fMeth
    rw [q]
    cases x with
    | v d =>
      cases d with
      | obj C fs =>
        cases hF : tab C with
        | none =>
          show (match tab C with
            | some F => _
            | none => Out.stk : Out E) = .stk
          rw [hF]
        | some F => exact (ht ⟨C, fs, S1, F, q, hF⟩).elim
      | _ => rfl
    | _ => rfl
theorem je_meth0 {tab : MTab} {m : Str} {apos : Pos} {pl : Sem Bool} (ho : JE X W B o fo) (T : ∀ C F, tab C = some F → MOk X B m 1 C F) (tk : Takes X W) {C0 : Addr} {F0 : List O → Dr → Out E} (h0 : tab C0 = some F0)
    (ht : eval (.Call (.Attribute o m apos) [] [] pos) X.env = (do
      let ov ← eval o X.env
      standAt apos.atName
      let (f, first) ← holding [ov] (getMethod ov m pl)
      callWith pos f first (backTo pos (starEach [] X.env)) (backToKw pos (keywordEach [] X.env))) := by rfl) : JE X W B (.Call (.Attribute o m apos) [] [] pos) (fMeth tab m 1 fo aNil) := by
  refine .of fun bs σ H ρ S Hf Q r h => ?_
  have one : ∀ C F, MOk X B m 1 C F → (∀ x S1, fo ρ S = .ok x S1 → (∃ fs, x = .v (.obj C fs) ∧ tab C = some F) ∨ fMeth tab m 1 fo aNil ρ S = .stk) → tW X (.Call (.Attribute o m apos) [] [] pos) σ H Q := fun C F ⟨c, k, f, fd, ps, hm, G, hr, hb⟩ hC => by
    refine tW_of (pe_methS0 (E := WE W) pe_W c hm G hr hb (fun σ => passAt tk σ) ht) ?_
    refine ho.go bs σ H ρ S Hf _ r ?_
    unfold fMeth at h hC
    cases q : fo ρ S with
    | stk => rw [q] at h; exact h.elim
    | exc C fs S1 => rw [q] at h; exact h
    | ok x S1 =>
      rcases hC x S1 q with ⟨fs, rfl, hF⟩ | hs
      · rw [q] at h
        have h : EPost B W Hf σ H (erel B) (match tab C with
          | some F => if fs.lookup m = none then F [.v (.obj C fs)] S1 else .stk
          | none => .stk) Q := h
        rw [hF] at h
        dsimp only at h
        split at h
        · rename_i hl
          intro v Hf1 H1 n1 d1 z1
          have r1 := r.next n1 d1
          have z1 : ER B H Hf1 H1 v (.v (.obj C fs)) := z1
          obtain ⟨a, dx, fv, rfl, ea, l⟩ := rep_obj r1.ex z1.v_ok
          refine ⟨a, dx, fv, rfl, ea, lk_none l hl, ?_⟩
          exact useF r1 (.cons (show ArR B Hf1 H1 (.ref a) (.v (.obj C fs)) from z1.v_ok) .nil) rfl (EPost.step back_e n1 d1 h)
        · exact h.elim
      · rw [hs] at h; exact h.elim
  by_cases ht : ∃ C fs S1 F, fo ρ S = .ok (.v (.obj C fs)) S1 ∧ tab C = some F
  · obtain ⟨C, fs, S1, F, q, hF⟩ := ht
    exact one C F (T C F hF) fun x S1' q' => .inl ⟨fs, by rw [q] at q'; cases q'; rfl, hF⟩
  · refine one C0 F0 (T C0 F0 h0) fun x S1 q => .inr ?_
    unfold fMeth
    rw [q]
    cases x with
    | v d =>
      cases d with
      | obj C fs =>
        cases hF : tab C with
        | none =>
          show (match tab C with
            | some F => _
            | none => Out.stk : Out E) = .stk
          rw [hF]
        | some F => exact (ht ⟨C, fs, S1, F, q, hF⟩).elim
      | _ => rfl
    | _ => rfl
/-! properties: nothing is raised -/
structure POk (X : Cx) (B : Bs) (f : Str) (C : Addr) (F : List O → Dr → Out E) : Prop where
  c : Cls X.K C
  ex : ∃ (k : Nat) (p g : Addr) (fd : FuncData) (ps : List Str), PropOf X.K C f p g ∧ FnOk X.prog X.w X.K X.mg X.base (L2.CX X.prog X.w) k g fd ps (spF B 1 F) ∧ Room (k + 1) X.A ∧ Binds X.K fd ps []
def fProp (tab : MTab) (fo : Env → Dr → Out E) : Env → Dr → Out E := fun ρ S => (fo ρ S).bind fun x S1 => match x with
  | .v (.obj C fs) => match tab C with
    | some F => noExc (F [.v (.obj C fs)] S1)
    | none => .stk
  | _ => .stk
theorem je_prop {tab : MTab} {f : Str} (ho : JE X W B o fo) (T : ∀ C F, tab C = some F → POk X B f C F) {C0 : Addr} {F0 : List O → Dr → Out E} (h0 : tab C0 = some F0) (hab : attributeBase o f X.env (eval o X.env) = eval o X.env := by rfl) :
    JE X W B (.Attribute o f pos) (fProp tab fo) := by
  refine .of fun bs σ H ρ S Hf Q r h => ?_
  have one : ∀ C F, POk X B f C F → (∀ x S1, fo ρ S = .ok x S1 → (∃ fs, x = .v (.obj C fs) ∧ tab C = some F) ∨ fProp tab fo ρ S = .stk) → tW X (.Attribute o f pos) σ H Q := fun C F ⟨c, k, p, g, fd, ps, hp, G, hr, hb⟩ hC => by
    refine tW_of (pe_prop (E := fun _ _ _ => False) (dvs := []) pe_W c hp G hr hb .nil (passes_call (W := fun _ _ _ _ => False) (takes0 (X := X.nox)) fun _ _ _ _ z => z) hab) ?_
    refine ho.go bs σ H ρ S Hf _ r ?_
    unfold fProp at h hC
    cases q : fo ρ S with
    | stk => rw [q] at h; exact h.elim
    | exc C fs S1 => rw [q] at h; exact h
    | ok x S1 =>
      rcases hC x S1 q with ⟨fs, rfl, hF⟩ | hs
      · rw [q] at h
        have h : EPost B W Hf σ H (erel B) (match tab C with
          | some F => noExc (F [.v (.obj C fs)] S1)
          | none => .stk) Q := h
        rw [hF] at h
        dsimp only at h
        intro v Hf1 H1 n1 d1 z1
        have r1 := r.next n1 d1
        have z1 : ER B H Hf1 H1 v (.v (.obj C fs)) := z1
        obtain ⟨a, dx, fv, rfl, ea, l⟩ := rep_obj r1.ex z1.v_ok
        refine ⟨a, dx, fv, rfl, ea, ?_⟩
        have h2 := EPost.step back_e n1 d1 h
        cases qF : F [.v (.obj C fs)] S1 with
        | stk => rw [qF] at h2; exact h2.elim
        | exc C' fs' S2 => rw [qF] at h2; exact h2.elim
        | ok e2 S2 =>
          rw [qF] at h2
          refine ⟨rfl, [.v (.obj C fs)], S1, Hf1, r1.ex, r1.nd, r1.drw, .cons (show ArR B Hf1 H1 (.ref a) (.v (.obj C fs)) from z1.v_ok) .nil, ?_⟩
          rw [qF]
          exact fun v Hf' H' n d z => h2 v Hf' H' n d z
      · rw [hs] at h; exact h.elim
  by_cases ht : ∃ C fs S1 F, fo ρ S = .ok (.v (.obj C fs)) S1 ∧ tab C = some F
  · obtain ⟨C, fs, S1, F, q, hF⟩ := ht
    exact one C F (T C F hF) fun x S1' q' => .inl ⟨fs, by rw [q] at q'; cases q'; rfl, hF⟩
  · refine one C0 F0 (T C0 F0 h0) fun x S1 q => .inr ?_
    unfold fProp
    rw [q]
    cases x with
    | v d =>
      cases d with
      | obj C fs =>
        cases hF : tab C with
        | none =>
          show (match tab C with
            | some F => _
            | none => Out.stk : Out E) = .stk
          rw [hF]
        | some F => exact (ht ⟨C, fs, S1, F, q, hF⟩).elim
      | _ => rfl
    | _ => rfl

/-! ### keywords -/
def tWK (X : Cx) (kws : List Keyword) : TA := fun σ H Q => ∀ (pos : Pos) (pins : List (Addr × Obj)) (s : Shared), Inv X pins σ H s → wpAny (model X.prog X.w) X.A (evalAll ((backToKw pos (keywordEach kws X.env)).map (·.2))) (AP X pins σ Q) X.xe s
theorem pk_W {kws : List Keyword} : PK X kws (tWK X kws) := ⟨fun pos pins s _ _ _ I h => h pos pins s I⟩
structure JK (X : Cx) (W : WX) (B : Bs) (kws : List Keyword) (f : Env → Dr → Out (List O)) : Prop where
  of ::
  go : ∀ (bs : Hp × Hp) (σ : L2.St) (H : Hp) (ρ : Env) (S : Dr) (Hf : Hp) (Q : List V → Hp → Prop), R B bs Hf ρ S σ H → EPost B W Hf σ H (arel B) (f ρ S) Q → tWK X kws σ H Q
theorem jk_nil : JK X W B [] aNil := .of fun bs σ H ρ S Hf Q r h pos pins s I => (pk_nil (X := X)).run pos pins s σ H Q I (h [] Hf H r.nx0 r.drw .nil)
theorem JK.bind {kws : List Keyword} {α β : Type} {rel : Hp → α → β → Hp → Hp → Prop} {Q : β → Hp → Prop} {k : List O → Dr → Out α} {P : List V → Hp → Prop} (ha : JK X W B kws fr) (r : R B bs Hf ρ S σ H) (h : EPost B W Hf σ H rel ((fr ρ S).bind k) Q) (hb : Back B rel)
    (hk : ∀ os S1 vs H1 Hf1, R B bs Hf1 ρ S1 σ H1 → Nx B Hf H Hf1 H1 → AsR B Hf1 H1 vs os → EPost B W Hf1 σ H1 rel (k os S1) Q → P vs H1) : tWK X kws σ H P := by
  refine ha.go bs σ H ρ S Hf P r ?_
  cases q : fr ρ S with
  | ok e1 S1 =>
    rw [q] at h
    exact fun v Hf1 H1 n d z => hk e1 S1 v H1 Hf1 (r.next n d) n z (EPost.step hb n d h)
  | exc C fs S1 => rw [q] at h; exact h
  | stk => rw [q] at h; exact h
theorem jk_cons {kws : List Keyword} {nm : Option Str} {kpos : Pos} (ha : JE X W B e fa) (hr : JK X W B kws fr) : JK X W B (⟨nm, e, kpos⟩ :: kws) (aCons fa fr) := .of fun bs σ H ρ S Hf Q r h pos pins s I => by
  refine (pk_cons (X := X) pe_W pk_W).run pos pins s σ H Q I ?_
  show tW X e σ H fun x H1 => tWK X kws σ H1 fun xs H2 => Q (x :: xs) H2
  refine ha.bind0 r h fun e1 S1 v H1 Hf1 r1 n1 z1 h1 => ?_
  obtain ⟨Hf2, n2, x2, d2, z2⟩ := toO_ok r1 n1 z1
  have r2 : R B bs Hf2 ρ S1 σ H1 := r.next n2 d2
  refine hr.bind r2 (EPost.step back_a n2 d2 h1) back_a fun os S2 vs H2 Hf3 r3 n3 z3 h3 => ?_
  exact h3 _ Hf3 H2 r3.nx0 r3.drw (.cons (z2.next n3) z3)
end
end Dn

set_option Elab.async false
set_option linter.all false
set_option maxRecDepth 100000
set_option maxHeartbeats 4000000
namespace Dn
open PySem PySem.Spec PyProof.Rows L2

section
variable {X : Cx} {W : WX} {B : Bs} {bs : Hp × Hp} {Hs Hf Hf' H H' : Hp} {ρ : Env} {S : Dr} {σ : L2.St} {a b e o : Expr} {es : List Expr} {fa fb fo : Env → Dr → Out E} {fr fk : Env → Dr → Out (List O)} {pos p2 : Pos} {D : Ends}
theorem as_next (n : Nx B Hf H Hf' H') : ∀ {vs : List V} {os : List O}, AsR B Hf H vs os → AsR B Hf' H' vs os
  | _, _, .nil => .nil
  | _, _, .cons h l => .cons (h.next n) (as_next n l)
theorem as_append : ∀ {vs ws : List V} {os us : List O}, AsR B Hf H vs os → AsR B Hf H ws us → AsR B Hf H (vs ++ ws) (os ++ us)
  | _, _, _, _, .nil, m => m
  | _, _, _, _, .cons h l, m => .cons h (as_append l m)

/-! ### C(e, .., k = v, ..) -/
theorem run_makeKS {CX : CXT} {k n : Nat} {f C : Addr} {fd : FuncData} {ps ks : List Str} {sp : Sp} {E : XK} {g : List Value → List Value → List Value} {gV : List V → List V → List V} {pins : List (Addr × Obj)} {s : Shared} {Q : VK} {us ws : List Value} {vs zs : List V}
    (M : Mk X.K C f) (F : FnOk X.prog X.w X.K X.mg X.base CX k f fd ps sp) (hr : Room (k + 1) X.A) (hb : KBn X.K fd ps (n + 1) ks g gV) (hx : PassesAt CX X σ E)
    (I : Inv X pins σ H s) (r : Vals vs us) (rz : Vals zs ws) (l1 : vs.length = n) (l2 : zs.length = ks.length)
    (h : ∀ x dx, H x = none → H dx = none → dx ≠ x → sp (gV (.ref x :: vs) zs) (upd (upd H dx (.own x)) x (.ins C dx [])) (fun v H2 => v = .non ∧ Q (.ref x) H2) E) :
    wpAny (model X.prog X.w) X.A (call (.ref C) us (ks.zip ws)) (EP X pins σ Q) X.xe s := by
  have hq := h (s.heap.objs.size + 1) s.heap.objs.size (I.hok.fresh (Nat.le_succ _)) (I.hok.fresh (Nat.le_refl _)) (Nat.ne_of_lt (Nat.lt_succ_self _))
  have I2 := Inv.made (C := C) I
  have r1 : Vals (V.ref (s.heap.objs.size + 1) :: vs) (Value.ref (s.heap.objs.size + 1) :: us) := .cons rfl r
  have r2 := hb.rel r1 rz
  have n1 : (Value.ref (s.heap.objs.size + 1) :: us).length = n + 1 := by
    rw [List.length_cons, ← r.length, l1]
  refine wpAny_call (make_map (f := f) I.kIn M.makes M.init (beq_iff_eq.mp M.fn) (codeAny_mono (F.run _ X.stack _ _ ⟨Value.ref (s.heap.objs.size + 1) :: us, ks.zip ws⟩ (g (Value.ref (s.heap.objs.size + 1) :: us) ws) _ _ E (hr.make C us (ks.zip ws))
    (I2.env0.make C us (ks.zip ws)) (hb.to _ (Value.ref (s.heap.objs.size + 1) :: us) ws I2.kIn n1 (rz.length.symm.trans l2)) r2 hq) fun r s' hq' => ?_))
  cases r with
  | error e => exact hx pins _ _ e s' I2 hq'
  | ok fl =>
    cases fl with
    | ret u =>
      obtain ⟨v, H', I3, rv, ev, q3⟩ := I2.after hq'
      subst ev
      exact ⟨rv, ⟨V.ref (s.heap.objs.size + 1), H', I3, rfl, q3⟩⟩
    | next => exact False.elim hq'
    | brk => exact False.elim hq'
    | cont => exact False.elim hq'
theorem pe_makeKS {CX : CXT} {k n : Nat} {f C : Addr} {fd : FuncData} {ps ks : List Str} {sp : Sp} {E : L2.St → XK} {x : Str} {p : Pos} {kws : List Keyword} {t tk : TA} {g : List Value → List Value → List Value} {gV : List V → List V → List V}
    (M : Mk X.K C f) (F : FnOk X.prog X.w X.K X.mg X.base CX k f fd ps sp) (hr : Room (k + 1) X.A) (hg : Gl X x) (hm : X.mg x = some (.ref C)) (hb : KBn X.K fd ps (n + 1) ks g gV) (hx : ∀ σ, PassesAt CX X σ (E σ)) (ha : PA X (e :: es) t) (hkw : PK X kws tk)
    (hall : (backToKw pos (keywordEach kws X.env)).all (·.1.isSome) = true := by rfl) (hks : (backToKw pos (keywordEach kws X.env)).filterMap (·.1) = ks := by rfl) (hdb : (x == ("__debug__" : Str)) = false := by decide)
    (he : starEach (e :: es) X.env = (false, eval e X.env) :: starEach es X.env := by rfl) (hpl : ((backTo pos (starEach (e :: es) X.env)).any (·.1) || (backToKw pos (keywordEach kws X.env)).any (·.1.isNone)) = false := by rfl) :
    PE X (.Call (.Name x p) (e :: es) kws pos) (fun σ H Q => t σ H fun vs H1 => tk σ H1 fun zs H2 => vs.length = n ∧ zs.length = ks.length ∧ ∀ x dx, H2 x = none → H2 dx = none → dx ≠ x →
      sp (gV (.ref x :: vs) zs) (upd (upd H2 dx (.own x)) x (.ins C dx [])) (fun v H3 => v = .non ∧ Q (.ref x) H3) (E σ)) := by
  refine ⟨fun pins s σ H Q I h => ?_⟩
  refine wpAny_Call_Name_kw (ld_glob I hg hm ?_ hdb)
  refine PySem.W.callWith_KW (h₀ := X.base) I.ok.mod.kin M.kp hall (thn (ha.run pos pins s σ H _ I h) fun us s1 ⟨vs, H1, I1, r, q⟩ => ?_) hpl he
  refine thn (hkw.run pos pins s1 σ H1 _ I1 q) fun ws s2 ⟨zs, H2, I2, rz, l1, l2, q2⟩ => ⟨I2.kIn, ?_⟩
  rw [hks]
  exact run_makeKS M F hr hb (hx σ) I2 r rz l1 l2 q2
def fMakeK (C : Addr) (n m : Nat) (F : Addr → List (Str × Dn.D) → List O → Dr → Out (List (Str × Dn.D))) (gO : List O → List O → List O) (fr fk : Env → Dr → Out (List O)) : Env → Dr → Out E := fun ρ S => (fr ρ S).bind fun os S1 => (fk ρ S1).bind fun ks S2 =>
  if os.length = n ∧ ks.length = m then (F C [] (gO os ks) S2).bind fun fs S3 => .ok (.v (.obj C fs)) S3 else .stk
/-- where the arguments come, values and data -/
def GvO (n m l : Nat) (gV : List V → List V → List V) (gO : List O → List O → List O) : Prop :=
  ∀ (B : Bs) (Hf H : Hp) (v : V) (vs zs : List V) (os ks : List O), AsR B Hf H vs os → AsR B Hf H zs ks → os.length = n → ks.length = m → ∃ vr, gV (v :: vs) zs = v :: vr ∧ AsR B Hf H vr (gO os ks) ∧ (gO os ks).length + 1 = l
theorem je_makeK {n m l : Nat} {F : Addr → List (Str × Dn.D) → List O → Dr → Out (List (Str × Dn.D))} {gO : List O → List O → List O} {k : Nat} {f C : Addr} {fd : FuncData} {ps ks : List Str} {x : Str} {p : Pos} {kws : List Keyword} {g : List Value → List Value → List Value} {gV : List V → List V → List V}
    (M : Mk X.K C f) (G : FnOk X.prog X.w X.K X.mg X.base (L2.CX X.prog X.w) k f fd ps (spI B l F)) (hr : Room (k + 1) X.A) (hm : X.mg x = some (.ref C)) (hb : KBn X.K fd ps (n + 1) ks g gV) (hgo : GvO n m l gV gO) (hkl : ks.length = m) (tk : Takes X W) (ha : JA X W B (e :: es) fr) (hkw : JK X W B kws fk)
    (hg : Gl X x := by rfl) (hall : (backToKw pos (keywordEach kws X.env)).all (·.1.isSome) = true := by rfl) (hks : (backToKw pos (keywordEach kws X.env)).filterMap (·.1) = ks := by rfl) (hdb : (x == ("__debug__" : Str)) = false := by decide)
    (he : starEach (e :: es) X.env = (false, eval e X.env) :: starEach es X.env := by exact star_c rfl) (hpl : ((backTo pos (starEach (e :: es) X.env)).any (·.1) || (backToKw pos (keywordEach kws X.env)).any (·.1.isNone)) = false := by rfl) :
    JE X W B (.Call (.Name x p) (e :: es) kws pos) (fMakeK C n m F gO fr fk) := JE.mk (pe_makeKS (E := WE W) M G hr hg hm hb (fun σ => passAt tk σ) pa_W pk_W hall hks hdb he hpl) fun bs σ H ρ S Hf Q r h => by
  show tWA X (e :: es) σ H fun vs H1 => tWK X kws σ H1 fun zs H2 => _
  refine ha.bind0 r h fun os S1 vs H1 Hf1 r1 n1 z1 h1 => ?_
  refine hkw.go bs σ H1 ρ S1 Hf1 _ r1 ?_
  cases q : fk ρ S1 with
  | stk => rw [q] at h1; exact h1.elim
  | exc C' fs' S2 => rw [q] at h1; exact fun d Hf2 H2 n2 d2 x2 => h1 d Hf2 H2 (n1.trans n2) d2 x2
  | ok us S2 =>
    rw [q] at h1
    intro zs Hf2 H2 n2 d2 z2
    have h1 : EPost B W Hf σ H (erel B) (if os.length = n ∧ us.length = m then (F C [] (gO os us) S2).bind fun fs S3 => .ok (.v (.obj C fs)) S3 else .stk) Q := h1
    split at h1
    · rename_i hl
      have r2 := r1.next n2 d2
      have z1' := as_next n2 z1
      refine ⟨by rw [as_len z1]; exact hl.1, by rw [as_len z2, hl.2, hkl], fun y dx hy hdx ne => ?_⟩
      obtain ⟨vr, e1, zr, ll⟩ := hgo B Hf2 H2 (.ref y) vs zs os us z1' z2 hl.1 hl.2
      rw [e1]
      exact make_ok r (n1.trans n2) r2 zr ll hy hdx ne h1
    · exact h1.elim
/-- all parameters in order -/
theorem gvo_app {n m : Nat} : GvO n m (n + m + 1) (fun vs zs => vs ++ zs) (fun os ks => os ++ ks) := fun B Hf H v vs zs os ks h1 h2 l1 l2 => ⟨vs ++ zs, rfl, as_append h1 h2, by rw [List.length_append, l1, l2]⟩
/-- .. one None ahead of the keywords' -/
theorem gvo_non {n m : Nat} : GvO n m (n + m + 2) (fun vs zs => vs ++ (.non :: zs)) (fun os ks => os ++ (.v .non :: ks)) := fun B Hf H v vs zs os ks h1 h2 l1 l2 => ⟨vs ++ (.non :: zs), rfl, as_append h1 (.cons (show ArR B Hf H .non (.v .non) from Rep.non) h2), by simp; omega⟩

/-! ### a call of a local that holds a def -/
theorem pe_callLS {CX : CXT} {k i : Nat} {f : Addr} {fd : FuncData} {ps : List Str} {sp : Sp} {E : L2.St → XK} {x : Str} {p : Pos} {t : TA} (F : FnOk X.prog X.w X.K X.mg X.base CX k f fd ps sp) (hr : Room k X.A) (hN : X.N[i]? = some x) (hv : Vis X.env.scope x) (hk : PySem.W.keepIn X.K (.ref f) = true) (hb : Binds X.K fd ps []) (hx : ∀ σ, PassesAt CX X σ (E σ)) (ha : PA X (e :: es) t)
    (hdb : (x == ("__debug__" : Str)) = false := by decide) (hcd : (x == ("__classdict__" : Str)) = false := by decide)
    (he : starEach (e :: es) X.env = (false, eval e X.env) :: starEach es X.env := by rfl) (hpl : (backTo pos (starEach es X.env)).any (·.1) = false := by rfl) : PE X (.Call (.Name x p) (e :: es) [] pos) (fun σ H Q => σ[i]? = some (some (.ref f)) ∧ t σ H fun vs H1 => sp vs H1 Q (E σ)) := by
  refine ⟨fun pins s σ H Q I h => ?_⟩
  obtain ⟨hs, ht⟩ := h
  refine wpAny_Call_Name_kw (thn ((pe_var (pos := p) hN hv hdb hcd).run pins s σ H (fun v H1 => v = .ref f ∧ H1 = H) I ⟨.ref f, hs, rfl, rfl⟩) fun u s1 ⟨v, H1, I1, r1, q1⟩ => ?_)
  obtain ⟨rfl, rfl⟩ := q1
  cases r1
  refine PySem.W.callWith_K (h₀ := X.base) I.ok.mod.kin hk (thn (ha.run pos pins s1 σ _ _ I1 ht) fun us s2 ⟨vs, H2, I2, r, q⟩ => ⟨I2.kIn, ?_⟩) he hpl
  exact run_fnSD (dvs := []) (ds := []) F hr hb .nil (hx σ) I2 r (by rw [List.append_nil]; exact q)
structure LOk (X : Cx) (B : Bs) (n : Nat) (f : Addr) (F : List O → Dr → Out E) : Prop where
  ex : ∃ (k : Nat) (fd : FuncData) (ps : List Str), FnOk X.prog X.w X.K X.mg X.base (L2.CX X.prog X.w) k f fd ps (spF B n F) ∧ Room k X.A ∧ PySem.W.keepIn X.K (.ref f) = true ∧ Binds X.K fd ps []
def fCallL (i : Nat) (tab : MTab) (n : Nat) (fr : Env → Dr → Out (List O)) : Env → Dr → Out E := fun ρ S => match ρ[i]? with
  | some (some (.v (.ref a))) => match tab a with
    | some F => (fr ρ S).bind fun os S1 => if os.length = n then F os S1 else .stk
    | none => .stk
  | _ => .stk
theorem je_callL {i n : Nat} {tab : MTab} {x : Str} {p : Pos} (T : ∀ f F, tab f = some F → LOk X B n f F) (tk : Takes X W) (ha : JA X W B (e :: es) fr) (hN : X.N[i]? = some x := by rfl) (hv : Vis X.env.scope x := by first | exact Or.inl rfl | exact Or.inr (Or.inl rfl) | exact Or.inr (Or.inr rfl))
    (hdb : (x == ("__debug__" : Str)) = false := by decide) (hcd : (x == ("__classdict__" : Str)) = false := by decide)
    (he : starEach (e :: es) X.env = (false, eval e X.env) :: starEach es X.env := by exact star_c rfl) (hpl : (backTo pos (starEach es X.env)).any (·.1) = false := by exact star_any rfl) : JE X W B (.Call (.Name x p) (e :: es) [] pos) (fCallL i tab n fr) := by
  refine .of fun bs σ H ρ S Hf Q r h => ?_
  unfold fCallL at h
  split at h
  · rename_i a ea
    split at h
    · rename_i F hF
      obtain ⟨k, fd, ps, G, hr, hk, hb⟩ := (T a F hF).ex
      obtain ⟨v, e2, z⟩ := r.sl i _ ea
      have z : Rep B.K B.dr Hf v (.ref a) := z
      cases z
      refine tW_of (pe_callLS (E := WE W) G hr hN hv hk hb (fun σ => passAt tk σ) pa_W hdb hcd he hpl) ?_
      refine ⟨e2, ?_⟩
      refine ha.bind r h back_e fun os S1 vs H1 Hf1 r1 n1 z1 h1 => ?_
      split at h1
      · rename_i hl
        exact useF r1 z1 hl h1
      · exact h1.elim
    · exact h.elim
  · exact h.elim

/-! ### f() -/
theorem pe_callS0 {CX : CXT} {k : Nat} {f : Addr} {fd : FuncData} {ps : List Str} {sp : Sp} {E : L2.St → XK} {x : Str} {p : Pos} (F : FnOk X.prog X.w X.K X.mg X.base CX k f fd ps sp) (hr : Room k X.A) (hg : Gl X x) (hm : X.mg x = some (.ref f)) (hk : PySem.W.keepIn X.K (.ref f) = true) (hb : Binds X.K fd ps []) (hx : ∀ σ, PassesAt CX X σ (E σ))
    (hdb : (x == ("__debug__" : Str)) = false := by decide) : PE X (.Call (.Name x p) [] [] pos) (fun σ H Q => sp [] H Q (E σ)) := by
  refine ⟨fun pins s σ H Q I h => ?_⟩
  refine wpAny_Call_Name_kw (ld_glob I hg hm ?_ hdb)
  exact PySem.W.callWith_K0 I.kIn hk (run_fnSD (us := []) (vs := []) (dvs := []) (ds := []) F hr hb .nil (hx σ) I .nil h)
theorem je_call0 {F : List O → Dr → Out E} {k : Nat} {f : Addr} {fd : FuncData} {ps : List Str} {x : Str} {p : Pos} (G : FnOk X.prog X.w X.K X.mg X.base (L2.CX X.prog X.w) k f fd ps (spF B 0 F)) (hr : Room k X.A) (hm : X.mg x = some (.ref f)) (hk : PySem.W.keepIn X.K (.ref f) = true) (hb : Binds X.K fd ps [])
    (tk : Takes X W) (hg : Gl X x := by rfl) (hdb : (x == ("__debug__" : Str)) = false := by decide) : JE X W B (.Call (.Name x p) [] [] pos) (fUse 0 F aNil) :=
  JE.mk (pe_callS0 (E := WE W) G hr hg hm hk hb (fun σ => passAt tk σ) hdb) fun bs σ H ρ S Hf Q r h => useF r .nil rfl h
end
end Dn

set_option Elab.async false
set_option linter.all false
set_option maxRecDepth 100000
set_option maxHeartbeats 4000000
namespace Dn
open PySem PySem.Spec PyProof.Rows L2

/-! ### dicts -/
def dV (kvs : List (Key × Dn.D)) (k : Key) : Option Dn.D := (kvs.find? fun kv => decide (kv.1 = k)).map (·.2)
def dP (kvs : List (Key × Dn.D)) (k : Key) (d : Dn.D) : List (Key × Dn.D) :=
  if (kvs.any fun kv => decide (kv.1 = k)) = true then kvs.map (fun kv => if kv.1 = k then (kv.1, d) else kv) else kvs ++ [(k, d)]
section
variable {K : PySem.W.Frag} {dr : Addr} {H : Hp}
theorem RepK.length : ∀ {vs : List (Key × V)} {ds : List (Key × Dn.D)}, RepK K dr H vs ds → vs.length = ds.length
  | _, _, .nil => rfl
  | _, _, .cons _ l => by simp only [List.length_cons]; rw [l.length]
theorem RepK.val {k : Key} : ∀ {vs : List (Key × V)} {ds : List (Key × Dn.D)}, RepK K dr H vs ds → (dV ds k = none ∧ valV vs k = none) ∨ ∃ v d, dV ds k = some d ∧ valV vs k = some v ∧ Rep K dr H v d
  | _, _, .nil => .inl ⟨rfl, rfl⟩
  | _, _, .cons (k := j) (v := v) (d := d) h l => by
    by_cases e : j = k
    · exact .inr ⟨v, d, by simp [dV, e], by simp [valV, e], h⟩
    · rcases l.val (k := k) with ⟨h1, h2⟩ | ⟨v, d, h1, h2, h3⟩
      · refine .inl ⟨?_, ?_⟩
        · unfold dV at h1 ⊢; rw [List.find?_cons]; simp only [e, decide_false]; exact h1
        · rw [valV_neg e]; exact h2
      · refine .inr ⟨v, d, ?_, ?_, h3⟩
        · unfold dV at h1 ⊢; rw [List.find?_cons]; simp only [e, decide_false]; exact h1
        · rw [valV_neg e]; exact h2
theorem RepK.any {k : Key} : ∀ {vs : List (Key × V)} {ds : List (Key × Dn.D)}, RepK K dr H vs ds → (vs.any fun kv => decide (kv.1 = k)) = ds.any fun kv => decide (kv.1 = k)
  | _, _, .nil => rfl
  | _, _, .cons _ l => by simp only [List.any_cons]; rw [l.any]
theorem RepK.snoc {k : Key} {v : V} {d : Dn.D} (h : Rep K dr H v d) : ∀ {vs : List (Key × V)} {ds : List (Key × Dn.D)}, RepK K dr H vs ds → RepK K dr H (vs ++ [(k, v)]) (ds ++ [(k, d)])
  | _, _, .nil => .cons h .nil
  | _, _, .cons h1 l => .cons h1 (l.snoc h)
theorem RepK.mapP {k : Key} {v : V} {d : Dn.D} (h : Rep K dr H v d) : ∀ {vs : List (Key × V)} {ds : List (Key × Dn.D)}, RepK K dr H vs ds → RepK K dr H (vs.map fun kv => if kv.1 = k then (kv.1, v) else kv) (ds.map fun kv => if kv.1 = k then (kv.1, d) else kv)
  | _, _, .nil => .nil
  | _, _, .cons (k := j) h1 l => by
    rw [List.map_cons, List.map_cons]
    by_cases e : j = k
    · rw [if_pos e, if_pos e]; exact .cons h (l.mapP h)
    · rw [if_neg e, if_neg e]; exact .cons h1 (l.mapP h)
theorem RepK.put {k : Key} {v : V} {d : Dn.D} {vs : List (Key × V)} {ds : List (Key × Dn.D)} (l : RepK K dr H vs ds) (h : Rep K dr H v d) : RepK K dr H (putK vs k v) (dP ds k d) := by
  unfold putK dP
  rw [l.any]
  split
  · exact l.mapP h
  · exact l.snoc h
theorem RepK.keys : ∀ {vs : List (Key × V)} {ds : List (Key × Dn.D)}, RepK K dr H vs ds → vs.map (·.1) = ds.map (·.1)
  | _, _, .nil => rfl
  | _, _, .cons _ l => by simp only [List.map_cons]; rw [l.keys]
end
def E.key : E → Option Key
  | .v (.int i) => some (.inl i)
  | .v (.str x) => some (.inr x)
  | _ => none
def keyD : Key → Dn.D
  | .inl i => .int i
  | .inr x => .str x
theorem rep_key {K : PySem.W.Frag} {dr : Addr} {H : Hp} (k : Key) : Rep K dr H (kV k) (keyD k) := by
  cases k with
  | inl i => exact Rep.int i
  | inr x => exact Rep.str x
theorem ER.key {B : Bs} {Hs Hf H : Hp} {v : V} {e : E} {k : Key} (h : ER B Hs Hf H v e) (q : e.key = some k) : v = kV k := by
  cases e with
  | v d =>
    cases d <;> simp [E.key] at q
    · subst q; cases h; rfl
    · subst q; cases h; rfl
  | _ => cases q
section
variable {X : Cx} {W : WX} {B : Bs} {bs : Hp × Hp} {Hs Hf H : Hp} {ρ : Env} {S : Dr} {σ : L2.St} {a b c e : Expr} {fa fb fc : Env → Dr → Out E} {pos p2 : Pos}
/-- two rules for one operation -/
theorem JE.orOp {g g' : E → E → Option E} (h : JE X W B e (fOp g fa fb)) (h' : JE X W B e (fOp g' fa fb)) : JE X W B e (fOp (fun x y => match g x y with
    | some z => some z
    | none => g' x y) fa fb) := .of fun bs σ H ρ S Hf Q r q => by
  unfold fOp at q
  cases q1 : fa ρ S with
  | stk => rw [q1] at q; exact q.elim
  | exc C fs S1 => rw [q1] at q; exact h.go bs σ H ρ S Hf Q r (by unfold fOp; rw [q1]; exact q)
  | ok x S1 =>
    rw [q1] at q
    cases q2 : fb ρ S1 with
    | stk => simp only [Out.bind, q2] at q; exact q.elim
    | exc C fs S2 => simp only [Out.bind, q2] at q; exact h.go bs σ H ρ S Hf Q r (by unfold fOp; simp only [Out.bind, q1, q2]; exact q)
    | ok y S2 =>
      simp only [Out.bind, q2] at q
      cases q3 : g x y with
      | some z => rw [q3] at q; exact h.go bs σ H ρ S Hf Q r (by unfold fOp; simp only [Out.bind, q1, q2, q3]; exact q)
      | none => rw [q3] at q; exact h'.go bs σ H ρ S Hf Q r (by unfold fOp; simp only [Out.bind, q1, q2]; exact q)
theorem dgetR {H : Hp} {a : Addr} {kvs : List (Key × V)} {k : Key} (e : Rd H a (.dK kvs)) : DGet H a (kV k) (valV kvs k) := .inl ⟨kvs, k, e, rfl, rfl⟩
def gIxK : E → E → Option E := fun x y => match x.kd, y.key with
  | some kvs, some k => (dV kvs k).map .v
  | _, _ => none
theorem je_ixK (hu : X.A.units + 1 < cLine) (ha : JE X W B a fa) (hb : JE X W B b fb) (hs : NoSl b := by exact fun _ _ => rfl) : JE X W B (.Subscript a b pos) (fOp gIxK fa fb) :=
  JE.mk (pe_dget hu pe_W pe_W hs) fun bs σ H ρ S Hf Q R0 h => by
    show tW X a σ H fun x H1 => tW X b σ H1 fun y H2 => ∃ a v, x = .ref a ∧ DGet H2 a y (some v) ∧ Q v H2
    refine ha.bind R0 h back_e fun e1 S1 v H1 Hf1 r1 n1 z1 h1 => ?_
    refine hb.bind r1 h1 back_e fun e2 S2 v2 H2 Hf2 r2 n2 z2 h2 => ?_
    cases q : gIxK e1 e2 with
    | none => rw [q] at h2; exact h2.elim
    | some e =>
      rw [q] at h2
      unfold gIxK at q
      split at q
      · rename_i kvs k q1 q2
        simp only [Option.map_eq_some_iff] at q
        obtain ⟨d, q, rfl⟩ := q
        obtain ⟨p, vs, rfl, hp, l⟩ := (z1.next r1 n2).kd r2 q1
        cases z2.key q2
        rcases l.val (k := k) with ⟨k1, _⟩ | ⟨u, d', k1, k2, k3⟩
        · rw [q] at k1; cases k1
        · rw [q] at k1
          cases k1
          exact ⟨p, u, rfl, k2 ▸ dgetR hp, h2 _ Hf2 H2 r2.nx0 r2.drw k3⟩
      · cases q
def gIxA (x y : E) : Option E := match gIx x y with
  | some z => some z
  | none => gIxK x y
theorem je_ixA (hu : X.A.units + 1 < cLine) (hK : X.K = B.K) (ha : JE X W B a fa) (hb : JE X W B b fb) (hs : PlainIx b := by exact fun _ _ => rfl) (hs2 : NoSl b := by exact fun _ _ => rfl) : JE X W B (.Subscript a b pos) (fOp gIxA fa fb) :=
  JE.orOp (je_ix hK ha hb hs) (je_ixK hu ha hb hs2)
/-- k in d -/
def gInK (neg : Bool) : E → E → Option E := fun x y => match y.kd, x.key with
  | some kvs, some k => some (.v (.bl (if neg then !(dV kvs k).isSome else (dV kvs k).isSome)))
  | _, _ => none
theorem dget_k {e1 e2 : E} {H2 Hs1 Hs2 Hf2 : Hp} {S2 : Dr} {v v2 : V} {kvs : List (Key × Dn.D)} {k : Key} (r2 : R B bs Hf2 ρ S2 σ H2) (z1 : ER B Hs1 Hf2 H2 v e1) (z2 : ER B Hs2 Hf2 H2 v2 e2) (q1 : e2.kd = some kvs) (q2 : e1.key = some k) :
    ∃ p o, v2 = .ref p ∧ DGet H2 p v o ∧ o.isSome = (dV kvs k).isSome := by
  obtain ⟨p, vs, rfl, hp, l⟩ := z2.kd r2 q1
  cases z1.key q2
  refine ⟨p, valV vs k, rfl, dgetR hp, ?_⟩
  rcases l.val (k := k) with ⟨k1, k2⟩ | ⟨u, d', k1, k2, _⟩
  · rw [k1, k2]; rfl
  · rw [k1, k2]; rfl
theorem je_inK (hu : X.A.units + 1 < cLine) (ha : JE X W B a fa) (hb : JE X W B b fb) (h1 : behindInMarks .In b = false := by first | exact nobehind _ (by decide) (by decide) | exact nomark _ | rfl | (with_unfolding_all rfl)) : JE X W B (.Compare a [.In] [b] pos) (fOp (gInK false) fa fb) :=
  JE.mk (pe_cmp (pc_din hu pe_W pe_W) h1) fun bs σ H ρ S Hf Q R0 h => by
    show tW X a σ H fun y H1 => tW X b σ H1 fun x H2 => ∃ a o, x = .ref a ∧ DGet H2 a y o ∧ Q (.bl o.isSome) H2
    refine ha.bind R0 h back_e fun e1 S1 v H1 Hf1 r1 n1 z1 h1 => ?_
    refine hb.bind r1 h1 back_e fun e2 S2 v2 H2 Hf2 r2 n2 z2 h2 => ?_
    cases q : gInK false e1 e2 with
    | none => rw [q] at h2; exact h2.elim
    | some e =>
      rw [q] at h2
      unfold gInK at q
      split at q
      · rename_i kvs k q1 q2
        cases q
        obtain ⟨p, o, rfl, k1, k2⟩ := dget_k r2 (z1.next r1 n2) z2 q1 q2
        exact ⟨p, o, rfl, k1, by rw [k2]; exact h2 _ Hf2 H2 r2.nx0 r2.drw (Rep.bl _)⟩
      · cases q
theorem je_notInK (hu : X.A.units + 1 < cLine) (ha : JE X W B a fa) (hb : JE X W B b fb) (h1 : behindInMarks .NotIn b = false := by first | exact nobehind _ (by decide) (by decide) | exact nomark _ | rfl | (with_unfolding_all rfl)) : JE X W B (.Compare a [.NotIn] [b] pos) (fOp (gInK true) fa fb) :=
  JE.mk (pe_cmp (pc_dnotin hu pe_W pe_W) h1) fun bs σ H ρ S Hf Q R0 h => by
    show tW X a σ H fun y H1 => tW X b σ H1 fun x H2 => ∃ a o, x = .ref a ∧ DGet H2 a y o ∧ Q (.bl (!o.isSome)) H2
    refine ha.bind R0 h back_e fun e1 S1 v H1 Hf1 r1 n1 z1 h1 => ?_
    refine hb.bind r1 h1 back_e fun e2 S2 v2 H2 Hf2 r2 n2 z2 h2 => ?_
    cases q : gInK true e1 e2 with
    | none => rw [q] at h2; exact h2.elim
    | some e =>
      rw [q] at h2
      unfold gInK at q
      split at q
      · rename_i kvs k q1 q2
        cases q
        obtain ⟨p, o, rfl, k1, k2⟩ := dget_k r2 (z1.next r1 n2) z2 q1 q2
        exact ⟨p, o, rfl, k1, by rw [k2]; exact h2 _ Hf2 H2 r2.nx0 r2.drw (Rep.bl _)⟩
      · cases q
def gInD (neg : Bool) (x y : E) : Option E := match gInA neg x y with
  | some z => some z
  | none => gInK neg x y
theorem je_inD (hK : X.K = B.K) (hu : X.A.units + 65 < cLine) (ha : JE X W B a fa) (hb : JE X W B b fb) (hm : behindInMarks .In b = false := by first | exact nomark _ | rfl | (with_unfolding_all rfl)) : JE X W B (.Compare a [.In] [b] pos) (fOp (gInD false) fa fb) :=
  JE.orOp (je_cmp (op_inA hK hu) oj_inA ha hb hm) (je_inK (by omega) ha hb hm)
theorem je_notInD (hK : X.K = B.K) (hu : X.A.units + 65 < cLine) (ha : JE X W B a fa) (hb : JE X W B b fb) (hm : behindInMarks .NotIn b = false := by first | exact nomark _ | rfl | (with_unfolding_all rfl)) : JE X W B (.Compare a [.NotIn] [b] pos) (fOp (gInD true) fa fb) :=
  JE.orOp (je_cmp (op_notInA hK hu) oj_notInA ha hb hm) (je_notInK (by omega) ha hb hm)
theorem JT.orOp {g g' : E → E → Option E} (h : JT X W B e (fTst (fOp g fa fb))) (h' : JT X W B e (fTst (fOp g' fa fb))) : JT X W B e (fTst (fOp (fun x y => match g x y with
    | some z => some z
    | none => g' x y) fa fb)) := .of fun bs σ H ρ S Hf Q r q => by
  unfold fTst fOp at q
  cases q1 : fa ρ S with
  | stk => rw [q1] at q; exact q.elim
  | exc C fs S1 => rw [q1] at q; exact h.go bs σ H ρ S Hf Q r (by unfold fTst fOp; rw [q1]; exact q)
  | ok x S1 =>
    rw [q1] at q
    cases q2 : fb ρ S1 with
    | stk => simp only [Out.bind, q2] at q; exact q.elim
    | exc C fs S2 => simp only [Out.bind, q2] at q; exact h.go bs σ H ρ S Hf Q r (by unfold fTst fOp; simp only [Out.bind, q1, q2]; exact q)
    | ok y S2 =>
      simp only [Out.bind, q2] at q
      cases q3 : g x y with
      | some z => rw [q3] at q; exact h.go bs σ H ρ S Hf Q r (by unfold fTst fOp; simp only [Out.bind, q1, q2, q3]; exact q)
      | none => rw [q3] at q; exact h'.go bs σ H ρ S Hf Q r (by unfold fTst fOp; simp only [Out.bind, q1, q2]; exact q)
theorem jt_inK (hu : X.A.units + 1 < cLine) (ha : JE X W B a fa) (hb : JE X W B b fb) (h1 : behindInMarks .In b = false := by first | exact nobehind _ (by decide) (by decide) | exact nomark _ | rfl | (with_unfolding_all rfl)) : JT X W B (.Compare a [.In] [b] pos) (fTst (fOp (gInK false) fa fb)) :=
  JT.mk (pt_cmp (pc_din hu pe_W pe_W) h1) fun bs σ H ρ S Hf Q R0 h => by
    show tW X a σ H fun y H1 => tW X b σ H1 fun x H2 => ∃ a o, x = .ref a ∧ DGet H2 a y o ∧ ∃ c, V.bl o.isSome = .bl c ∧ Q c H2
    refine ha.bind (k := fun x S1 => ((fb ρ S1).bind fun y S2 => Out.of (gInK false x y) S2).bind fun e S1 => Out.of e.bl? S1) (Q := Q) R0 (by
      unfold fTst fOp at h
      cases q : fa ρ S with
      | ok e1 S1 => rw [q] at h; exact h
      | exc C fs S1 => rw [q] at h; exact h
      | stk => rw [q] at h; exact h) back_t fun e1 S1 v H1 Hf1 r1 n1 z1 h1 => ?_
    refine hb.bind (k := fun y S2 => (Out.of (gInK false e1 y) S2).bind fun e S1 => Out.of e.bl? S1) (Q := Q) r1 (by
      cases q : fb ρ S1 with
      | ok e2 S2 => rw [q] at h1; exact h1
      | exc C fs S2 => rw [q] at h1; exact h1
      | stk => rw [q] at h1; exact h1) back_t fun e2 S2 v2 H2 Hf2 r2 n2 z2 h2 => ?_
    cases q : gInK false e1 e2 with
    | none => rw [q] at h2; exact h2.elim
    | some e =>
      rw [q] at h2
      unfold gInK at q
      split at q
      · rename_i kvs k q1 q2
        cases q
        obtain ⟨p, o, rfl, k1, k2⟩ := dget_k r2 (z1.next r1 n2) z2 q1 q2
        exact ⟨p, o, rfl, k1, _, rfl, by rw [k2]; exact EPost.nowT r2 h2⟩
      · cases q
theorem jt_notInK (hu : X.A.units + 1 < cLine) (ha : JE X W B a fa) (hb : JE X W B b fb) (h1 : behindInMarks .NotIn b = false := by first | exact nobehind _ (by decide) (by decide) | exact nomark _ | rfl | (with_unfolding_all rfl)) : JT X W B (.Compare a [.NotIn] [b] pos) (fTst (fOp (gInK true) fa fb)) :=
  JT.mk (pt_cmp (pc_dnotin hu pe_W pe_W) h1) fun bs σ H ρ S Hf Q R0 h => by
    show tW X a σ H fun y H1 => tW X b σ H1 fun x H2 => ∃ a o, x = .ref a ∧ DGet H2 a y o ∧ ∃ c, V.bl (!o.isSome) = .bl c ∧ Q c H2
    refine ha.bind (k := fun x S1 => ((fb ρ S1).bind fun y S2 => Out.of (gInK true x y) S2).bind fun e S1 => Out.of e.bl? S1) (Q := Q) R0 (by
      unfold fTst fOp at h
      cases q : fa ρ S with
      | ok e1 S1 => rw [q] at h; exact h
      | exc C fs S1 => rw [q] at h; exact h
      | stk => rw [q] at h; exact h) back_t fun e1 S1 v H1 Hf1 r1 n1 z1 h1 => ?_
    refine hb.bind (k := fun y S2 => (Out.of (gInK true e1 y) S2).bind fun e S1 => Out.of e.bl? S1) (Q := Q) r1 (by
      cases q : fb ρ S1 with
      | ok e2 S2 => rw [q] at h1; exact h1
      | exc C fs S2 => rw [q] at h1; exact h1
      | stk => rw [q] at h1; exact h1) back_t fun e2 S2 v2 H2 Hf2 r2 n2 z2 h2 => ?_
    cases q : gInK true e1 e2 with
    | none => rw [q] at h2; exact h2.elim
    | some e =>
      rw [q] at h2
      unfold gInK at q
      split at q
      · rename_i kvs k q1 q2
        cases q
        obtain ⟨p, o, rfl, k1, k2⟩ := dget_k r2 (z1.next r1 n2) z2 q1 q2
        exact ⟨p, o, rfl, k1, _, rfl, by rw [k2]; exact EPost.nowT r2 h2⟩
      · cases q
theorem jt_inD (hK : X.K = B.K) (hu : X.A.units + 65 < cLine) (ha : JE X W B a fa) (hb : JE X W B b fb) (hm : behindInMarks .In b = false := by first | exact nomark _ | rfl | (with_unfolding_all rfl)) : JT X W B (.Compare a [.In] [b] pos) (fTst (fOp (gInD false) fa fb)) :=
  JT.orOp (jt_cmp (op_inA hK hu) oj_inA ha hb hm) (jt_inK (by omega) ha hb hm)
theorem jt_notInD (hK : X.K = B.K) (hu : X.A.units + 65 < cLine) (ha : JE X W B a fa) (hb : JE X W B b fb) (hm : behindInMarks .NotIn b = false := by first | exact nomark _ | rfl | (with_unfolding_all rfl)) : JT X W B (.Compare a [.NotIn] [b] pos) (fTst (fOp (gInD true) fa fb)) :=
  JT.orOp (jt_cmp (op_notInA hK hu) oj_notInA ha hb hm) (jt_notInK (by omega) ha hb hm)
end
end Dn

set_option Elab.async false
set_option linter.all false
set_option maxRecDepth 100000
set_option maxHeartbeats 4000000
namespace Dn
open PySem PySem.Spec PyProof.Rows L2

section
variable {X : Cx} {W : WX} {B : Bs} {bs : Hp × Hp} {Hs Hf H : Hp} {ρ : Env} {S : Dr} {σ : L2.St} {a b c e o : Expr} {es : List Expr} {fa fb fc fo : Env → Dr → Out E} {fr : Env → Dr → Out (List O)} {pos p2 : Pos} {st : Stmt} {g : Env → Dr → SO}

/-! ### {k: v}, d.get(k, x) -/
theorem JE.bindX {α β : Type} {rel : Hp → α → β → Hp → Hp → Prop} {Q : β → Hp → Prop} {k : E → Dr → Out α} {P : VK} {H0 Hf0 : Hp} (ha : JE X W B e fa) (m0 : Nx B Hf H Hf0 H0) (r : R B bs Hf0 ρ S σ H0) (h : EPost B W Hf σ H rel ((fa ρ S).bind k) Q)
    (hk : ∀ e1 S1 v H1 Hf1, R B bs Hf1 ρ S1 σ H1 → Nx B Hf0 H0 Hf1 H1 → ER B H0 Hf1 H1 v e1 → EPost B W Hf σ H rel (k e1 S1) Q → P v H1) : tW X e σ H0 P := by
  refine ha.go bs σ H0 ρ S Hf0 P r ?_
  cases q : fa ρ S with
  | ok e1 S1 =>
    rw [q] at h
    exact fun v Hf1 H1 n d z => hk e1 S1 v H1 Hf1 (r.next n d) n z h
  | exc C fs S1 => rw [q] at h; exact fun d Hf' H' n => h d Hf' H' (m0.trans n)
  | stk => rw [q] at h; exact h
def fDict1 (fk fv : Env → Dr → Out E) : Env → Dr → Out E := fun ρ S => (fk ρ S).bind fun y S1 => (fv ρ S1).bind fun e S2 => match y.key with
  | some k => match per e with
    | some d => .ok (.nd [(k, d)]) S2
    | none => .stk
  | none => .stk
theorem je_dict1 (ha : JE X W B a fa) (hb : JE X W B b fb) : JE X W B (.Dict [some a] [b] pos) (fDict1 fa fb) :=
  JE.mk (pe_disp (pps_cons pe_W pe_W pps_nil) rfl rfl (by simp) (by simp)) fun bs σ H ρ S Hf Q r h => fun p hp => by
    show tW X a σ (upd H p (.dK [])) fun x H1 => tW X b σ H1 fun y H2 => H2 p = some (.dK []) ∧ ∃ kvs : List (Key × V), [(x, y)] = kvs.map (fun kv => (kV kv.1, kv.2)) ∧ kvs.length ≤ 15 ∧ Q (.ref p) (upd H2 p (.dK (mergeK [] kvs)))
    obtain ⟨n1, n2⟩ := r.dr_ne hp
    have m0 : Nx B Hf H Hf (upd H p (.dK [])) := r.new hp
    have r0 := r.next m0 (r.drw.new hp (Ex.refl _))
    refine ha.bindX m0 r0 h fun e1 S1 v1 H1 Hf1 r1 m1 z1 h1 => ?_
    refine hb.bindX (m0.trans m1) r1 h1 fun e2 S2 v2 H2 Hf2 r2 m2 z2 h2 => ?_
    split at h2
    · rename_i k qk
      cases qp : per e2 with
      | none => rw [qp] at h2; exact h2.elim
      | some d =>
        rw [qp] at h2
        obtain ⟨Hf3, m3, x3, d3, z3⟩ := per_ok r2 m2 z2 qp
        have m := m1.trans m3
        have hp2 : H2 p = some (.dK []) := m.go _ _ upd_same n1 n2
        have hf3 : Hf3 p = none := by
          cases q : Hf3 p with
          | none => rfl
          | some u =>
            rcases m.fr _ _ q with w | w
            · rw [r.freeH hp] at w; cases w
            · rw [upd_same] at w; cases w
        have hk := z1.key qk
        refine ⟨hp2, [(k, v2)], by rw [hk]; rfl, by simp, ?_⟩
        exact h2 _ Hf3 _ ((m0.trans m).updX hf3 hp) ⟨by rw [upd_ne (Ne.symm n1)]; exact d3.dr, d3.cl, by rw [upd_ne (Ne.symm n2)]; exact d3.rs, d3.ne⟩ ⟨p, _, rfl, upd_same, n1, n2, .cons z3 .nil, hf3, hp⟩
    · exact h2.elim
def fGet2 (fo fa fb : Env → Dr → Out E) : Env → Dr → Out E := fun ρ S => (fo ρ S).bind fun x S1 => match x.kd with
  | some kvs => (fa ρ S1).bind fun y S2 => (fb ρ S2).bind fun z S3 => match y.key with
    | some k => match z with
      | .v d => .ok (.v ((dV kvs k).getD d)) S3
      | _ => .stk
    | none => .stk
  | none => .stk
theorem je_get2 {apos cpos : Pos} (hu : X.A.units + 1 < cLine) (ho : JE X W B o fo) (ha : JE X W B a fa) (hb : JE X W B b fb)
    (hbase : attributeBase o "get" X.env (eval o X.env) = eval o X.env := by rfl)
    (hfew : ((backTo cpos (starEach [a, b] X.env)).all (fun x => !x.1) && (backToKw cpos (keywordEach [] X.env)).all (fun x => x.1.isSome) && decide (([a, b] : List Expr).length + ([] : List Keyword).length + (if ([] : List Keyword).isEmpty then 0 else 1) < 30)) = true := by rfl)
    (hline : (apos.endLine == cpos.line) = true := by rfl) (htr : backTo cpos (starEach [a, b] X.env) = [(false, eval a X.env), (false, eval b X.env)] := by (rw [star_2 rfl rfl]; rfl)) :
    JE X W B (.Call (.Attribute o "get" apos) [a, b] [] cpos) (fGet2 fo fa fb) :=
  JE.mk (pe_dget2 hu pe_W pe_W pe_W ⟨hbase, hfew, hline, htr⟩) fun bs σ H ρ S Hf Q r h => by
    show tW X o σ H fun x H1 => ∃ a', x = .ref a' ∧ IsD H1 a' ∧ tW X a σ H1 fun y H2 => tW X b σ H2 fun z H3 => ∃ o, DGet H3 a' y o ∧ Q (o.getD z) H3
    refine ho.bind r h back_e fun e1 S1 v H1 Hf1 r1 n1 z1 h1 => ?_
    cases q1 : e1.kd with
    | none => rw [q1] at h1; exact h1.elim
    | some kvs =>
      rw [q1] at h1
      obtain ⟨p, vs, rfl, hp, l⟩ := z1.kd r1 q1
      refine ⟨p, rfl, .inl ⟨vs, hp⟩, ?_⟩
      refine ha.bind r1 h1 back_e fun e2 S2 v2 H2 Hf2 r2 n2 z2 h2 => ?_
      refine hb.bind r2 h2 back_e fun e3 S3 v3 H3 Hf3 r3 n3 z3 h3 => ?_
      split at h3
      · rename_i k qk
        split at h3
        · rename_i d
          obtain ⟨p', vs', ep, hp3, l3⟩ := ((z1.next r1 n2).next r2 n3).kd r3 q1
          cases ep
          cases (z2.next r2 n3).key qk
          refine ⟨_, dgetR hp3, ?_⟩
          rcases l3.val (k := k) with ⟨k1, k2⟩ | ⟨u, d', k1, k2, k3⟩
          · rw [k2]; rw [k1] at h3; exact h3 _ Hf3 H3 r3.nx0 r3.drw z3
          · rw [k2]; rw [k1] at h3; exact h3 _ Hf3 H3 r3.nx0 r3.drw k3
        · exact h3.elim
      · exact h3.elim

/-! ### d[k] = v -/
def sPutK (i : Nat) (fb fa : Env → Dr → Out E) : Env → Dr → SO := fun ρ S => match ρ[i]? with
  | some (some (.d kvs)) => (fa ρ S).so ρ fun e S1 => match per e with
    | some d => (fb ρ S1).so ρ fun y S2 => match y.key with
      | some k => if kvs.length < sizeLine then .nx (ρ.set i (some (.d (dP kvs k d)))) S2 else .stk
      | none => .stk
    | none => .stk
  | _ => .stk
theorem js_putK (i : Nat) {x : Str} {p pos' : Pos} (hu : X.A.units + 1 < cLine) (hb : JE X W B b fb) (ha : JE X W B a fa) (hN : X.N[i]? = some x := by rfl) (hv : Vis X.env.scope x := by first | exact Or.inl rfl | exact Or.inr (Or.inl rfl) | exact Or.inr (Or.inr rfl)) (hd : (x == ("__debug__" : Str)) = false := by decide)
    (hcd : (x == ("__classdict__" : Str)) = false := by decide) (hs : swapsWith a (some (.Subscript (.Name x p) b pos')) pos.line X.env = pure false := by rfl) :
    JS X W B (.Assign [.Subscript (.Name x p) b pos'] a pos) (sPutK i fb fa) := JS.mk (ps_dput hu (pe_var hN hv hd hcd) pe_W pe_W hs) fun bs σ H ρ S Hf D r h => by
  show tW X a σ H fun v H1 => ∃ x, σ[i]? = some (some x) ∧ (tW X b σ H1 fun y H3 => ∃ p H4, x = .ref p ∧ DPut H3 p y v H4 ∧ D.nx σ H4)
  unfold sPutK at h
  split at h
  · rename_i kvs e
    refine ha.so r h fun e1 S1 v H1 Hf1 r1 m1 z1 q => ?_
    cases qp : per e1 with
    | none => rw [qp] at q; exact q.elim
    | some d =>
      rw [qp] at q
      dsimp only at q
      obtain ⟨Hf2, m2, x2, d2, z2⟩ := per_ok r1 m1 z1 qp
      have r2 := r.next m2 d2
      obtain ⟨v', e3, s'⟩ := r2.sl i _ e
      obtain ⟨l', vs', rfl, k1, k2, k3, k4⟩ := s'
      refine ⟨_, e3, ?_⟩
      refine hb.so r2 q fun e2 S2 y H3 Hf3 r3 m3 z3 q2 => ?_
      split at q2
      · rename_i k qk
        split at q2
        · rename_i hl
          obtain ⟨v4, e4, s4⟩ := r3.sl i _ e
          rw [e3] at e4
          cases e4
          obtain ⟨l5, vs5, el, k5, k6, k7, k8⟩ := s4
          cases el
          cases z3.key qk
          refine ⟨l', _, rfl, DPut.k k5 (by rw [k6.length]; exact hl), ?_⟩
          exact q2 _ Hf3 _ (r3.mut e rfl e3 ⟨l', _, rfl, upd_same, k6.put (z2.mono m3.ex), k7, k8⟩ rfl)
        · exact q2.elim
      · exact q2.elim
  · exact h.elim

/-! ### x.clear() -/
def sClr (i : Nat) : Env → Dr → SO := fun ρ S => match ρ[i]? with
  | some (some (.l _)) => .nx (ρ.set i (some (.l []))) S
  | _ => .stk
theorem js_clr (i : Nat) {x : Str} {p pp cpos : Pos} (hK : X.K = B.K) (hN : X.N[i]? = some x := by rfl) (hv : Vis X.env.scope x := by first | exact Or.inl rfl | exact Or.inr (Or.inl rfl) | exact Or.inr (Or.inr rfl)) (hd : (x == ("__debug__" : Str)) = false := by decide)
    (hcd : (x == ("__classdict__" : Str)) = false := by decide)
    (hbase : attributeBase (.Name x p) "clear" X.env (eval (.Name x p) X.env) = eval (.Name x p) X.env := by rfl) (hline : (pp.endLine == cpos.line) = true := by rfl)
    (hsw : swapsWith (.Call (.Attribute (.Name x p) "clear" pp) [] [] cpos) none pos.line X.env = pure false := by rfl) :
    JS X W B (.Expr (.Call (.Attribute (.Name x p) "clear" pp) [] [] cpos) pos) (sClr i) :=
  JS.mk (ps_expr (pe_bm0 PySem.F.plainAttrs_list PySem.F.slot_list_clear PySem.F.type_list_clear mt_clear (pe_var hN hv hd hcd) hbase hline) hsw) fun bs σ H ρ S Hf D r h => by
    unfold sClr at h
    split at h
    · rename_i ds e
      obtain ⟨v, e2, s⟩ := r.sl i _ e
      obtain ⟨l, vs, rfl, h1, h2, h3, h4⟩ := s
      refine ⟨_, e2, .inl ⟨rfl, _, .inl (.inl h1)⟩, ?_⟩
      refine ⟨l, vs, rfl, rfl, h1, ?_⟩
      exact h _ Hf _ (r.mut e rfl e2 ⟨l, _, rfl, upd_same, .nil, h3, h4⟩ rfl)
    · exact h.elim

/-! ### a, b = x, y with new lists, new dicts -/
def sParO (i j : Nat) (fa fb : Env → Dr → Out E) : Env → Dr → SO := fun ρ S => if i < ρ.length ∧ j < ρ.length then (fa ρ S).so ρ fun x S1 => (fb ρ S1).so ρ fun y S2 => match stO x with
  | some o => match stO y with
    | some u => .nx ((ρ.set i (some o)).set j (some u)) S2
    | none => .stk
  | none => .stk else .stk
theorem parO_R {i j : Nat} {e1 e2 : E} {oa ob : O} {v w : V} {Hf1 H1 Hf2 H2 : Hp} {S1 S2 : Dr} (hij : i ≠ j) (r : R B bs Hf ρ S σ H) (hl : i < ρ.length ∧ j < ρ.length) (r1 : R B bs Hf1 ρ S1 σ H1) (m1 : Nx B Hf H Hf1 H1) (z1 : ER B H Hf1 H1 v e1) (r2 : R B bs Hf2 ρ S2 σ H2) (m2 : Nx B Hf1 H1 Hf2 H2) (z2 : ER B H1 Hf2 H2 w e2) (q3 : stO e1 = some oa) (q4 : stO e2 = some ob) :
    R B bs Hf2 ((ρ.set i (some oa)).set j (some ob)) S2 ((σ.set i (some v)).set j (some w)) H2 := by
  have z1' : ER B H Hf2 H2 v e1 := z1.next r1 m2
  have ra : R B bs Hf2 (ρ.set i (some oa)) S2 (σ.set i (some v)) H2 := stO_ok r r2 hl.1 z1' q3
  have z2' : ER B H Hf2 H2 w e2 := back_e Hf H Hf1 H1 S1 m1 r1.drw e2 w Hf2 H2 z2
  have fresh : ∀ p, H1 p = none → ∀ (m : Nat) oj, (ρ.set i (some oa))[m]? = some (some oj) → oj.own = true → (σ.set i (some v))[m]? = some (some (V.ref p)) → m = j := fun p hp m oj hm wj em => by
    exfalso
    rcases set_some hm with ⟨rfl, eo, _⟩ | ⟨ne, hm⟩
    · cases eo
      rw [List.getElem?_set_self (by rw [← r.len]; exact hl.1)] at em
      cases em
      cases e1 with
      | v d => cases q3; cases wj
      | b d => cases q3
      | bd d => cases q3
      | n d => obtain ⟨p', vs, ep, hp', _⟩ := z1; cases ep; rw [hp] at hp'; cases hp'
      | nd d => obtain ⟨p', vs, ep, hp', _⟩ := z1; cases ep; rw [hp] at hp'; cases hp'
    · rw [List.getElem?_set_ne (Ne.symm ne)] at em
      obtain ⟨b', u, e2', h2', _⟩ := r1.own_at hm wj
      rw [em] at e2'
      cases e2'
      rw [hp] at h2'
      cases h2'
  have hlj : j < (ρ.set i (some oa)).length := by rw [List.length_set]; exact hl.2
  cases e2 with
  | v d => cases q4; exact ra.store hlj z2' fun w => by cases w
  | b d => cases q4
  | bd d => cases q4
  | n d =>
    cases q4
    obtain ⟨p, vs, rfl, g1, g2, g3, g4, g5, g6⟩ := z2
    refine ra.store hlj ⟨p, vs, rfl, g1, g4, g5, r1.free0 g6⟩ fun _ b' hb' => ?_
    cases hb'
    exact fresh p g6
  | nd d =>
    cases q4
    obtain ⟨p, vs, rfl, g1, g2, g3, g4, g5, g6⟩ := z2
    refine ra.store hlj ⟨p, vs, rfl, g1, g4, g5, r1.free0 g6⟩ fun _ b' hb' => ?_
    cases hb'
    exact fresh p g6
theorem js_parO (i j : Nat) {x y : Str} {px py pt : Pos} {kt k2 pt2} (hc : X.calm = true) (hN : X.N.Nodup) (ha : JE X W B a fa) (hb : JE X W B b fb) (hij : i ≠ j := by decide) (hi : X.N[i]? = some x := by rfl) (hj : X.N[j]? = some y := by rfl)
    (hx : X.env.scope.names.lookup x = some .local := by rfl) (hy : X.env.scope.names.lookup y = some .local := by rfl)
    (hw : swappedStores [.Tuple [.Name x px, .Name y py] kt pt] (.Tuple [a, b] k2 pt2) X.env = pure (some [x, y]) := by rfl)
    (hs : swapsWithSole [.Tuple [.Name x px, .Name y py] kt pt] (.Tuple [a, b] k2 pt2) pos.line X.env = pure false := by rfl)
    (s1 : starEach [a, b] X.env = (false, eval a X.env) :: starEach [b] X.env := by exact star_c rfl) (s2 : starEach [b] X.env = (false, eval b X.env) :: starEach [] X.env := by exact star_c rfl) :
    JS X W B (.Assign [.Tuple [.Name x px, .Name y py] kt pt] (.Tuple [a, b] k2 pt2) pos) (sParO i j fa fb) :=
  JS.mk (ps_par hc hN hi hj hij hx hy (pa_cons pe_W (pa_cons pe_W pa_nil s2) s1) hw hs) fun bs σ H ρ S Hf D r h => by
    show tW X a σ H fun x H1 => tW X b σ H1 fun y H2 => ∃ v w, [x, y] = [v, w] ∧ D.nx ((σ.set i (some v)).set j (some w)) H2
    unfold sParO at h
    split at h
    · rename_i hl
      refine ha.so r h fun e1 S1 v H1 Hf1 r1 m1 z1 q => ?_
      refine hb.so r1 q fun e2 S2 w H2 Hf2 r2 m2 z2 q2 => ?_
      cases q3 : stO e1 with
      | none => rw [q3] at q2; exact q2.elim
      | some oa =>
        rw [q3] at q2
        cases q4 : stO e2 with
        | none => rw [q4] at q2; exact q2.elim
        | some ob =>
          rw [q4] at q2
          exact ⟨v, w, rfl, q2 _ Hf2 H2 (parO_R hij r hl r1 m1 z1 r2 m2 z2 q3 q4)⟩
    · exact h.elim
/-- .. where a name is read by a comprehension: the pair is made -/
theorem js_parOC (i j : Nat) {x y : Str} {px py pt : Pos} {kt k2 pt2} (hc : X.calm = true) (hK : X.K = B.K) (hN : X.N.Nodup) (ha : JE X W B a fa) (hb : JE X W B b fb) (hij : i ≠ j := by decide) (hi : X.N[i]? = some x := by rfl) (hj : X.N[j]? = some y := by rfl)
    (hx : Loc X.env.scope x := by first | exact .inl rfl | exact .inr rfl) (hy : Loc X.env.scope y := by first | exact .inl rfl | exact .inr rfl) (fx : X.fn x = true ∨ X.env.scope.names.lookup x = some .local := by first | exact .inl rfl | exact .inr rfl) (fy : X.fn y = true ∨ X.env.scope.names.lookup y = some .local := by first | exact .inl rfl | exact .inr rfl)
    (hst1 : (assignEach [.Name x px, .Name y py] X.env).map (·.2) = assign (.Name x px) X.env :: (assignEach [.Name y py] X.env).map (·.2) := by rfl) (hst2 : (assignEach [.Name y py] X.env).map (·.2) = assign (.Name y py) X.env :: (assignEach [] X.env).map (·.2) := by rfl)
    (hn : (assignEach [.Name x px, .Name y py] X.env).length = 2 := by rfl) (hst : (assignEach [.Name x px, .Name y py] X.env).findIdx? (·.1) = none := by rfl)
    (hw : swappedStores [.Tuple [.Name x px, .Name y py] kt pt] (.Tuple [a, b] k2 pt2) X.env = pure none := by rfl)
    (hs : swapsWithSole [.Tuple [.Name x px, .Name y py] kt pt] (.Tuple [a, b] k2 pt2) pos.line X.env = pure false := by rfl)
    (h1 : (assignEach [.Tuple [.Name x px, .Name y py] kt pt] X.env).map (·.2) = [assign (.Tuple [.Name x px, .Name y py] kt pt) X.env] := by rfl)
    (s1 : starEach [a, b] X.env = (false, eval a X.env) :: starEach [b] X.env := by exact star_c rfl) (s2 : starEach [b] X.env = (false, eval b X.env) :: starEach [] X.env := by exact star_c rfl) :
    JS X W B (.Assign [.Tuple [.Name x px, .Name y py] kt pt] (.Tuple [a, b] k2 pt2) pos) (sParO i j fa fb) :=
  JS.mk (ps_asg (pe_tup (pa_cons pe_W (pa_cons pe_W pa_nil s2) s1)) (pg_tup hc (pgs_cons (pg_name hN hi hx fx) (pgs_cons (pg_name hN hj hy fy) pgs_nil hst2) hst1) hn hst) hs hw h1) fun bs σ H ρ S Hf D r h => by
    show tW X a σ H fun x H1 => tW X b σ H1 fun y H2 => [x, y].length ≤ sizeLine ∧ ∀ p, H2 p = none → gTup X.K 2 (gCons (gName i) (gCons (gName j) gNil)) (.ref p) σ (upd H2 p (.tup [x, y])) D.nx
    unfold sParO at h
    split at h
    · rename_i hl
      refine ha.so r h fun e1 S1 v H1 Hf1 r1 m1 z1 q => ?_
      refine hb.so r1 q fun e2 S2 w H2 Hf2 r2 m2 z2 q2 => ?_
      cases q3 : stO e1 with
      | none => rw [q3] at q2; exact q2.elim
      | some oa =>
        rw [q3] at q2
        cases q4 : stO e2 with
        | none => rw [q4] at q2; exact q2.elim
        | some ob =>
          rw [q4] at q2
          refine ⟨by rw [sizeLine_eq]; simp, fun p hp => ⟨p, [v, w], rfl, .inl (.inl upd_same), rfl, v, [w], rfl, ?_⟩⟩
          have rr := parO_R hij r hl r1 m1 z1 r2 m2 z2 q3 q4
          exact ⟨w, [], rfl, rfl, q2 _ Hf2 _ (rr.next (rr.new hp) (rr.drw.new hp (Ex.refl _)))⟩
    · exact h.elim

/-! ### a list, a dict of the def's own is given away: it stays as it is -/
def frzO : O → Option Dn.D
  | .l ds => some (.lst ds)
  | .d kvs => some (.dct kvs)
  | .v d => some d
  | _ => none
def sFrz (i : Nat) (g : Env → Dr → SO) : Env → Dr → SO := fun ρ S => match ρ[i]? with
  | some (some o) => match frzO o with
    | some d => g (ρ.set i (some (.v d))) S
    | none => .stk
  | _ => .stk
theorem R.frz (r : R B bs Hf ρ S σ H) {i : Nat} {o : O} {d : Dn.D} (h : ρ[i]? = some (some o)) (q : frzO o = some d) : ∃ Hf', R B bs Hf' (ρ.set i (some (.v d))) S σ H := by
  have hi : i < ρ.length := (List.getElem?_eq_some_iff.mp h).1
  have key : ∀ (p : Addr) (u : HO), σ[i]? = some (some (V.ref p)) → H p = some u → Hf p = none → bs.2 p = none → o.own = true → Rep B.K B.dr (upd Hf p u) (.ref p) d → ∃ Hf', R B bs Hf' (ρ.set i (some (.v d))) S σ H := fun p u es hp hf hb wo rp => by
    have xx : Ex Hf (upd Hf p u) := Ex.new hf
    obtain ⟨n1, n2⟩ := r.ne0 p hb
    refine ⟨upd Hf p u, ⟨fun q v hq => ?_, r.exb.trans xx, fun q v hq => ?_, ⟨?_, ?_⟩, r.go, r.h0, ⟨r.drw.dr, xx _ _ r.drw.cl, r.drw.rs, r.drw.ne⟩, by rw [List.length_set]; exact r.len, fun j oj hj => ?_, fun j k oj ok c hj hk wj wk ej ek => ?_⟩⟩
    · by_cases e : q = p
      · subst e; rw [upd_same] at hq; rw [← hq]; exact hp
      · rw [upd_ne e] at hq; exact r.ex q v hq
    · by_cases e : q = p
      · subst e; exact .inr hb
      · rw [upd_ne e] at hq; exact r.fr q v hq
    · rw [upd_ne (Ne.symm n1)]; exact r.nd.1
    · rw [upd_ne (Ne.symm n2)]; exact r.nd.2
    · rcases set_some hj with ⟨rfl, e2, _⟩ | ⟨ne, hj⟩
      · cases e2
        exact ⟨_, es, rp⟩
      · obtain ⟨v, e2, z⟩ := r.sl j oj hj
        refine ⟨v, e2, ?_⟩
        have oth : ∀ c, oj.own = true → v = .ref c → c ≠ p := fun c wj hv qq => by
          subst hv
          subst qq
          exact ne (r.inj j i oj o c hj h wj wo e2 es)
        have nf : ∀ c, c ≠ p → Hf c = none → upd Hf p u c = none := fun c hc h0 => by rw [upd_ne hc]; exact h0
        cases oj with
        | v d => exact Rep.mono xx z
        | l ds => obtain ⟨c, vs, rfl, k1, k2, k3, k4⟩ := z; exact ⟨c, vs, rfl, k1, k2.mono xx, nf c (oth c rfl rfl) k3, k4⟩
        | d ds => obtain ⟨c, vs, rfl, k1, k2, k3, k4⟩ := z; exact ⟨c, vs, rfl, k1, k2.mono xx, nf c (oth c rfl rfl) k3, k4⟩
        | lt ds => obtain ⟨c, vs, rfl, k1, k2, k3, k4⟩ := z; exact ⟨c, vs, rfl, k1, k2, k3, k4.mono xx⟩
        | ld ds => obtain ⟨c, vs, rfl, k1, k2, k3, k4⟩ := z; exact ⟨c, vs, rfl, k1, k2, k3, k4.mono xx⟩
        | x C fs => obtain ⟨k1, k2, k3, k4, fv, k5, k6⟩ := z; exact ⟨k1, k2, k3, k4, fv, k5, k6.mono xx⟩
        | ob C fs => obtain ⟨rfl, dx, vs, k1, k2, k3, k4⟩ := z; exact ⟨rfl, dx, vs, k1, k2.mono xx, nf _ (oth _ rfl rfl) k3, k4⟩
    · rcases set_some hj with ⟨rfl, e1, _⟩ | ⟨nj, hj⟩
      · cases e1; cases wj
      · rcases set_some hk with ⟨rfl, e1, _⟩ | ⟨nk, hk⟩
        · cases e1; cases wk
        · exact r.inj j k oj ok c hj hk wj wk ej ek
  obtain ⟨v, es, s⟩ := r.sl i o h
  cases o with
  | l ds =>
    cases q
    obtain ⟨p, vs, rfl, h1, h2, h3, h4⟩ := s
    exact key p _ es h1 h3 h4 rfl (.lst upd_same (h2.mono (Ex.new h3)))
  | d ds =>
    cases q
    obtain ⟨p, vs, rfl, h1, h2, h3, h4⟩ := s
    exact key p _ es h1 h3 h4 rfl (.dct (.inl upd_same) (h2.mono (Ex.new h3)))
  | v d =>
    cases q
    refine ⟨Hf, ?_⟩
    have e : ρ.set i (some (.v d)) = ρ := by
      apply List.ext_getElem?
      intro j
      rw [List.getElem?_set]
      split
      · rename_i e; subst e; first | exact h.symm | (rw [if_pos hi]; exact h.symm)
      · rfl
    rw [e]; exact r
  | _ => cases q
theorem js_frz (i : Nat) (h : JS X W B st g) : JS X W B st (sFrz i g) := .of fun bs σ H ρ S Hf D r q => by
  unfold sFrz at q
  split at q
  · rename_i o e
    cases q1 : frzO o with
    | none => rw [q1] at q; exact q.elim
    | some d =>
      rw [q1] at q
      obtain ⟨Hf', r'⟩ := r.frz e q1
      exact h.go bs σ H _ S Hf' D r' q
  · exact q.elim

/-! ### list(d), sorted(d), sorted(xs) -/
def O.kd : O → Option (List (Key × Dn.D))
  | .v (.dct k) => some k
  | .ld k => some k
  | _ => none
theorem ArR.kd (r : R B bs Hf ρ S σ H) {v : V} {o : O} {ds : List (Key × Dn.D)} (h : ArR B Hf H v o) (q : o.kd = some ds) : ∃ a vs, v = .ref a ∧ Rd H a (.dK vs) ∧ RepK B.K B.dr Hf vs ds := by
  cases o with
  | v d =>
    cases d <;> simp [O.kd] at q
    subst q
    cases h with
    | dct h1 h2 => exact ⟨_, _, rfl, ex_rd r.ex h1, h2⟩
  | ld ds => simp [O.kd] at q; subst q; obtain ⟨a, vs, h1, h2, _, _, h3⟩ := h; exact ⟨a, vs, h1, h2, h3⟩
  | _ => cases q
theorem repl_keys {K : PySem.W.Frag} {dr : Addr} {H : Hp} : ∀ ks : List Key, RepL K dr H (ks.map kV) (ks.map keyD)
  | [] => .nil
  | k :: r => .cons (rep_key k) (repl_keys r)
def gListK : List O → Option E
  | [o] => match o.kd with
    | some kvs => some (.n ((kvs.map (·.1)).map keyD))
    | none => none
  | _ => none
theorem cj_listK : CallJ B (fun xs H Q => ∃ (a : Addr) (kvs : List (Key × V)), xs = [.ref a] ∧ Rd H a (.dK kvs) ∧ ∀ p, H p = none → Q (.ref p) (upd H p (.lst (kvs.map fun kv => kV kv.1)))) gListK := fun bs σ H ρ S Hf vs os e Q r z q k => by
  unfold gListK at q
  split at q
  · obtain ⟨v, rfl, h⟩ := as1 z
    split at q
    · rename_i ds q1
      cases q
      obtain ⟨a, vs, rfl, h1, l⟩ := h.kd r q1
      refine ⟨a, vs, rfl, h1, fun p hp => ?_⟩
      have e : (vs.map fun kv => kV kv.1) = (ds.map (·.1)).map kV := by rw [← l.keys, List.map_map]; rfl
      rw [e]
      exact VP.newL r k (repl_keys _) hp
    · cases q
  · cases q
def gListA (os : List O) : Option E := match gListOf os with
  | some e => some e
  | none => gListK os
def intsK : List Key → Option (List Int)
  | [] => some []
  | .inl i :: r => (intsK r).map (i :: ·)
  | _ :: _ => none
def srtI (l : List Int) : List Int := l.mergeSort fun a b => decide (a ≤ b)
theorem srtI_perm (l : List Int) : (srtI l).Perm l := List.mergeSort_perm l _
theorem srtI_sorted (l : List Int) : (srtI l).Pairwise (· ≤ ·) := (List.pairwise_mergeSort (le := fun a b : Int => decide (a ≤ b)) (fun a b c h1 h2 => by simp at *; omega) (fun a b => by simp; omega) l).imp fun h => by simpa using h
theorem srtI_eq {l ys : List Int} (h : ys.Perm l) (s : ys.Pairwise (· ≤ ·)) : ys = srtI l := List.Perm.eq_of_pairwise (fun a b _ _ h1 h2 => by omega) s (srtI_sorted l) (h.trans (srtI_perm l).symm)
theorem ints_vs {K : PySem.W.Frag} {dr : Addr} {H : Hp} : ∀ {ds : List Dn.D} {ns : List Int} {vs : List V}, intsD ds = some ns → RepL K dr H vs ds → vs = ns.map V.int
  | [], _, _, q, .nil => by simp [intsD] at q; subst q; rfl
  | .int i :: r, _, _, q, .cons h l => by
    simp [intsD] at q
    obtain ⟨ns, q, rfl⟩ := q
    cases h
    rw [ints_vs q l]; rfl
  | .non :: _, _, _, q, _ => by cases q
  | .bl _ :: _, _, _, q, _ => by cases q
  | .str _ :: _, _, _, q, _ => by cases q
  | .tup _ :: _, _, _, q, _ => by cases q
  | .lst _ :: _, _, _, q, _ => by cases q
  | .dct _ :: _, _, _, q, _ => by cases q
  | .obj _ _ :: _, _, _, q, _ => by cases q
  | .exn _ _ :: _, _, _, q, _ => by cases q
  | .ref _ :: _, _, _, q, _ => by cases q
  | .ty _ :: _, _, _, q, _ => by cases q
  | .drw :: _, _, _, q, _ => by cases q
  | .scr _ :: _, _, _, q, _ => by cases q
theorem intsK_map : ∀ {ks : List Key} {ns : List Int}, intsK ks = some ns → ks = ns.map Sum.inl
  | [], _, q => by simp [intsK] at q; subst q; rfl
  | .inl i :: r, _, q => by
    simp [intsK] at q
    obtain ⟨ns, q, rfl⟩ := q
    rw [intsK_map q]; rfl
  | .inr _ :: _, _, q => by cases q
def gSortI : List O → Option E
  | [o] => match o.ls with
    | some ds => match intsD ds with
      | some ns => some (.n ((srtI ns).map D.int))
      | none => none
    | none => none
  | _ => none
theorem cj_sortI : CallJ B (rSortedI B.K) gSortI := fun bs σ H ρ S Hf vs os e Q r z q k => by
  unfold gSortI at q
  split at q
  · obtain ⟨v, rfl, h⟩ := as1 z
    split at q
    · rename_i ds q1
      split at q
      · rename_i ns q2
        cases q
        obtain ⟨a, vs, rfl, h1, l⟩ := h.ls r q1
        refine ⟨a, ns, rfl, SqL.of (by rw [← ints_vs q2 l]; exact h1), fun ns' p hp hs hn => ?_⟩
        rw [srtI_eq hp hs]
        exact VP.newL r k (RepL.ints _) hn
      · cases q
    · cases q
  · cases q
def gSortK : List O → Option E
  | [o] => match o.kd with
    | some kvs => match intsK (kvs.map (·.1)) with
      | some ns => if ns.length < 64 then some (.n ((srtI ns).map D.int)) else none
      | none => none
    | none => none
  | _ => none
theorem cj_sortK : CallJ B (fun xs H Q => ∃ (a : Addr) (kvs : List (Key × V)) (ks : List Int), xs = [.ref a] ∧ Rd H a (.dK kvs) ∧ kvs.map (·.1) = ks.map Sum.inl ∧ ks.length < 64 ∧
    ∀ (ys : List Int) (p : Addr), ys.Perm ks → ys.Pairwise (· ≤ ·) → H p = none → Q (.ref p) (upd H p (.lst (ys.map V.int)))) gSortK := fun bs σ H ρ S Hf vs os e Q r z q k => by
  unfold gSortK at q
  split at q
  · obtain ⟨v, rfl, h⟩ := as1 z
    split at q
    · rename_i ds q1
      split at q
      · rename_i ns q2
        split at q
        · rename_i hl
          cases q
          obtain ⟨a, vs, rfl, h1, l⟩ := h.kd r q1
          refine ⟨a, vs, ns, rfl, h1, by rw [l.keys]; exact intsK_map q2, hl, fun ns' p hp hs hn => ?_⟩
          rw [srtI_eq hp hs]
          exact VP.newL r k (RepL.ints _) hn
        · cases q
      · cases q
    · cases q
  · cases q
def gSort (os : List O) : Option E := match gSortI os with
  | some e => some e
  | none => gSortK os
theorem je_sorted {p pos : Pos} (hK : X.K = B.K) (hc : X.calm = true) (hm : X.mg "sorted" = none) (ha : JA X W B (e :: es) fr) (hg : Gl X "sorted" := by rfl) (he : starEach (e :: es) X.env = (false, eval e X.env) :: starEach es X.env := by exact star_c rfl) (hpl : (backTo pos (starEach es X.env)).any (·.1) = false := by exact star_any rfl) :
    JE X W B (.Call (.Name "sorted" p) (e :: es) [] pos) (fCall gSort fr) := je_callB (CallR.or cr_sortedI (call_sortedDI hc)) (CallJ.or (hK ▸ cj_sortI) cj_sortK) hm ha hg (by decide +kernel) (by decide) (by decide) he hpl
end
end Dn

set_option Elab.async false
set_option linter.all false
set_option maxRecDepth 100000
set_option maxHeartbeats 4000000
namespace Dn
open PySem PySem.Spec PyProof.Rows L2

/-! ### dict comprehensions -/
/-- a comprehension's pairs, one by one -/
def dcD (tgt : Dn.D → Env → Option Env) (ft : Env → Dr → Out Bool) (fk fv : Env → Dr → Out E) (ρ : Env) : List Dn.D → List (Key × Dn.D) → Dr → Out (List (Key × Dn.D))
  | [], acc, S => .ok acc S
  | d :: ds, acc, S => match tgt d ρ with
    | none => .stk
    | some ρ1 => (ft ρ1 S).bind fun c S1 => if c = true then (fk ρ1 S1).bind fun y S2 => (fv ρ1 S2).bind fun e S3 => match y.key with
      | some k => match per e with
        | some x => if acc.length < sizeLine then dcD tgt ft fk fv ρ ds (dP acc k x) S3 else .stk
        | none => .stk
      | none => .stk
      else dcD tgt ft fk fv ρ ds acc S1
def fDc (fi : Env → Dr → Out (List Dn.D)) (tgt : Dn.D → Env → Option Env) (ft : Env → Dr → Out Bool) (fk fv : Env → Dr → Out E) (vs : List Nat) : Env → Dr → Out E := fun ρ S => (fi ρ S).bind fun ds S1 => (noExc (dcD tgt ft fk fv (wipeE ρ vs) ds [] S1)).bind fun xs S2 => .ok (.nd xs) S2

section
variable {X : Cx} {W : WX} {B : Bs} {bs : Hp × Hp} {Hs Hf H : Hp} {ρ : Env} {S : Dr} {σ : L2.St} {scope : Scope} {e c : Expr} {fk fv : Env → Dr → Out E} {fc : Env → Dr → Out Bool}
theorem dc_it {J : It} {n : Nat} {G : Hp → Prop} {Y : Nat → Hp → V → Hp → Prop} (w : Walk J n G Y) {g : TG} {tt : TT} {tk tv : TE} {vs : List Nat} {σ : L2.St} {H1 : Hp} {D : Addr} {Qd : Hp → Prop} (Pv : Nat → Hp → Prop) (h0 : Pv 0 (upd H1 D (.dK []))) (hG : ∀ i H, i ≤ n → Pv i H → G H)
    (hs : ∀ i x H H', i < n → Pv i H → Y i H x H' → g x (L2.wipe σ vs) H' fun σ2 H2 => L2.wipe σ2 vs = L2.wipe σ vs ∧ tt σ2 H2 fun b H3 =>
      if b = true then tk σ2 H3 fun y H4 => tv σ2 H4 fun z H5 => ∃ kvs k, y = kV k ∧ H5 D = some (.dK kvs) ∧ kvs.length < sizeLine ∧ Pv (i + 1) (upd H5 D (.dK (putK kvs k z))) else Pv (i + 1) H3) (hd : ∀ H, Pv n H → Qd H) :
    ∃ W : Nat → Nat → Hp → Prop, (∃ m, W 0 m (upd H1 D (.dK []))) ∧ ∀ i m H, W i m H →
      (J.stop i H ∧ Qd H) ∨ (J.go i H ∧ ∃ Nx : Hp → Prop, (∀ H', Nx H' → ∃ m', m' < m ∧ W (i + 1) m' H') ∧ ∀ x H', J.yld i H x H' → g x (L2.wipe σ vs) H' fun σ2 H2 => L2.wipe σ2 vs = L2.wipe σ vs ∧ tt σ2 H2 fun b H3 =>
        if b = true then tk σ2 H3 fun y H4 => tv σ2 H4 fun z H5 => ∃ kvs k, y = kV k ∧ H5 D = some (.dK kvs) ∧ kvs.length < sizeLine ∧ Nx (upd H5 D (.dK (putK kvs k z))) else Nx H3) := by
  refine ⟨fun i m H => m = n - i ∧ i ≤ n ∧ Pv i H, ⟨n, by simp, Nat.zero_le _, h0⟩, ?_⟩
  rintro i m H ⟨rfl, hi, p⟩
  have q := hG i H hi p
  by_cases hlt : i < n
  · refine .inr ⟨w.goes i H hlt q, Pv (i + 1), fun H' p' => ⟨n - (i + 1), by omega, rfl, hlt, p'⟩, fun x H' y => hs i x H H' hlt p (w.yields i H x H' hlt q y)⟩
  · have e : i = n := by omega
    subst e
    exact .inl ⟨w.stops H q, hd H p⟩
theorem dc_read {tg kx vx : Expr} {own : List (Str × Nat)} {fi : Env → Dr → Out (List Dn.D)} {tgt : Dn.D → Env → Option Env} {t : TG} {ix : List Nat} {wi : TI} {tt : TT}
    (qw : ∀ (bs : Hp × Hp) (σ : L2.St) (H : Hp) (ρ : Env) (S : Dr) (Hf : Hp) (P : It → Hp → Prop), R B bs Hf ρ S σ H → IPost B W bs true ρ σ Hf H (fi ρ S) P → wi σ H P)
    (qt : ∀ (bs : Hp × Hp) (σ : L2.St) (H : Hp) (ρ : Env) (S : Dr) (Hf : Hp) (Q : Bool → Hp → Prop), R B bs Hf ρ S σ H → EPost B W0 Hf σ H trel (fc ρ S) Q → tt σ H Q)
    (hg : ∀ (s : Shared) (H : Hp) (C : Addr) (cl : List (Str × Addr)) (fp : List Addr), JG (X.blk s H scope (compEnvC scope cl C X.env) fp) B tg t ix tgt) (hk : JEB X scope B kx fk) (he : JEB X scope B vx fv) (hix : ∀ i ∈ ix, i ∈ own.map (·.2))
    {Q : VK} (r : R B bs Hf ρ S σ H) (h : EPost B W Hf σ H (erel B) (fDc fi tgt fc fk fv (own.map (·.2)) ρ S) Q) : tDc wi t tt (tWB X scope kx) (tWB X scope vx) (own.map (·.2)) σ H Q := by
  refine qw bs σ H ρ S Hf _ r ?_
  unfold fDc at h
  cases q : fi ρ S with
  | stk => rw [q] at h; exact h
  | exc C fs S1 => rw [q] at h; exact h
  | ok ds S1 =>
    rw [q] at h
    intro J H1 Hf1 r1 n1 ⟨G, Y, w, hG, hY⟩ D hD
    have h : EPost B W Hf σ H (erel B) ((noExc (dcD tgt fc fk fv (wipeE ρ (own.map (·.2))) ds [] S1)).bind fun xs S2 => .ok (.nd xs) S2) Q := h
    cases ql : dcD tgt fc fk fv (wipeE ρ (own.map (·.2))) ds [] S1 with
    | stk => rw [ql] at h; exact h.elim
    | exc C fs S2 => rw [ql] at h; exact h.elim
    | ok all Sz =>
      rw [ql] at h
      have h : EPost B W Hf σ H (erel B) (.ok (.nd all) Sz) Q := h
      have D0 : bs.2 D = none := r1.free0 hD
      have Df1 : Hf1 D = none := r1.freeH hD
      obtain ⟨nd1, nd2⟩ := r1.dr_ne hD
      have nDo : ∀ (i : Nat) oi, (wipeE ρ (own.map (·.2)))[i]? = some (some oi) → oi.own = true → (L2.wipe σ (own.map (·.2)))[i]? ≠ some (some (V.ref D)) := fun i oi hi w e => by
        obtain ⟨a, u, e1, e2, _⟩ := (r1.wipe (own.map (·.2))).own_at hi w
        rw [e] at e1
        cases e1
        rw [hD] at e2
        cases e2
      generalize hρw : wipeE ρ (own.map (·.2)) = ρw at ql nDo
      have rw1 : R B bs Hf1 ρw S1 (L2.wipe σ (own.map (·.2))) H1 := hρw ▸ r1.wipe _
      refine dc_it w (fun i H => ∃ S Hf vs acc, R B bs Hf ρw S (L2.wipe σ (own.map (·.2))) H ∧ Nx B Hf1 H1 Hf H ∧ H D = some (.dK vs) ∧ RepK B.K B.dr Hf vs acc ∧ Hf D = none ∧ dcD tgt fc fk fv ρw (ds.drop i) acc S = .ok all Sz)
        ⟨S1, Hf1, [], [], rw1.updX Df1 D0 nDo, rw1.nx0.updX Df1 hD, upd_same, .nil, Df1, ql⟩ (fun i H _ ⟨S, Hf, vs, acc, r, n, _⟩ => hG Hf H ρw S _ r n.ex fun _ => n.go) (fun i x H H' hi ⟨S, Hf, vs, acc, r, n, eD, l, fD, el⟩ y => ?_) fun H ⟨S, Hf, vs, acc, r, n, eD, l, fD, el⟩ => ?_
      · obtain ⟨d, Hf', hd, n', dr', z⟩ := hY i Hf H ρw S _ x H' hi r n.ex (fun _ => n.go) y
        have e : ds.drop i = d :: ds.drop (i + 1) := by
          obtain ⟨hl, e⟩ := List.getElem?_eq_some_iff.mp hd
          rw [← e]; exact (List.getElem_cons_drop hl).symm
        rw [e] at el
        unfold dcD at el
        cases qg : tgt d ρw with
        | none => rw [qg] at el; cases el
        | some ρ1 =>
          rw [qg] at el
          dsimp only at el
          have keepD : ∀ {Ha Hb Hfa Hfb : Hp} {u}, Nx B Hfa Ha Hfb Hb → Ha D = some u → Hfa D = none → Hb D = some u ∧ Hfb D = none := fun {Ha Hb Hfa Hfb u} m e1 e2 => by
            refine ⟨m.go _ _ e1 nd1 nd2, ?_⟩
            cases q : Hfb D with
            | none => rfl
            | some v =>
              rcases m.fr _ _ q with z | z
              · rw [e2] at z; cases z
              · rw [e1] at z; cases z
          obtain ⟨eD', fD'⟩ := keepD n' eD fD
          refine (hg X.s_0 (fun _ => none) 0 [] []).2 bs (L2.wipe σ (own.map (·.2))) H' ρw S Hf' x d ρ1 _ (r.next n' dr') z qg ?_
          intro σ2 r2 l2 u2
          refine ⟨(wipe_eq l2 u2 hix).trans wipe_idem, ?_⟩
          refine qt bs σ2 H' ρ1 S Hf' _ r2 ?_
          cases qc : fc ρ1 S with
          | stk => rw [qc] at el; cases el
          | exc C fs S2 => rw [qc] at el; cases el
          | ok c S2 =>
            rw [qc] at el
            intro v2 Hf2 H2 n2 d2 z2
            have z2 : c = v2 := z2
            subst z2
            have r3 := r2.next n2 d2
            obtain ⟨eD2, fD2⟩ := keepD n2 eD' fD'
            cases c with
            | false =>
              have el : dcD tgt fc fk fv ρw (ds.drop (i + 1)) acc S2 = .ok all Sz := el
              have m := n'.trans n2
              exact ⟨S2, Hf2, vs, acc, r.next m d2, n.trans m, eD2, l.mono m.ex, fD2, el⟩
            | true =>
              have el : ((fk ρ1 S2).bind fun y S2 => (fv ρ1 S2).bind fun e S3 => match y.key with
                | some k => match per e with
                  | some x => if acc.length < sizeLine then dcD tgt fc fk fv ρw (ds.drop (i + 1)) (dP acc k x) S3 else Out.stk
                  | none => .stk
                | none => .stk) = .ok all Sz := el
              show tWB X scope kx σ2 H2 _
              intro s0 H0 C cl fp pins s I
              refine (hk s0 H0 C cl fp).go bs σ2 H2 ρ1 S2 Hf2 _ r3 ?_ pins s I
              cases qk : fk ρ1 S2 with
              | stk => rw [qk] at el; cases el
              | exc C fs S3 => rw [qk] at el; cases el
              | ok y1 S3 =>
                rw [qk] at el
                intro yv Hf3 H3 n3 d3 z3
                have r4 := r3.next n3 d3
                obtain ⟨eD3, fD3⟩ := keepD n3 eD2 fD2
                show tWB X scope vx σ2 H3 _
                intro s0 H0 C cl fp pins s I
                refine (he s0 H0 C cl fp).go bs σ2 H3 ρ1 S3 Hf3 _ r4 ?_ pins s I
                have el : ((fv ρ1 S3).bind fun e S3 => match y1.key with
                  | some k => match per e with
                    | some x => if acc.length < sizeLine then dcD tgt fc fk fv ρw (ds.drop (i + 1)) (dP acc k x) S3 else Out.stk
                    | none => .stk
                  | none => .stk) = .ok all Sz := el
                cases qe : fv ρ1 S3 with
                | stk => rw [qe] at el; cases el
                | exc C fs S3 => rw [qe] at el; cases el
                | ok e1 S4 =>
                  rw [qe] at el
                  intro v Hf4 H4 n4 d4 z4
                  have el : (match y1.key with
                    | some k => match per e1 with
                      | some x => if acc.length < sizeLine then dcD tgt fc fk fv ρw (ds.drop (i + 1)) (dP acc k x) S4 else Out.stk
                      | none => .stk
                    | none => .stk) = .ok all Sz := el
                  cases qy : y1.key with
                  | none => rw [qy] at el; cases el
                  | some k =>
                    rw [qy] at el
                    cases qp : per e1 with
                    | none => rw [qp] at el; cases el
                    | some xd =>
                      rw [qp] at el
                      obtain ⟨Hf5, n5, x5, d5, z5⟩ := per_ok (r4.next n4 d4) n4 z4 qp
                      have el : (if acc.length < sizeLine then dcD tgt fc fk fv ρw (ds.drop (i + 1)) (dP acc k xd) S4 else Out.stk) = .ok all Sz := el
                      by_cases hz : acc.length < sizeLine
                      · rw [if_pos hz] at el
                        obtain ⟨eD5, fD5⟩ := keepD n5 eD3 fD3
                        have m := n'.trans (n2.trans (n3.trans n5))
                        refine ⟨vs, k, z3.key qy, eD5, by rw [l.length]; exact hz, S4, Hf5, putK vs k v, dP acc k xd, (r.next m d5).updX fD5 D0 nDo, (n.trans m).updX fD5 hD, upd_same, (l.mono m.ex).put z5, fD5, el⟩
                      · rw [if_neg hz] at el; cases el
      · rw [List.drop_length] at el
        cases el
        have n2 := n1.trans n
        exact h _ Hf H n2 r.drw ⟨D, vs, rfl, eD, nd1, nd2, l, fD, n1.free r1.drw hD⟩
theorem je_dc {tg iter kx vx : Expr} {ifs : List Expr} {own : List (Str × Nat)} {pos : Pos} {fi : Env → Dr → Out (List Dn.D)} {tgt : Dn.D → Env → Option Env} {t : TG} {ix : List Nat} (hc : X.calm = true) (hN : X.N.Nodup) (hi : JI X W B true tg iter fi) (ok : BlkOk X.N X.env.scope scope own)
    (hg : ∀ (s : Shared) (H : Hp) (C : Addr) (cl : List (Str × Addr)) (fp : List Addr), JG (X.blk s H scope (compEnvC scope cl C X.env) fp) B tg t ix tgt) (ht : JTs X scope B ifs fc) (hk : JEB X scope B kx fk) (he : JEB X scope B vx fv) (hix : ∀ i ∈ ix, i ∈ own.map (·.2) := by decide)
    (hs : ∀ x, foldedSetIterable iter X.env x = pure x := by intro _; rfl) : JE X W B (.DictComp kx vx [⟨tg, iter, ifs, 0⟩] scope pos) (fDc fi tgt fc fk fv (own.map (·.2))) := by
  obtain ⟨wi, pw, qw⟩ := hi
  obtain ⟨tt, pt, qt⟩ := ht
  exact JE.mk (pe_dc (tk := tWB X scope kx) (tv := tWB X scope vx) hc hN pw ok (fun s H C cl fp => (hg s H C cl fp).1) pt (fun s0 H0 C cl fp => ⟨fun pins s σ H Q I q => q s0 H0 C cl fp pins s I⟩) (fun s0 H0 C cl fp => ⟨fun pins s σ H Q I q => q s0 H0 C cl fp pins s I⟩) hs) fun bs σ H ρ S Hf Q r h => dc_read qw qt hg hk he hix r h
end
end Dn

set_option Elab.async false
set_option linter.all false
set_option maxRecDepth 100000
set_option maxHeartbeats 4000000
namespace Dn
open PySem PySem.Spec PyProof.Rows L2

/-! ### a class's own text -/
/-- a def within a class -/
structure MeA (K : PySem.W.Frag) (name qual : Str) (st : Stmt) : Type where
  f : Addr
  fd : FuncData
  F : Fun K name qual st f fd
def MeA.mk' {K : PySem.W.Frag} {name qual : Str} {st : Stmt} {f : Addr} {oc kV doc pm cdv ct : Value} {od an : Option Addr} {osl : Array (Option Value)}
    (l : K.lookup f = some ⟨oc, od, .func (PySem.W.fnOf name qual (defArgs st) (defBody st) (defScope st) .none kV doc pm an cdv ct), osl⟩)
    (c : PySem.W.codeIn K cdv qual = true) (k : PySem.W.keepIn K (.ref f) = true) : MeA K name qual st := ⟨f, _, fun_mk l c k⟩
theorem MeA.binds {K : PySem.W.Frag} {name qual : Str} {st : Stmt} {ps : List Str} (A : MeA K name qual st)
    (b : ∀ (kV doc pm : Value) (an : Option Addr) (cdv ct : Value) (us : List Value), us.length = ps.length → bindArgs (PySem.W.fnOf name qual (defArgs st) (defBody st) (defScope st) .none kV doc pm an cdv ct) ⟨us, []⟩ = pure (ps.zip us)) : Binds K A.fd ps [] := A.F.binds b
theorem kb_app {K : PySem.W.Frag} {x qual : Str} {st : Stmt} {f : Addr} {fd : FuncData} {ps ks : List Str} {n : Nat} (F : Fun K x qual st f fd)
    (h : ∀ (kV doc pm : Value) (an : Option Addr) (cdv ct : Value) (us ws : List Value), us.length = n → ws.length = ks.length → bindArgs (PySem.W.fnOf x qual (defArgs st) (defBody st) (defScope st) .none kV doc pm an cdv ct) ⟨us, ks.zip ws⟩ = pure (ps.zip (us ++ ws))) :
    KBn K fd ps n ks (fun us ws => us ++ ws) (fun vs zs => vs ++ zs) := by
  obtain ⟨oc, od, kV, doc, pm, an, cdv, ct, osl, rfl, lk, hcd⟩ := F.ex
  exact ⟨fun s us ws _ l1 l2 => .of_eq (h kV doc pm an cdv ct us ws l1 l2), fun r1 r2 => r1.append r2⟩
theorem kb_rev {K : PySem.W.Frag} {x qual : Str} {st : Stmt} {f : Addr} {fd : FuncData} {ps ks : List Str} {n : Nat} (F : Fun K x qual st f fd)
    (h : ∀ (kV doc pm : Value) (an : Option Addr) (cdv ct : Value) (us ws : List Value), us.length = n → ws.length = ks.length → bindArgs (PySem.W.fnOf x qual (defArgs st) (defBody st) (defScope st) .none kV doc pm an cdv ct) ⟨us, ks.zip ws⟩ = pure (ps.zip (us ++ ws.reverse))) :
    KBn K fd ps n ks (fun us ws => us ++ ws.reverse) (fun vs zs => vs ++ zs.reverse) := by
  obtain ⟨oc, od, kV, doc, pm, an, cdv, ct, osl, rfl, lk, hcd⟩ := F.ex
  exact ⟨fun s us ws _ l1 l2 => .of_eq (h kV doc pm an cdv ct us ws l1 l2), fun r1 r2 => r1.append r2.reverse⟩
theorem as_reverse {B : Bs} {Hf H : Hp} : ∀ {vs : List V} {os : List O}, AsR B Hf H vs os → AsR B Hf H vs.reverse os.reverse
  | _, _, .nil => .nil
  | _, _, .cons h t => by
    rw [List.reverse_cons, List.reverse_cons]
    exact as_append (as_reverse t) (.cons h .nil)
theorem gvo_rev {n m : Nat} : GvO n m (n + m + 1) (fun vs zs => vs ++ zs.reverse) (fun os ks => os ++ ks.reverse) := fun B Hf H v vs zs os ks h1 h2 l1 l2 => ⟨vs ++ zs.reverse, rfl, as_append h1 (as_reverse h2), by rw [List.length_append, List.length_reverse, l1, l2]⟩
/-- tables by one address, by two -/
abbrev tab1 {α : Type} (C0 : Addr) (F0 : α) : Addr → Option α := fun C => if C = C0 then some F0 else none
abbrev tab2 {α : Type} (C0 : Addr) (F0 : α) (C1 : Addr) (F1 : α) : Addr → Option α := fun C => if C = C0 then some F0 else if C = C1 then some F1 else none
theorem tab1_at {α : Type} {C0 : Addr} {F0 : α} : tab1 C0 F0 C0 = some F0 := if_pos rfl
theorem tab1_ok {α : Type} {C0 : Addr} {F0 : α} {P : Addr → α → Prop} (h : P C0 F0) : ∀ C F, tab1 C0 F0 C = some F → P C F := fun C F e => by
  unfold tab1 at e
  split at e
  · rename_i q; subst q; cases e; exact h
  · cases e
theorem tab2_at {α : Type} {C0 C1 : Addr} {F0 F1 : α} : tab2 C0 F0 C1 F1 C0 = some F0 := if_pos rfl
theorem tab2_ok {α : Type} {C0 C1 : Addr} {F0 F1 : α} {P : Addr → α → Prop} (h : P C0 F0) (h1 : P C1 F1) : ∀ C F, tab2 C0 F0 C1 F1 C = some F → P C F := fun C F e => by
  unfold tab2 at e
  split at e
  · rename_i q; subst q; cases e; exact h
  · split at e
    · rename_i q; subst q; cases e; exact h1
    · cases e
abbrev is1 (C0 : Addr) : Addr → Bool := fun C => decide (C = C0)
theorem is1_ok {C0 : Addr} {P : Addr → Prop} (h : P C0) : ∀ C, is1 C0 C = true → P C := fun C e => by
  have e : C = C0 := by simpa [is1] using e
  subst e; exact h
@[simp] theorem is1_at {C0 : Addr} : is1 C0 C0 = true := by simp [is1]

/-! ### dicts in the calculus -/
section
variable {ds : List Dn.D} {kvs : List (Key × Dn.D)} {y x : E}
theorem gIxK_t : gIxK (.v (.tup ds)) y = none := by unfold gIxK; simp [E.kd]
@[simp] theorem gIxA_t : gIxA (.v (.tup ds)) y = gIx (.v (.tup ds)) y := by unfold gIxA gIxK; simp only [E.kd]; cases gIx (.v (.tup ds)) y <;> rfl
@[simp] theorem gIxA_l : gIxA (.v (.lst ds)) y = gIx (.v (.lst ds)) y := by unfold gIxA gIxK; simp only [E.kd]; cases gIx (.v (.lst ds)) y <;> rfl
@[simp] theorem gIxA_b : gIxA (.b ds) y = gIx (.b ds) y := by unfold gIxA gIxK; simp only [E.kd]; cases gIx (.b ds) y <;> rfl
@[simp] theorem gIxA_n : gIxA (.n ds) y = gIx (.n ds) y := by unfold gIxA gIxK; simp only [E.kd]; cases gIx (.n ds) y <;> rfl
@[simp] theorem gIxA_d {i : Int} : gIxA (.v (.dct kvs)) (.v (.int i)) = (dV kvs (.inl i)).map .v := by unfold gIxA gIxK gIx; simp [E.kd, E.key, E.ls]
@[simp] theorem gIxA_bd {i : Int} : gIxA (.bd kvs) (.v (.int i)) = (dV kvs (.inl i)).map .v := by unfold gIxA gIxK gIx; simp [E.kd, E.key, E.ls]
@[simp] theorem gInD_d {neg : Bool} {i : Int} : gInD neg (.v (.int i)) (.v (.dct kvs)) = some (.v (.bl (if neg then !(dV kvs (.inl i)).isSome else (dV kvs (.inl i)).isSome))) := by
  have h1 : gInA neg (.v (.int i)) (.v (.dct kvs)) = none := by unfold gInA gInL gInSg; simp [E.py, toPy]
  unfold gInD; rw [h1]; unfold gInK; simp [E.kd, E.key]
@[simp] theorem dV_nil {k : Key} : dV [] k = none := rfl
end

/-! ### a text in a tuple of texts -/
def gInS (neg : Bool) : E → E → Option E := fun x y => match x, y with
  | .v (.str z), .v (.tup ds) => match strsD ds with
    | some cs => some (.v (.bl (if neg then !cs.any (fun w => w == z) else cs.any (fun w => w == z))))
    | none => none
  | _, _ => none
section
variable {X : Cx} {B : Bs}
theorem oj_inS {neg : Bool} : OpJ B (rIn B.K neg) (gInS neg) := fun bs σ H ρ S Hf Hs1 Hs2 x y e1 e2 e Q r h1 h2 q k => by
  unfold gInS at q
  split at q
  · rename_i z ds
    split at q
    · rename_i cs q1
      cases q
      cases h1.v_ok
      obtain ⟨a, vs, rfl, t, l⟩ := rep_tup r.ex h2.v_ok
      refine ⟨a, vs, rfl, .inr t, rfl, ?_, ?_⟩
      · rw [strs_ok l q1]; simp [flatV]
      · have e : inV (.str z) vs = cs.any (fun w => w == z) := by rw [strs_ok l q1]; unfold inV; rw [List.any_map]; rfl
        rw [e]
        exact VP.now r k (Rep.bl _)
    · cases q
  · cases q
theorem op_inSq (hK : X.K = B.K) : OpR X (compareOp .In) (rIn B.K false) := hK ▸ op_in_seq
theorem op_notInSq (hK : X.K = B.K) : OpR X (compareOp .NotIn) (rIn B.K true) := hK ▸ op_notIn_seq
end
end Dn

set_option Elab.async false
set_option linter.all false
set_option maxRecDepth 100000
set_option maxHeartbeats 4000000
namespace Dn
open PySem PySem.Spec PyProof.Rows L2

/-! ### the calculus for dicts and objects -/
section
variable {P : E → Dr → Prop} {X : PX} {K : Kt} {ρ : Env} {S : Dr} {fa fb fo fk fv : Env → Dr → Out E} {fr fks : Env → Dr → Out (List O)} {g : Env → Dr → SO}
@[simp] theorem w_stk {α : Type} {P : α → Dr → Prop} : (Out.stk : Out α).w P X = False := rfl
@[simp] theorem w_fld {ok : Addr → Bool} {f : Str} : (fFld ok f fo ρ S).w P X = (fo ρ S).w (fun x S1 => ∃ C fs d, x = .v (.obj C fs) ∧ ok C = true ∧ fs.lookup f = some d ∧ P (.v d) S1) X := by
  unfold fFld
  rw [w_bind]
  congr 1
  funext x S1
  apply propext
  constructor
  · intro h
    split at h
    · rename_i C fs
      split at h
      · rename_i hok
        split at h
        · rename_i d q; exact ⟨C, fs, d, rfl, hok, q, h⟩
        · exact h.elim
      · exact h.elim
    · exact h.elim
  · rintro ⟨C, fs, d, rfl, h1, h2, h3⟩
    simp only [h1, h2, if_true]
    exact h3
@[simp] theorem w_meth {tab : MTab} {m : Str} {n : Nat} : (fMeth tab m n fo fr ρ S).w P X = (fo ρ S).w (fun x S1 => ∃ C fs F, x = .v (.obj C fs) ∧ tab C = some F ∧ fs.lookup m = none ∧ (fr ρ S1).w (fun os S2 => os.length + 1 = n ∧ (F (.v (.obj C fs) :: os) S2).w P X) X) X := by
  unfold fMeth
  rw [w_bind]
  congr 1
  funext x S1
  apply propext
  constructor
  · intro h
    split at h
    · rename_i C fs
      split at h
      · rename_i F q
        split at h
        · rename_i hl
          refine ⟨C, fs, F, rfl, q, hl, ?_⟩
          rw [w_bind] at h
          refine h.imp fun os S2 z => ?_
          split at z
          · rename_i hn; exact ⟨hn, z⟩
          · exact z.elim
        · exact h.elim
      · exact h.elim
    · exact h.elim
  · rintro ⟨C, fs, F, rfl, h1, h2, h3⟩
    simp only [h1, h2, if_true]
    rw [w_bind]
    refine h3.imp fun os S2 z => ?_
    rw [if_pos z.1]
    exact z.2
theorem w_noExc {α : Type} {o : Out α} {P : α → Dr → Prop} : (noExc o).w P X = o.w P noX' := by cases o <;> rfl
@[simp] theorem w_prop {tab : MTab} : (fProp tab fo ρ S).w P X = (fo ρ S).w (fun x S1 => ∃ C fs F, x = .v (.obj C fs) ∧ tab C = some F ∧ (F [.v (.obj C fs)] S1).w P noX') X := by
  unfold fProp
  rw [w_bind]
  congr 1
  funext x S1
  apply propext
  constructor
  · intro h
    split at h
    · rename_i C fs
      split at h
      · rename_i F q
        rw [w_noExc] at h
        exact ⟨C, fs, F, rfl, q, h⟩
      · exact h.elim
    · exact h.elim
  · rintro ⟨C, fs, F, rfl, h1, h2⟩
    simp only [h1]
    rw [w_noExc]
    exact h2
@[simp] theorem w_makeK {C : Addr} {n m : Nat} {F : Addr → List (Str × Dn.D) → List O → Dr → Out (List (Str × Dn.D))} {gO : List O → List O → List O} : (fMakeK C n m F gO fr fks ρ S).w P X = (fr ρ S).w (fun os S1 => (fks ρ S1).w (fun ks S2 => os.length = n ∧ ks.length = m ∧ (F C [] (gO os ks) S2).w (fun fs S3 => P (.v (.obj C fs)) S3) X) X) X := by
  unfold fMakeK
  rw [w_bind]
  congr 1
  funext os S1
  rw [w_bind]
  congr 1
  funext ks S2
  apply propext
  constructor
  · intro h
    split at h
    · rename_i hl
      rw [w_bind] at h
      exact ⟨hl.1, hl.2, h⟩
    · exact h.elim
  · rintro ⟨h1, h2, h3⟩
    rw [if_pos ⟨h1, h2⟩, w_bind]
    exact h3
theorem w_runI {N : Nat} {C : Addr} {fs : List (Str × Dn.D)} {os : List O} {P : List (Str × Dn.D) → Dr → Prop} (h : (g (startI N C fs os) S).w ⟨fun ρ S1 => ∃ fs' r, ρ = some (.ob C fs') :: r ∧ P fs' S1, fun _ _ => False, fun _ _ => False, fun _ _ => False, fun D fs _ S1 => X D fs S1⟩) : (runI N g C fs os S).w P X := by
  unfold runI
  cases q : g (startI N C fs os) S with
  | nx ρ S1 =>
    rw [q] at h
    obtain ⟨fs', r, rfl, h⟩ := h
    simpa using h
  | exc D fs ρ S1 => rw [q] at h; exact h
  | _ => rw [q] at h; exact h.elim
theorem w_callL {i n : Nat} {tab : MTab} {a : Addr} {F : List O → Dr → Out E} (h : ρ[i]? = some (some (.v (.ref a)))) (hF : tab a = some F) : (fCallL i tab n fr ρ S).w P X = (fr ρ S).w (fun os S1 => if os.length = n then (F os S1).w P X else False) X := by
  unfold fCallL
  rw [h]
  dsimp only
  rw [hF]
  dsimp only
  rw [w_bind]
  congr 1
  funext os S1
  split <;> rfl
@[simp] theorem w_get2 : (fGet2 fo fa fb ρ S).w P X = (fo ρ S).w (fun x S1 => ∃ kvs, x.kd = some kvs ∧ (fa ρ S1).w (fun y S2 => (fb ρ S2).w (fun z S3 => ∃ k, y.key = some k ∧ ∃ d, z = .v d ∧ P (.v ((dV kvs k).getD d)) S3) X) X) X := by
  unfold fGet2
  rw [w_bind]
  congr 1
  funext x S1
  apply propext
  constructor
  · intro h
    split at h
    · rename_i kvs q
      refine ⟨kvs, q, ?_⟩
      rw [w_bind] at h
      refine h.imp fun y S2 h => ?_
      rw [w_bind] at h
      refine h.imp fun z S3 h => ?_
      split at h
      · rename_i k qk
        split at h
        · rename_i d; exact ⟨k, qk, d, rfl, h⟩
        · exact h.elim
      · exact h.elim
    · exact h.elim
  · rintro ⟨kvs, q, h⟩
    simp only [q]
    rw [w_bind]
    refine h.imp fun y S2 h => ?_
    rw [w_bind]
    refine h.imp fun z S3 h => ?_
    obtain ⟨k, qk, d, rfl, h⟩ := h
    simp only [qk]
    exact h
@[simp] theorem w_dict1 : (fDict1 fk fv ρ S).w P X = (fk ρ S).w (fun y S1 => (fv ρ S1).w (fun e S2 => ∃ k, y.key = some k ∧ ∃ d, per e = some d ∧ P (.nd [(k, d)]) S2) X) X := by
  unfold fDict1
  rw [w_bind]
  congr 1
  funext y S1
  rw [w_bind]
  congr 1
  funext e S2
  apply propext
  constructor
  · intro h
    split at h
    · rename_i k qk
      split at h
      · rename_i d qd; exact ⟨k, qk, d, qd, h⟩
      · exact h.elim
    · exact h.elim
  · rintro ⟨k, qk, d, qd, h⟩
    simp only [qk, qd]
    exact h
@[simp] theorem w_dc {fi : Env → Dr → Out (List Dn.D)} {tgt : Dn.D → Env → Option Env} {ft : Env → Dr → Out Bool} {vs : List Nat} : (fDc fi tgt ft fk fv vs ρ S).w P X = (fi ρ S).w (fun ds S1 => (dcD tgt ft fk fv (wipeE ρ vs) ds [] S1).w (fun xs S2 => P (.nd xs) S2) noX') X := by
  unfold fDc
  rw [w_bind]
  congr 1
  funext ds S1
  rw [w_bind, w_noExc]
  cases dcD tgt ft fk fv (wipeE ρ vs) ds [] S1 <;> rfl
theorem w_putK {i : Nat} {kvs : List (Key × Dn.D)} (h : ρ[i]? = some (some (.d kvs))) : (sPutK i fb fa ρ S).w K = (fa ρ S).w (fun e S1 => ∃ d, per e = some d ∧ (fb ρ S1).w (fun y S2 => ∃ k, y.key = some k ∧ kvs.length < sizeLine ∧ K.nx (ρ.set i (some (.d (dP kvs k d)))) S2) (fun C fs S1 => K.ex C fs ρ S1)) (fun C fs S1 => K.ex C fs ρ S1) := by
  unfold sPutK
  rw [h]
  dsimp only
  rw [w_so]
  congr 1
  funext e S1
  apply propext
  constructor
  · intro z
    split at z
    · rename_i d q
      refine ⟨d, q, ?_⟩
      rw [w_so] at z
      refine z.imp fun y S2 z => ?_
      split at z
      · rename_i k qk
        split at z
        · rename_i hl; exact ⟨k, qk, hl, z⟩
        · exact z.elim
      · exact z.elim
    · exact z.elim
  · rintro ⟨d, q, z⟩
    simp only [q]
    rw [w_so]
    refine z.imp fun y S2 z => ?_
    obtain ⟨k, qk, hl, z⟩ := z
    simp only [qk]
    rw [if_pos hl]
    exact z
theorem w_clr {i : Nat} {ds : List Dn.D} (h : ρ[i]? = some (some (.l ds))) : (sClr i ρ S).w K = K.nx (ρ.set i (some (.l []))) S := by
  unfold sClr
  rw [h]
  rfl
@[simp] theorem w_parO {i j : Nat} : (sParO i j fa fb ρ S).w K = (i < ρ.length ∧ j < ρ.length ∧ (fa ρ S).w (fun x S1 => (fb ρ S1).w (fun y S2 => ∃ o, stO x = some o ∧ ∃ u, stO y = some u ∧ K.nx ((ρ.set i (some o)).set j (some u)) S2) (fun C fs S1 => K.ex C fs ρ S1)) (fun C fs S1 => K.ex C fs ρ S1)) := by
  unfold sParO
  apply propext
  constructor
  · intro z
    split at z
    · rename_i hl
      refine ⟨hl.1, hl.2, ?_⟩
      rw [w_so] at z
      refine z.imp fun x S1 z => ?_
      rw [w_so] at z
      refine z.imp fun y S2 z => ?_
      split at z
      · rename_i o q
        split at z
        · rename_i u q2; exact ⟨o, q, u, q2, z⟩
        · exact z.elim
      · exact z.elim
    · exact z.elim
  · rintro ⟨h1, h2, z⟩
    rw [if_pos ⟨h1, h2⟩, w_so]
    refine z.imp fun x S1 z => ?_
    rw [w_so]
    refine z.imp fun y S2 z => ?_
    obtain ⟨o, q, u, q2, z⟩ := z
    simp only [q, q2]
    exact z
theorem w_frz {i : Nat} {o : O} {d : Dn.D} (h : ρ[i]? = some (some o)) (q : frzO o = some d) : (sFrz i g ρ S).w K = (g (ρ.set i (some (.v d))) S).w K := by
  unfold sFrz
  rw [h]
  dsimp only
  rw [q]
theorem w_fldI {ok : Addr → Bool} {f : Str} {C : Addr} {fs : List (Str × Dn.D)} {r : Env} (hok : ok C = true) (hl : fs.length < 1000) : (sFldI ok f fa (some (.ob C fs) :: r) S).w K = (fa (some (.ob C fs) :: r) S).w (fun e S1 => ∃ d, per e = some d ∧ K.nx (some (.ob C (putG f d fs)) :: r) S1) (fun D hs S1 => K.ex D hs (some (.ob C fs) :: r) S1) := by
  unfold sFldI
  rw [w_so]
  congr 1
  funext e S1
  apply propext
  constructor
  · intro z
    split at z
    · exact z.elim
    · rename_i d q
      simp only [List.getElem?_cons_zero] at z
      rw [if_pos ⟨hok, hl⟩] at z
      exact ⟨d, q, z⟩
  · rintro ⟨d, q, z⟩
    simp only [q, List.getElem?_cons_zero]
    rw [if_pos ⟨hok, hl⟩]
    exact z
end

/-! ### what a dict comprehension gives -/
theorem dP_len (kvs : List (Key × Dn.D)) (k : Key) (d : Dn.D) : (dP kvs k d).length ≤ kvs.length + 1 := by
  unfold dP
  split <;> simp
theorem dc_fold {α : Type} {tgt : Dn.D → Env → Option Env} {fk fv : Env → Dr → Out E} {ρ : Env} {S : Dr} (gd : α → Dn.D) (ky : α → Key) (vl : α → Dn.D) : ∀ (l : List α) (acc : List (Key × Dn.D)), acc.length + l.length ≤ 16777216 →
    (∀ a ∈ l, ∃ ρ1, tgt (gd a) ρ = some ρ1 ∧ (fk ρ1 S).w (fun y S1 => y.key = some (ky a) ∧ S1 = S) noX' ∧ (fv ρ1 S).w (fun e S1 => per e = some (vl a) ∧ S1 = S) noX') →
    dcD tgt fYes fk fv ρ (l.map gd) acc S = .ok (l.foldl (fun acc a => dP acc (ky a) (vl a)) acc) S
  | [], acc, _, _ => rfl
  | a :: l, acc, hl, h => by
    obtain ⟨ρ1, e1, w1, w2⟩ := h a (by simp)
    have hl' : acc.length + l.length + 1 ≤ 16777216 := by simpa [Nat.add_assoc] using hl
    rw [List.map_cons, List.foldl_cons]
    unfold dcD
    rw [e1]
    dsimp only
    show (Out.ok true S).bind _ = _
    cases q1 : fk ρ1 S with
    | stk => rw [q1] at w1; exact w1.elim
    | exc C fs S1 => rw [q1] at w1; exact w1.elim
    | ok y S1 =>
      rw [q1] at w1
      obtain ⟨k1, k1'⟩ := w1
      rw [k1'] at q1
      cases q2 : fv ρ1 S with
      | stk => rw [q2] at w2; exact w2.elim
      | exc C fs S2 => rw [q2] at w2; exact w2.elim
      | ok e S2 =>
        rw [q2] at w2
        obtain ⟨k2, k2'⟩ := w2
        rw [k2'] at q2
        simp only [Out.bind, if_true, q1, q2, k1, k2]
        have hz : acc.length < sizeLine := by rw [szl]; omega
        rw [if_pos hz]
        refine dc_fold gd ky vl l _ (by have := dP_len acc (ky a) (vl a); omega) fun b m => h b (by simp [m])
end Dn

set_option Elab.async false
set_option linter.all false
set_option maxRecDepth 100000
set_option maxHeartbeats 4000000
namespace Dn
open PySem PySem.Spec PyProof.Rows L2

/-! ### a, b = a list -/
def tgLs (n : Nat) (gs : List Dn.D → Env → Option Env) : Dn.D → Env → Option Env := fun d ρ => match d with
  | .lst ds => if ds.length = n then gs ds ρ else none
  | _ => none
@[simp] theorem tgLs_l {n : Nat} {gs : List Dn.D → Env → Option Env} {ds : List Dn.D} {ρ : Env} : tgLs n gs (.lst ds) ρ = if ds.length = n then gs ds ρ else none := rfl
section
variable {X : Cx} {B : Bs} {es : List Expr} {pos : Pos} {ts : TGs} {ix : List Nat} {gs : List Dn.D → Env → Option Env}
theorem jg_lst {k n : Nat} (hK : X.K = B.K) (hc : X.calm = true) (h : JGs X B es ts ix gs) (hn : (assignEach es X.env).length = n := by rfl) (hst : (assignEach es X.env).findIdx? (·.1) = none := by rfl) :
    JG X B (.Tuple es k pos) (gLst B.K n ts) ix (tgLs n gs) := ⟨hK ▸ pg_lst hc h.1 hn hst, fun bs σ H ρ S Hf v d ρ' Q r z q k => by
  unfold tgLs at q
  split at q
  · split at q
    · rename_i hl
      cases z with
      | lst t l => exact ⟨_, _, rfl, SqL.of (r.ex _ _ t), by rw [l.length]; exact hl, h.2 bs σ H ρ S Hf _ _ ρ' Q r l q k⟩
    · cases q
  · cases q⟩
end
end Dn

set_option Elab.async false
set_option linter.all false
set_option maxRecDepth 100000
set_option maxHeartbeats 4000000
namespace PySem.W
open PySem PySem.Spec PySem.Calls PyProof.Rows
section
variable {prog : Program} {w : World} {A : Around} {E : Value → Shared → Prop} {s : Shared} {K : Frag} {x D : Addr} {ox : Obj} {od : Option Obj}
/-- as findObj_dataN, with a dict of its own -/
theorem dn_findData {C : Addr} {name : Str} {a g : Value} (hc : (clsIn K C).isSome = true) (ha : findIn K (.ref C) name = some (some a)) (hg : specialIn K a "__get__" = some (some g)) (ht : takesIn K a = some true) : findObj K C od name = some (.bind g a) := by
  obtain ⟨cd, hc⟩ := Option.isSome_iff_exists.mp hc
  unfold findObj
  rw [hc, Option.bind_some, ha, Option.bind_some]
  simp [hg, ht]
theorem dn_classE {Q : Option Value → Shared → Prop} (hga : findIn K (.ref D) "__getattribute__" = some (some (.builtin "BaseException.__getattribute__"))) (hgt : findIn K (.ref D) "__getattr__" = some none) (hsub : subIn K (.ref D) (.type "BaseException") = some true)
    (hdct : hasDictIn K D = true) (ha : findIn K (.ref D) "__class__" = some (some (.builtin "object.__class__")))
    (hn : specialIn K (.builtin "object.__class__") "__get__" = some (some (.builtin "getset_descriptor.__get__"))) (htk : takesIn K (.builtin "object.__class__") = some true) (hm : mroIn K D (.type "object") = some true)
    (X : K.In s.heap) (I : InstAt s.heap x ox D od) (h : Q (some (.ref D)) { s with toks := s.toks + 1 }) : wpAny (model prog w) A (getAttr? (.ref x) "__class__") Q E s := by
  have hf : findObj K D od "__class__" = some (.bind (.builtin "getset_descriptor.__get__") (.builtin "object.__class__")) := dn_findData (by obtain ⟨cd, hc, _⟩ := any_some hdct; rw [hc]; rfl) ha hn htk
  obtain ⟨hp, g, d, t, os⟩ := s
  have L0 := I.type (M := model prog w)
  have L1 := looks_findIn (M := model prog w) X hga
  have L2 := looks_findIn (M := model prog w) X hgt
  have L3 := looks_find (M := model prog w) X I hf
  have sub : Looks (model prog w) hp (isInstance (.ref x) (.type "BaseException")) true := L0.andThen (looks_subIn X hsub)
  have hx0 : (false && onTheHeap (Value.builtin "BaseException.__getattribute__")) = false := rfl
  have hx2 : (Value.builtin "BaseException.__getattribute__" == Value.builtin "object.__getattribute__") = false := by decide +kernel
  have hx1 : (onTheHeap (Value.ref D) && Value.builtin "BaseException.__getattribute__" == Value.builtin "object.__getattribute__") = false := by rw [hx2]; rfl
  unfold getAttr? getAttrBy? getAttrBy
  refine wpAny_bind (wpAny_mkText (wpAny_bind (wpAny_attempt (wpAny_holding (wpAny_bind (L0.at (wpAny_bind (L1.at ?_))))))))
  show wpAny _ _ (if (onTheHeap (Value.ref D) && Value.builtin "BaseException.__getattribute__" == Value.builtin "object.__getattribute__") = true then _ else _) _ _ _
  rw [hx1, if_neg Bool.false_ne_true]
  unfold getAttrByItsOwn hookBefore
  refine wpAny_bind ?_
  rw [if_pos (show onTheHeap (Value.ref D) = true from rfl)]
  refine L2.at ?_
  refine wpAny_bind (wpAny_attempt (wpAny_holding ?_))
  unfold callGetattribute
  rw [hx0, if_neg Bool.false_ne_true]
  unfold boundAndCalled
  rw [PySem.F.excAttr_ValueError.ga.bind (.ref x)]
  refine wpAny_bind (wpAny_pure ?_)
  show wpAny _ _ (call (.builtin "BaseException.__getattribute__") [.ref x, .str "__class__" t]) _ _ _
  refine wpAny_call (codeAny_call_builtin PySem.F.excAttr_ValueError.ga.plain PySem.F.entry_bexc_ga ?_)
  refine @check_slot (model prog w) _ _ ⟨hp, g, d, t + 1, os⟩ "BaseException.__getattribute__" "BaseException" "__getattribute__" (.ref x) [.str "__class__" t] [] _ (by decide +kernel) (by decide +kernel) sub (PySem.F.args_bexc_ga (.ref x) (.str "__class__" t)) ?_
  unfold Builtin.«object.__getattribute__»
  refine wpAny_bind (wpAny_of_eq (a := ((Value.ref x : Value), [Value.str "__class__" t])) (by first | rfl | (simp only [slotArgs]; rfl)) ?_)
  refine wpAny_bind (wpAny_pure (wpAny_bind (L0.at (wpAny_bind (L3.at ?_)))))
  show wpAny _ _ (holding [Value.builtin "object.__class__"] (call (.builtin "getset_descriptor.__get__") [.builtin "object.__class__", .ref x, .ref D]) >>= ret) _ _ _
  refine wpAny_bind (wpAny_holding (wpAny_call (class_get (s := ⟨hp, g, d, t + 1, os⟩) (ox := ox) (od := od) X I hm ?_)))
  refine wpAny_pure ?_
  show wpAny _ _ (handedOut (.ref D)) _ _ _
  rw [handedOut_of (v := .ref D) rfl]
  first
    | exact wpAny_pure (wpAny_pure h)
    | exact wpAny_pure h
    | exact wpAny_pure (wpAny_bind (wpAny_pure (wpAny_pure h)))
theorem dn_kitx (hga : findIn K (.ref D) "__getattribute__" = some (some (.builtin "BaseException.__getattribute__"))) (hgt : findIn K (.ref D) "__getattr__" = some none) (hsub : subIn K (.ref D) (.type "BaseException") = some true) (hdct : hasDictIn K D = true) (ha : findIn K (.ref D) "__class__" = some (some (.builtin "object.__class__")))
    (hn : specialIn K (.builtin "object.__class__") "__get__" = some (some (.builtin "getset_descriptor.__get__"))) (htk : takesIn K (.builtin "object.__class__") = some true) (hm : mroIn K D (.type "object") = some true) :
    KitX K (.ref x) (.ref D) (fun h => InstAt h x ox D od) where
  ty := fun _ _ _ I => I.type
  it := fun _ _ X _ => by
    obtain ⟨cdD, hcD, _⟩ := any_some hdct
    unfold clsIn at hcD
    split at hcD
    · rename_i c' d' cd' sl' ho
      intro A' Q' E' s' k q
      unfold isType loadHead
      exact wpAny_bind (wpAny_loadPart (k _ _ (X _ _ ho)) (wpAny_pure q))
    · cases hcD
  ne := (handS_kitx_exc (x := x) (ox := ox) hga hgt hsub hdct ha hn htk hm).ne
  ca := fun X I k => dn_classE hga hgt hsub hdct ha hn htk hm X I k
theorem kit_ref {C D : Addr} {b : Bool} (hdct : hasDictIn K D = true) (ht : typeIn K (.ref D) = some (.type "type")) (h4 : subIn K (.ref C) (.ref D) = some b) (hb : C = D → b = true) : kitOne K (.ref C) (.ref D) = some b := by
  unfold kitOne
  by_cases e : C = D
  · subst e
    rw [if_pos (by simp), hb rfl]
  · rw [if_neg (by simpa using e)]
    obtain ⟨cd, hc, _⟩ := any_some hdct
    show (if ((clsIn K D).isSome && typeIn K (.ref D) == some (.type "type")) = true then subIn K (.ref C) (.ref D) else none) = some b
    rw [if_pos (by rw [hc, ht] <;> rfl)]
    exact h4
end
end PySem.W

namespace Dn
open PySem PySem.Spec PyProof.Rows L2
/-! ### isinstance(e, C) in an except suite -/
theorem call_isX {X : Cx} {a D dd : Addr} {oe : Obj} {pn : List (Addr × Obj)} (C : ExcC X.K D) (hz : Zc (.ref D) (some dd) oe) (hf : ∃ vs, oe.data = .fields vs) :
    CallR (X.suite a ((a, oe) :: pn)) (.builtin "isinstance") (fun xs H Q => ∃ (c : V) (cv : Value) (b : Bool) (fs : List (Str × V)), xs = [.ref a, c] ∧ H dd = some (.xd fs) ∧ (∀ u, RelV c u → u = cv) ∧ PySem.W.kitOne X.K (.ref D) cv = some b ∧ Q (.bl b) H) := by
  intro pins s σ H xs us Q I r h
  obtain ⟨c, cv, b, fs, rfl, ea, hcv, e, q⟩ := h
  cases r with
  | cons rx rr =>
    cases rr with
    | cons rt rr =>
      cases rr
      cases rx
      have ec := hcv _ rt
      subst ec
      obtain ⟨hget, _⟩ := I.pin (a, oe) (List.mem_append.mpr (.inl List.mem_cons_self))
      obtain ⟨vs, hd⟩ := hf
      have hx : ObjOk X.prog X.w H s.heap dd (.xd fs) := I.hok dd _ ea
      obtain ⟨mA, hns, hr⟩ := hx
      obtain ⟨od, ho, hl⟩ := lookIn_ns hns
      have J : PySem.W.InstAt s.heap a oe D (some od) := ⟨hget, hz.1, by unfold PySem.W.notCls; rw [hd] <;> rfl, by rw [hz.2]; exact ho⟩
      exact PySem.W.kia_one (PySem.W.dn_kitx C.hg C.hk C.hs C.hd C.ha C.hn C.ht C.hm) I.kIn J e (fun z => nomatch z) fun tk => ⟨.bl b, H, I.kept (t' := tk) fun _ _ z => z, rfl, q⟩
def fXis (i : Nat) (tab : Addr → Option Bool) : Env → Dr → Out E := fun ρ S => match ρ[i]? with
  | some (some (.x C _)) => match tab C with
    | some b => .ok (.v (.bl b)) S
    | none => .stk
  | _ => .stk
@[simp] theorem w_xis {i : Nat} {tab : Addr → Option Bool} {C : Addr} {fs : List (Str × Dn.D)} {b : Bool} {ρ : Env} {S : Dr} {P : E → Dr → Prop} {X : PX} (h : ρ[i]? = some (some (.x C fs))) (ht : tab C = some b) : (fXis i tab ρ S).w P X = P (.v (.bl b)) S := by
  unfold fXis
  rw [h]
  dsimp only
  rw [ht]
  rfl
section
variable {X : Cx} {B : Bs}
theorem je_xis (i : Nat) {a dd C : Addr} {oe : Obj} {pn : List (Addr × Obj)} {x cn : Str} {D : Addr} {p p1 p2 pos : Pos} {tab : Addr → Option Bool} (T : ∀ C b, tab C = some b → ExcC X.K C ∧ PySem.W.kitOne X.K (.ref C) (.ref D) = some b)
    (hm : X.mg "isinstance" = none) (hcn : X.mg cn = some (.ref D)) (hz : Zc (.ref C) (some dd) oe) (hf : ∃ vs, oe.data = .fields vs) (hN : X.N[i]? = some x := by rfl) (hv : Vis X.env.scope x := by first | exact Or.inl rfl | exact Or.inr (Or.inl rfl) | exact Or.inr (Or.inr rfl))
    (hd : (x == ("__debug__" : Str)) = false := by decide) (hcd : (x == ("__classdict__" : Str)) = false := by decide) (hd2 : (cn == ("__debug__" : Str)) = false := by decide) (hgi : Gl X "isinstance" := by rfl) (hg : Gl X cn := by rfl)
    (hs1 : starEach (.Name x p1 :: [.Name cn p2]) X.env = (false, eval (.Name x p1) X.env) :: starEach [.Name cn p2] X.env := by exact star_c rfl) (hs2 : starEach (.Name cn p2 :: []) X.env = (false, eval (.Name cn p2) X.env) :: starEach [] X.env := by exact star_c rfl) (hpl : (backTo pos (starEach [.Name cn p2] X.env)).any (·.1) = false := by exact star_any rfl) :
    JE (X.suite a ((a, oe) :: pn)) W0 (B.exc a dd C) (.Call (.Name "isinstance" p) [.Name x p1, .Name cn p2] [] pos) (fXis i tab) := by
  cases ht : tab C with
  | some b =>
    obtain ⟨T1, T2⟩ := T C b ht
    refine JE.mk (pe_callB (X := X.suite a ((a, oe) :: pn)) (call_isX T1 hz hf) hgi hm (by decide +kernel) (pa_cons (pe_var (X := X.suite a ((a, oe) :: pn)) (i := i) hN hv hd hcd) (pa_cons (pe_glob (X := X.suite a ((a, oe) :: pn)) (v := .ref D) hg hcn rfl hd2) pa_nil hs2) hs1) (by decide) (by decide) hs1 hpl) fun bs σ H ρ S Hf Q r h => ?_
    unfold fXis at h
    split at h
    · rename_i C' fs e
      obtain ⟨v, e2, rfl, rfl, n1, n2, fv, h1, l⟩ := r.sl i _ e
      rw [ht] at h
      exact ⟨_, e2, .ref D, .ref D, b, fv, rfl, r.go _ _ h1 n1 n2, fun u q => by cases q; rfl, T2, EPost.now r h (Rep.bl _)⟩
    · exact h.elim
  | none =>
    refine .of ?_
    intro bs σ H ρ S Hf Q r h
    unfold fXis at h
    split at h
    · rename_i C' fs e
      obtain ⟨v, e2, rfl, rfl, _⟩ := r.sl i _ e
      rw [ht] at h
      exact h.elim
    · exact h.elim
end
end Dn

set_option Elab.async false
set_option linter.all false
set_option maxRecDepth 100000
set_option maxHeartbeats 4000000
namespace Dn
open PySem PySem.Spec PyProof.Rows L2

/-! ### tables over several classes -/
def isL : List Addr → Addr → Bool
  | [] => fun _ => false
  | C0 :: r => fun C => decide (C = C0) || isL r C
def AllP (P : Addr → Prop) : List Addr → Prop
  | [] => True
  | C0 :: r => P C0 ∧ AllP P r
theorem isL_ok {P : Addr → Prop} : ∀ {Cs : List Addr}, AllP P Cs → ∀ C, isL Cs C = true → P C
  | [], _, _, e => by cases e
  | C0 :: r, h, C, e => by
    have e : (decide (C = C0) || isL r C) = true := e
    rw [Bool.or_eq_true] at e
    rcases e with e | e
    · have e : C = C0 := by simpa using e
      subst e; exact h.1
    · exact isL_ok h.2 C e
@[simp] theorem isL_nil {C : Addr} : isL [] C = false := rfl
@[simp] theorem isL_cons {C0 C : Addr} {r : List Addr} : isL (C0 :: r) C = (decide (C = C0) || isL r C) := rfl
def tabL {α : Type} : List (Addr × α) → Addr → Option α
  | [] => fun _ => none
  | (C0, F0) :: r => fun C => if C = C0 then some F0 else tabL r C
def AllT {α : Type} (P : Addr → α → Prop) : List (Addr × α) → Prop
  | [] => True
  | (C0, F0) :: r => P C0 F0 ∧ AllT P r
theorem tabL_ok {α : Type} {P : Addr → α → Prop} : ∀ {Cs : List (Addr × α)}, AllT P Cs → ∀ C F, tabL Cs C = some F → P C F
  | [], _, _, _, e => by cases e
  | (C0, F0) :: r, h, C, F, e => by
    by_cases q : C = C0
    · have e2 : F0 = F := Option.some.inj ((if_pos q).symm.trans e)
      rw [q, ← e2]; exact h.1
    · exact tabL_ok h.2 C F ((if_neg q).symm.trans e)
@[simp] theorem tabL_nil {α : Type} {C : Addr} : (tabL [] C : Option α) = none := rfl
@[simp] theorem tabL_cons {α : Type} {C0 C : Addr} {F0 : α} {r : List (Addr × α)} : tabL ((C0, F0) :: r) C = if C = C0 then some F0 else tabL r C := rfl
theorem tabL_at {α : Type} {C0 : Addr} {F0 : α} {r : List (Addr × α)} : tabL ((C0, F0) :: r) C0 = some F0 := if_pos rfl
end Dn

set_option Elab.async false
set_option linter.all false
set_option maxRecDepth 100000
set_option maxHeartbeats 4000000
/-! ### a def whose closure holds its class: super().__init__(..) -/
namespace Dn.Sup
open PySem
section
variable {M : Model} {A : Around} {E : Value → Shared → Prop} {s₀ s : Shared} {m cm : Str → Option Value} {env : PySem.Env} {cs : List (Str × Addr)}
theorem stL {n : Str} {v : Value} {Q : Unit → Shared → Prop} (x : InCallC s₀ env.locals m cs cm s) (hk : env.scope.kind = .function) (hl : env.kindOf n = some .local)
    (h : ∀ s', InCallC s₀ env.locals (fun y => if y = n then some v else m y) cs cm s' → Q () s') : wpAny M A (storeName env n v) Q E s := by
  refine wpAny_storeName_local hl x.toInCall.ns (fun h' hn' hs' => h _ ⟨⟨?_, hn', fun b o e => ?_, x.toInCall.fresh⟩, fun k c hc => ?_, x.apart, x.above⟩) (by rw [hk]; rfl)
  · obtain ⟨h₁, tk, rfl⟩ := x.toInCall.same
    exact ⟨h', _, rfl⟩
  · exact hs'.extBut b o (Nat.ne_of_lt (Nat.lt_of_lt_of_le (Heap.lt_size e) x.toInCall.fresh)) (x.toInCall.keep b o e)
  · exact (x.cell k c hc).sameBut hs' (Nat.ne_of_gt (x.above k c (mem_of_lookup hc)))
theorem stC {n : Str} {c : Addr} {v : Value} {Q : Unit → Shared → Prop} (x : InCallC s₀ env.locals m cs cm s) (hk : env.scope.kind = .function) (hl : env.kindOf n = some .cell)
    (hc0 : env.cells.lookup n = some c) (hc : cs.lookup n = some c)
    (h : ∀ s', InCallC s₀ env.locals m cs (fun y => if y = n then some v else cm y) s' → Q () s') : wpAny M A (storeName env n v) Q E s := by
  have hLc := x.above n c (mem_of_lookup hc)
  refine wpAny_storeName_cell hk hl hc0 (x.cell n c hc) fun h' hc' hs' => h _ ⟨⟨?_, x.toInCall.ns.sameBut hs' (Nat.ne_of_lt hLc), fun b o e => ?_, x.toInCall.fresh⟩, fun k c' hk' => ?_, x.apart, x.above⟩
  · obtain ⟨h₁, tk, rfl⟩ := x.toInCall.same
    exact ⟨h', _, rfl⟩
  · exact hs'.extBut b o (Nat.ne_of_lt (Nat.lt_trans (Nat.lt_of_lt_of_le (Heap.lt_size e) x.toInCall.fresh) hLc)) (x.toInCall.keep b o e)
  · by_cases hkn : k = n
    · subst hkn
      rw [hc] at hk'; cases hk'
      simpa using hc'
    · rw [if_neg hkn]
      exact (x.cell k c' hk').sameBut hs' fun e => hkn (name_of_addr x.apart (mem_of_lookup hk') (e ▸ mem_of_lookup hc))
theorem bindP (f : Str × Value → PUnit → Sem (ForInStep PUnit)) (hf : ∀ n v u, f (n, v) u = (do storeName env n v; pure (.yield ⟨⟩))) (hk : env.scope.kind = .function) :
    ∀ (binds : List (Str × Value)) (m cm : Str → Option Value) (s : Shared) (Q : PUnit → Shared → Prop), InCallC s₀ env.locals m cs cm s →
      (∀ x ∈ binds, env.kindOf x.1 = some .local ∨ (env.kindOf x.1 = some .cell ∧ ∃ c, env.cells.lookup x.1 = some c ∧ cs.lookup x.1 = some c)) →
      (∀ s', InCallC s₀ env.locals (bindL env.kindOf binds m) cs (bindC env.kindOf binds cm) s' → Q ⟨⟩ s') → wpAny M A (forIn binds ⟨⟩ f) Q E s
  | [], m, cm, s, Q, x, _, h => by rw [List.forIn_nil]; exact wpAny_pure (h s x)
  | (n, v) :: r, m, cm, s, Q, x, hkind, h => by
    rw [List.forIn_cons, hf]
    have hr : ∀ y ∈ r, env.kindOf y.1 = some .local ∨ (env.kindOf y.1 = some .cell ∧ ∃ c, env.cells.lookup y.1 = some c ∧ cs.lookup y.1 = some c) := fun y hy => hkind y (List.mem_cons_of_mem _ hy)
    rcases hkind (n, v) List.mem_cons_self with hl | ⟨hl, c, hc0, hc⟩
    · refine wpAny_bind (wpAny_bind (stL x hk hl fun s' x' => wpAny_pure (bindP f hf hk r _ _ s' Q x' hr fun s'' x'' => h s'' ?_)))
      unfold bindL bindC; rw [if_pos hl, if_pos hl]; exact x''
    · have hnl : ¬ env.kindOf n = some .local := by rw [hl]; decide
      refine wpAny_bind (wpAny_bind (stC x hk hl hc0 hc fun s' x' => wpAny_pure (bindP f hf hk r _ _ s' Q x' hr fun s'' x'' => h s'' ?_)))
      unfold bindL bindC; rw [if_neg hnl, if_neg hnl]; exact x''
end
theorem cells_app : ∀ (names : List (Str × NameKind)) (n : Nat) (acc : List (Str × Addr)), cellsFrom n names acc = cellsFrom n names [] ++ acc
  | [], _, acc => rfl
  | (name, kind) :: r, n, acc => by
    unfold cellsFrom
    split
    · rw [cells_app r (n + 1) ((name, n) :: acc), cells_app r (n + 1) [(name, n)], List.append_assoc]; rfl
    · exact cells_app r n acc
theorem lk_app {α : Type} {x : Str} {v : α} : ∀ {l1 l2 : List (Str × α)}, l1.lookup x = some v → (l1 ++ l2).lookup x = some v
  | (k, u) :: r, l2, h => by
    rw [List.cons_append, List.lookup_cons]
    rw [List.lookup_cons] at h
    cases e : x == k with
    | true => rw [e] at h; exact h
    | false => rw [e] at h; exact lk_app h
theorem lk_app2 {α : Type} {x : Str} {v : α} : ∀ {l1 l2 : List (Str × α)}, (l1 ++ l2).lookup x = some v → l1.lookup x = some v ∨ l2.lookup x = some v
  | [], l2, h => .inr h
  | (k, u) :: r, l2, h => by
    rw [List.cons_append, List.lookup_cons] at h
    rw [List.lookup_cons]
    cases e : x == k with
    | true => rw [e] at h; exact .inl h
    | false => rw [e] at h; exact lk_app2 h
theorem lk_app3 {α : Type} {x : Str} {v : α} : ∀ {l1 l2 : List (Str × α)}, l1.lookup x = none → l2.lookup x = some v → (l1 ++ l2).lookup x = some v
  | [], l2, _, h => h
  | (k, u) :: r, l2, h, h2 => by
    rw [List.cons_append, List.lookup_cons]
    rw [List.lookup_cons] at h
    cases e : x == k with
    | true => rw [e] at h; cases h
    | false => rw [e] at h; exact lk_app3 h h2
section
variable {M : Model} {A : Around} {E : Value → Shared → Prop} {s : Shared}
theorem newEnvS {scope : Scope} {globals : Addr} {cl : List (Str × Addr)} {binds : List (Str × Value)} {qual : Str} {func : Option Addr} {code : Value} {builtins : Addr} {Q : PySem.Env → Shared → Prop}
    (hk : scope.kind = .function)
    (hkind : ∀ x ∈ binds, scope.names.lookup x.1 = some .local ∨ (scope.names.lookup x.1 = some .cell ∧ ((cellsFrom (s.heap.objs.size + 1) scope.names []).lookup x.1).isSome = true))
    (hQ : ∀ env, env = newEnv scope s.heap.objs.size globals (cellsFrom (s.heap.objs.size + 1) scope.names cl) qual func code none builtins →
      ∀ s', InCallC s env.locals (bindL env.kindOf binds fun _ => none) (cellsFrom (s.heap.objs.size + 1) scope.names []) (bindC env.kindOf binds fun _ => none) s' → Q env s') :
    wpAny M A (newFunctionEnv scope globals cl binds qual func code none builtins) Q E s := by
  simp only [newFunctionEnv, Option.isSome_none, Bool.false_eq_true, if_false]
  refine wpAny_bind (wpAny_alloc ?_)
  refine wpAny_bind (wpAny_layCells _ (fun name kind cells => by cases hkc : kind == NameKind.cell <;> simp [hkc]) _ _ _ _ ?_)
  have ok := cellsFrom_ok scope.names (s.heap.push { cls := .type "frame", data := .dict #[] }) (s.heap.objs.size + 1) [] ⟨fun _ _ hm => (nomatch hm), List.Pairwise.nil⟩ (by rw [Heap.size_push]; exact Nat.le_refl _)
  rw [Heap.size_push] at ok
  rw [show ({ s with heap := s.heap.push { cls := .type "frame", data := .dict #[] } } : Shared).heap.objs.size = s.heap.objs.size + 1 from Heap.size_push ..]
  refine wpAny_bind (bindP (s₀ := s) (env := newEnv scope s.heap.objs.size globals (cellsFrom (s.heap.objs.size + 1) scope.names cl) qual func code none builtins) (cs := cellsFrom (s.heap.objs.size + 1) scope.names [])
    _ (fun _ _ _ => rfl) hk binds (fun _ => none) (fun _ => none) _ _
    ⟨⟨⟨_, _, rfl⟩, (Heap.Ns.new s.heap (.type "frame")).keeps (pushCells_keeps _ _), fun b o e => pushCells_keeps _ _ b o (Heap.get?_push_of_some _ e), Nat.le_refl _⟩,
      fun n c hc => (ok.empty n c (mem_of_lookup hc)).1, ok.apart, fun n c hm => (ok.empty n c hm).2⟩
    (fun x hx => (hkind x hx).imp id fun ⟨h1, h2⟩ => ?_) fun s' x => wpAny_pure (hQ _ rfl s' x))
  obtain ⟨c, hc⟩ := Option.isSome_iff_exists.mp h2
  refine ⟨h1, c, ?_, hc⟩
  show (cellsFrom (s.heap.objs.size + 1) scope.names cl).lookup x.1 = some c
  rw [cells_app]
  exact lk_app hc
end
end Dn.Sup
namespace Dn
open PySem PySem.Spec PyProof.Rows L2
structure FnScopeS (N P : List Str) (sc : Scope) : Prop where
  kind : sc.kind = .function
  co : sc.isCoroutine = false
  gen : sc.isGenerator = false
  nd : N.Nodup
  pre : N.take P.length = P
  par : ∀ x ∈ P, sc.names.lookup x = some .local ∨ sc.names.lookup x = some .cell
  free : ∀ y ∈ sc.names, y.2 = .free → y.1 = "__class__"
  sup : sc.names.lookup ("super" : Str) = some .globalImplicit
  cls : sc.names.lookup ("__class__" : Str) = some .free
abbrev envS (name : Str) (scope : Scope) (L a : Addr) (cd : Value) (cc : Addr) : PySem.Env := PySem.W.envX name scope L a cd (cellsFrom (L + 1) scope.names [("__class__", cc)])
def cxOfS (CX : CXT) (P : Program) (w : World) (K : PySem.W.Frag) (mg : Str → Option Value) (base : Heap) (N : List Str) (qual : Str) (scope : Scope) (f : Addr) (cd : Value) (cc : Addr) (A : Around) (outer : List PySem.Env) (s : Shared) (H : Hp) (E : XK) : Cx where
  prog := P
  w := w
  K := K
  mg := mg
  base := base
  A := A.deeper (envS qual scope s.heap.objs.size f cd cc)
  N := N
  s_0 := s
  H_0 := H
  env := envS qual scope s.heap.objs.size f cd cc
  outer := outer
  stack := envS qual scope s.heap.objs.size f cd cc :: outer
  ex := []
  calm := true
  fn := fun x => !(x == "__class__")
  pn := []
  xe := fun e s' => wpAny (model P w) (A.deeper (envS qual scope s.heap.objs.size f cd cc)) (leaving (envS qual scope s.heap.objs.size f cd cc) e) (fun _ s'' => CX outer H s E e s'') (fun e' s'' => CX outer H s E e' s'') s'
/-- the cell of the class -/
def CellC (K : PySem.W.Frag) (cc D : Addr) : Prop := ∃ o, K.lookup cc = some o ∧ o.data = .cell (some (.ref D))
theorem inv_startS {CX : CXT} {P : Program} {w : World} {K : PySem.W.Frag} {mg : Str → Option Value} {base : Heap} {N ps : List Str} {qual : Str} {scope : Scope} {f cc D : Addr} {cd : Value} {A : Around} {outer : List PySem.Env} {s s1 : Shared} {H : Hp} {E : XK} {us : List Value} {vs : List V}
    (S : FnScopeS N ps scope) (hC : CellC K cc D) (hd : A.handled = none) (e0 : Env0 P w K mg base A outer s H) (hl : vs.length = ps.length) (r : Vals vs us)
    (x : InCallC s s.heap.objs.size (bindL (envS qual scope s.heap.objs.size f cd cc).kindOf (ps.zip us) fun _ => none) (cellsFrom (s.heap.objs.size + 1) scope.names []) (bindC (envS qual scope s.heap.objs.size f cd cc).kindOf (ps.zip us) fun _ => none) s1) :
    Inv (cxOfS CX P w K mg base N qual scope f cd cc A outer s H E) [] (L2.start N vs) H s1 := by
  have hpl : ps.length ≤ N.length := by have := congrArg List.length S.pre; rw [List.length_take] at this; omega
  obtain ⟨h1, tk, rfl, hk⟩ := x.done
  have noA : ∀ b : Addr, b ∉ (cxOfS CX P w K mg base N qual scope f cd cc A outer s H E).ex := fun b z => absurd (show b ∈ ([] : List Addr) from z) (by simp)
  obtain ⟨oc, hoc, hod⟩ := hC
  have hb : base.get? cc = some oc := e0.mod.kin _ _ hoc
  obtain ⟨hs, hH⟩ := e0.bs cc oc hb
  have hcl : (envS qual scope s.heap.objs.size f cd cc).cells = cellsFrom (s.heap.objs.size + 1) scope.names [] ++ [(("__class__" : Str), cc)] := Sup.cells_app _ _ _
  have at_ : ∀ {y : Str} {c : Addr}, (envS qual scope s.heap.objs.size f cd cc).cells.lookup y = some c → (cellsFrom (s.heap.objs.size + 1) scope.names []).lookup y = some c ∨ (y = "__class__" ∧ c = cc) := fun {y c} h => by
    rw [hcl] at h
    rcases Sup.lk_app2 h with h | h
    · exact .inl h
    · right
      rw [List.lookup_cons] at h
      cases e : y == "__class__" with
      | true => rw [e] at h; exact ⟨beq_iff_eq.mp e, (Option.some.inj h).symm⟩
      | false => rw [e] at h; cases h
  have ccl : cc < s.heap.objs.size := Heap.lt_size hs
  refine ⟨⟨e0.mod, S.kind, rfl, rfl, Nat.le_refl _, fun y z c h1 h2 => ?_, fun y hy => ?_, fun y c hf h => ?_, fun _ => hd, Around.frames_deeper e0.frames, .inr ⟨rfl, rfl⟩, fun b z => absurd z (noA b), e0.bs, e0.bsz, fun b _ _ => noA b, fun b z => absurd z (noA b), e0.funs, e0.frf⟩,
    rfl, e0.bare, Un.kept hk, ⟨_, x.toInCall.ns, fun i y v h1 h2 h3 => ?_⟩, fun y c h => ?_, e0.hok.fresh (Nat.le_refl _), fun y c h => ?_, fun p hp => absurd (show p ∈ ([] : List (Addr × Obj)) from hp) (by simp), e0.hok.kept hk, ?_⟩
  · rcases at_ h1 with q1 | ⟨q1, q1'⟩
    · rcases at_ h2 with q2 | ⟨q2, q2'⟩
      · exact name_of_addr x.apart (PySem.mem_of_lookup q1) (PySem.mem_of_lookup q2)
      · rw [q2'] at q1
        exact absurd (Nat.lt_trans (x.above _ _ (PySem.mem_of_lookup q1)) ccl) (Nat.lt_irrefl _)
    · rcases at_ h2 with q2 | ⟨q2, q2'⟩
      · rw [q1'] at q2
        exact absurd (Nat.lt_trans (x.above _ _ (PySem.mem_of_lookup q2)) ccl) (Nat.lt_irrefl _)
      · rw [q1, q2]
  · have hy : scope.names.lookup y = some .cell ∨ scope.names.lookup y = some .free := hy
    show ∃ c, (envS qual scope s.heap.objs.size f cd cc).cells.lookup y = some c
    rw [hcl]
    rcases hy with hy | hy
    · obtain ⟨c, hc⟩ := cell_has (n := s.heap.objs.size + 1) hy
      exact ⟨c, Sup.lk_app hc⟩
    · have e := S.free _ (PySem.mem_of_lookup hy) rfl
      dsimp only at e
      subst e
      cases q : (cellsFrom (s.heap.objs.size + 1) scope.names []).lookup ("__class__" : Str) with
      | some c => exact ⟨c, Sup.lk_app q⟩
      | none => exact ⟨cc, Sup.lk_app3 q rfl⟩
  · rcases at_ h with h | ⟨rfl, rfl⟩
    · exact Nat.le_of_lt (x.above y c (PySem.mem_of_lookup h))
    · have hf : (!(("__class__" : Str) == ("__class__" : Str))) = true := hf
      rw [beq_self_eq_true] at hf
      cases hf
  · have hi : i < vs.length := by
      unfold L2.start at h2
      by_cases hi : i < vs.length
      · exact hi
      · rw [List.getElem?_append_right (by simpa using hi)] at h2
        rw [List.getElem?_replicate] at h2
        split at h2 <;> cases h2
    have ha : vs[i]? = some v := by
      unfold L2.start at h2
      rw [List.getElem?_append_left (by simpa using hi), List.getElem?_map] at h2
      cases e : vs[i]? with
      | none => rw [e] at h2; cases h2
      | some a => rw [e] at h2; cases h2; rfl
    obtain ⟨u, hu, rv⟩ := r.get ha
    have hp : ps[i]? = some y := by
      rw [← S.pre, List.getElem?_take_of_lt (by omega)]; exact h1
    have ndP : ps.Nodup := by rw [← S.pre]; exact S.nd.sublist (List.take_sublist _ _)
    refine ⟨u, rv, ?_⟩
    rcases S.par y (List.mem_of_getElem? hp) with k | k
    · exact .inl ⟨k, bindL_get ndP hp hu k⟩
    · obtain ⟨c, e⟩ := cell_has (n := s.heap.objs.size + 1) k
      refine .inr ⟨.inl k, c, ?_, ?_⟩
      · show (envS qual scope s.heap.objs.size f cd cc).cells.lookup y = some c
        rw [hcl]; exact Sup.lk_app e
      · have q := x.cell y c e
        rw [bindC_get ndP hp hu (by show scope.names.lookup y ≠ _; rw [k]; decide)] at q
        exact q
  · rcases at_ h with h | ⟨rfl, rfl⟩
    · exact ⟨_, x.cell y c h⟩
    · exact ⟨_, oc, hk _ _ hs, hod⟩
  · rcases at_ h with h | ⟨rfl, rfl⟩
    · exact e0.hok.fresh (Nat.le_of_lt (x.above y c (PySem.mem_of_lookup h)))
    · exact hH
  · unfold L2.start
    show _ = N.length
    rw [List.length_append, List.length_map, List.length_replicate]
    omega

/-! ### statements within a known activation -/
structure PSsA (X : Cx) (c : Code) (st : List Stmt) (t : TS) : Prop where
  run : ∀ (pins : List (Addr × Obj)) (s : Shared) (σ : L2.St) (H : Hp) (D : Ends), Inv X pins σ H s → t D σ H → PySem.wpAt (model X.prog X.w) X.A c (execs st X.env) (SP X pins D) X.xe s
structure PSA (X : Cx) (c : Code) (st : Stmt) (t : TS) : Prop where
  run : ∀ (pins : List (Addr × Obj)) (s : Shared) (σ : L2.St) (H : Hp) (D : Ends), Inv X pins σ H s → t D σ H → PySem.wpAt (model X.prog X.w) X.A c (exec st X.env) (SP X pins D) X.xe s
section
variable {X : Cx} {c : Code} {st : Stmt} {rest sts : List Stmt} {t u : TS}
theorem PSs.at (h : PSs X sts t) : PSsA X c sts t := ⟨fun pins s σ H D I q => PySem.wpAt_of_wpAny (h.run pins s σ H D I q)⟩
theorem PS.at (h : PS X st t) : PSA X c st t := ⟨fun pins s σ H D I q => PySem.wpAt_of_wpAny (h.run pins s σ H D I q)⟩
theorem pssA_cons (h1 : PSA X c st t) (h2 : PSsA X c rest u) : PSsA X c (st :: rest) (tSeq t u) := by
  refine ⟨fun pins s σ H D I h => ?_⟩
  refine PySem.ks_wpAt_execs_cons (PySem.ks_wpAt_mono (h1.run pins s σ H { D with nx := u D } I h) (fun f s1 q => ?_) fun _ _ x => x)
  cases f with
  | next =>
    obtain ⟨σ', H', I', q⟩ := q
    exact h2.run pins s1 σ' H' D I' q
  | ret v => exact q
  | brk => exact q
  | cont => exact q
end
theorem fn_ofS {CX : CXT} {P : Program} {w : World} {K : PySem.W.Frag} {mg : Str → Option Value} {base : Heap} {k : Nat} {f cc Dc : Addr} {name qual : Str} {params : Arguments} {body : List Stmt} {scope : Scope} {dV kV doc pm cdv ct oc : Value} {an od : Option Addr}
    {osl : Array (Option Value)} {N ps : List Str} {sp : Sp} (lk : K.lookup f = some ⟨oc, od, .func (PySem.W.fnX name qual params body scope [("__class__", cc)] dV kV doc pm an cdv ct), osl⟩) (hcd : PySem.W.codeIn K cdv qual = true) (S : FnScopeS N ps scope) (hC : CellC K cc Dc)
    (len : ∀ vs H Q E, sp vs H Q E → vs.length = ps.length)
    (hbody : ∀ (A : Around) (outer : List PySem.Env) (s : Shared) (H : Hp) (vs : List V) (Q : VK) (E : XK), Room k (A.deeper (envS qual scope s.heap.objs.size f cdv cc)) → sp vs H Q E →
      ∃ t, PSsA (cxOfS CX P w K mg base N qual scope f cdv cc A outer s H E) (.func body (envS qual scope s.heap.objs.size f cdv cc)) body t ∧ t { nx := fun _ H' => Q .non H', rt := Q } (L2.start N vs) H) :
    FnOk P w K mg base CX (k + 1) f (PySem.W.fnX name qual params body scope [("__class__", cc)] dV kV doc pm an cdv ct) ps sp := by
  refine ⟨len, fun A outer s H args us vs Q E hr e0 hb r hsp => ?_⟩
  have hl := len _ _ _ _ hsp
  have KX : K.In s.heap := e0.mod.kin.keeps fun b o e => (e0.bs b o e).1
  have lim : s.heap.NoLimit := e0.mod.nolimit.keeps fun b o e => (e0.bs b o e).1
  have hkind : ∀ y ∈ ps.zip us, scope.names.lookup y.1 = some .local ∨ (scope.names.lookup y.1 = some .cell ∧ ((cellsFrom (s.heap.objs.size + 1) scope.names []).lookup y.1).isSome = true) := fun ⟨n, v⟩ hy => by
    rcases S.par n (List.of_mem_zip hy).1 with q | q
    · exact .inl q
    · exact .inr ⟨q, PySem.W.cellsFrom_some _ _ _ (.inl q)⟩
  refine codeAny_call_function hr.depth (KX _ _ lk) rfl S.co S.gen rfl (PySem.W.codeRec_of KX hcd) (hb _ _ _ _ ?_)
  refine Sup.newEnvS S.kind hkind fun env he s1 x => ?_
  subst he
  refine ⟨lim.keeps x.toInCall.keep, PySem.ks_codeAny_funcAt ?_⟩
  obtain ⟨t, ht, hq⟩ := hbody A outer s H vs Q E (hr.deeper _) hsp
  have I : Inv (cxOfS CX P w K mg base N qual scope f cdv cc A outer s H E) [] (L2.start N vs) H s1 := inv_startS S hC hr.hd e0 hl r x
  refine PySem.ks_wpAt_mono (ht.run [] s1 (L2.start N vs) H _ I hq) (fun fl s' hs => ?_) fun e s' hs => hs
  have fin : ∀ {σ' : L2.St} {H' : Hp} {v : V} {u : Value}, Inv (cxOfS CX P w K mg base N qual scope f cdv cc A outer s H E) [] σ' H' s' → RelV v u → Q v H' → CE outer P w H s Q u s' :=
    fun {σ' H' v u} J rv q => ⟨v, H', J.os, J.bare, J.base, J.hok, rv, q⟩
  cases fl with
  | ret u =>
    obtain ⟨v, σ', H', J, rv, q⟩ := hs
    exact fin J rv q
  | next =>
    obtain ⟨σ', H', J, q⟩ := hs
    exact fin (v := V.non) (u := Value.none) J rfl q
  | brk =>
    obtain ⟨_, _, _, q⟩ := hs
    exact False.elim q
  | cont =>
    obtain ⟨_, _, _, q⟩ := hs
    exact False.elim q
end Dn

set_option Elab.async false
set_option linter.all false
set_option maxRecDepth 100000
set_option maxHeartbeats 4000000
namespace Dn
open PySem PySem.Spec PyProof.Rows L2 ClX

/-! ### super().__init__(..) -/
theorem wpAt_methKw {M : Model} {A : Around} {c : Code} {E : Value → Shared → Prop} {s : Shared} {env : PySem.Env} {o : Expr} {name : Str} {apos pos : Pos} {args : List Expr} {kws : List Keyword} {pl : Sem Bool} {Q : Value → Shared → Prop}
    (h : PySem.wpAt M A c (attributeBase o name env (eval o env)) (fun ov s₁ => wpAny M A (getMethod ov name pl) (fun fx s₂ => wpAny M A (callWith pos fx.1 fx.2 (backTo pos (starEach args env)) (backToKw pos (keywordEach kws env))) Q E s₂) E s₁) E s)
    (he : eval (.Call (.Attribute o name apos) args kws pos) env = (do
      let ov ← attributeBase o name env (eval o env)
      standAt apos.atName
      let (f, first) ← holding [ov] (getMethod ov name pl)
      callWith pos f first (backTo pos (starEach args env)) (backToKw pos (keywordEach kws env)))) :
    PySem.wpAt M A c (eval (.Call (.Attribute o name apos) args kws pos) env) Q E s := by
  rw [he]
  refine PySem.wpAt_bind (PySem.wpAt_mono h (fun ov s₁ h₁ => PySem.wpAt_of_wpAny (wpAny_bind (wpAny_standAt (wpAny_bind (wpAny_holding (wpAny_mono h₁ (fun fx s₂ h₂ => ?_) fun _ _ x => x)))))) fun _ _ x => x)
  exact h₂
/-- what super() asks of the def at f of the class at D: its code, its closure's cell; x0: the name of self -/
structure SupF (P : Program) (K : PySem.W.Frag) (mg : Str → Option Value) (f cc : Addr) (cd : Value) (D : Addr) (x0 : Str) : Prop where
  fn : ∃ o fd ar, K.lookup f = some o ∧ o.data = .func fd ∧ (fd.params.posonlyargs ++ fd.params.args).head? = some ar ∧ ar.arg = x0
  code : ∃ cda o vs file tf, cd = .ref cda ∧ K.lookup cda = some o ∧ o.data = .fields vs ∧ vs[2]? = some (.str file tf) ∧ ((P.main.file : Str) == file) = true
  cell : CellC K cc D
  cls : (PySem.W.clsIn K D).isSome = true
  sup : mg "super" = none
  top : (P.main.scope.names.lookup ("super" : Str)).isSome = false
  opq : PySem.W.nsIn K cStatics "thirdparty.any" = some none
/-- .. of an object's class C: behind D along its line stands f2 -/
structure SupC (K : PySem.W.Frag) (C D f2 : Addr) : Prop where
  sub : PySem.W.mroIn K C (.ref D) = some true
  hm : PySem.W.ks_superIn K C D "__init__" = some (some (.ref f2))
  ty : PySem.W.typeIn K (.ref f2) = some (.type "function")
  fi : PySem.W.fnIn K f2 = true
theorem boot_super : bootBuiltins "super" = some (.type "super") := by first | boot_by_name | rfl | kernel_rfl
section
variable {X : Cx} {pins : List (Addr × Obj)} {σ : L2.St} {H : Hp} {s : Shared}
theorem ld_name {E : Value → Shared → Prop} {i : Nat} {x : Str} {v : V} {Q : Value → Shared → Prop} (I : Inv X pins σ H s) (hN : X.N[i]? = some x) (hv : Vis X.env.scope x) (e : σ[i]? = some (some v)) (h : ∀ u, RelV v u → Q u s) (hcd : (x == ("__classdict__" : Str)) = false := by decide) : wpAny (model X.prog X.w) X.A (loadName X.env x) Q E s := by
  obtain ⟨m, hn, hl⟩ := I.loc
  obtain ⟨u, r, l⟩ := hl i x v hN e hv
  rcases l with ⟨hk, hm⟩ | ⟨hk, c, hc, hcell⟩
  · exact wpAny_loadName_local I.ok.kind hk hn hm (h u r)
  · rcases hk with hk | hk
    · exact wpAny_loadName_cell I.ok.kind hk hc hcell (h u r)
    · exact wpAny_loadName_free I.ok.kind hk hc hcell (h u r) hcd
/-- super(): a new object, pinned -/
theorem sup_node {body : List Stmt} {p0 p1 : Pos} {attr : Str} {whole : Sem Value} {f cc C D a dx : Addr} {cd : Value} {x0 : Str} {fs : List (Str × V)} {Q : Value → Shared → Prop} {E : Value → Shared → Prop}
    (F : SupF X.prog X.K X.mg f cc cd D x0) (hsub : PySem.W.mroIn X.K C (.ref D) = some true) (I : Inv X pins σ H s) (hN : X.N[0]? = some x0) (hv : Vis X.env.scope x0) (e : σ[(0 : Nat)]? = some (some (.ref a))) (ea : H a = some (.ins C dx fs))
    (hks : X.env.kindOf "super" = some .globalImplicit) (hkc : X.env.kindOf "__class__" = some .free) (hcell : X.env.cells.lookup ("__class__" : Str) = some cc) (hfu : X.env.func = some f) (hco : X.env.code = cd)
    (hat : (attr == ("__class__" : Str)) = false) (hx0 : (x0 == ("__classdict__" : Str)) = false)
    (h : ∀ so s', Inv X ((so, PySem.W.ks_superObj D a C) :: pins) σ H s' → Q (.ref so) s') :
    PySem.wpAt (model X.prog X.w) X.A (.func body X.env) (attributeBase (.Call (.Name "super" p0) [] [] p1) attr X.env whole) Q E s := by
  obtain ⟨o, fd, ar, l1, l2, l3, rfl⟩ := F.fn
  obtain ⟨cda, oc, vs, file, tf, rfl, c1, c2, c3, c4⟩ := F.code
  obtain ⟨ob, b1, b2⟩ := F.cell
  have KI := I.kIn
  obtain ⟨cdD, hcD⟩ := Option.isSome_iff_exists.mp F.cls
  obtain ⟨oD, hD1, hD2⟩ : ∃ oD, s.heap.get? D = some oD ∧ oD.data = .cls cdD := by
    unfold PySem.W.clsIn at hcD
    split at hcD
    · rename_i c d cd' sl ho
      cases hcD
      exact ⟨_, KI _ _ ho, rfl⟩
    · cases hcD
  obtain ⟨mA, O, _⟩ := ins_get I.hok ea
  have hob : s.heap.get? a = some (PySem.W.instObj C dx) := O.obj
  refine PySem.ks_wpAt_super_base (env := X.env) hks hkc hat hfu (KI _ _ l1) l2 l3 hco (KI _ _ c1) c2 c3 c4 F.top ?_
  obtain ⟨mb, h1, h2⟩ := I.mod.blt
  refine PySem.W.ks_loadName_global I.ok.kind hks (Calls.loadGlobal_builtin (by rw [I.ok.glob]; exact I.mod.glob.keeps I.bk) F.sup (by rw [I.ok.blt]; exact h1.keeps I.bk) ((h2 _ (by decide)).trans boot_super) ⟨rfl, ?_⟩)
  refine wpAny_loadName_free I.ok.kind hkc hcell ⟨_, KI _ _ b1, b2⟩ ?_
  refine ld_name I hN hv e (fun u ru => ?_) hx0
  obtain rfl : u = Value.ref a := ru
  refine PySem.ks_wpAny_isType_cls hD1 hD2 ⟨rfl, ?_⟩
  obtain ⟨hp, g, d, t, os⟩ := s
  refine PySem.ks_wpAny_call_super hD1 hD2 hob rfl (fun c z => by cases z) (PySem.W.looks_mroIn KI hsub) (fun h' e' k => ?_)
  exact h _ _ (pin_new I k (Nat.le_refl _) e' (fun v z => nomatch z))
/-- .. and its method -/
theorem sup_meth {C D a dx so f2 : Addr} {name : Str} {fs : List (Str × V)} {pl : Sem Bool} {Q : Value × List Value → Shared → Prop} {E : Value → Shared → Prop} (I : Inv X ((so, PySem.W.ks_superObj D a C) :: pins) σ H s) (ea : H a = some (.ins C dx fs))
    (ho : PySem.W.nsIn X.K cStatics "thirdparty.any" = some none) (hm : PySem.W.ks_superIn X.K C D name = some (some (.ref f2))) (ht : PySem.W.typeIn X.K (.ref f2) = some (.type "function")) (hn : (name == ("__class__" : Str)) = false)
    (h : ∀ q s', Inv X ((q, PySem.W.methodObj (.ref f2) (.ref a)) :: (so, PySem.W.ks_superObj D a C) :: pins) σ H s' → Q (.ref q, []) s') : wpAny (model X.prog X.w) X.A (getMethod (.ref so) name pl) Q E s := by
  have KI := I.kIn
  have hso := pin_at I
  cases hc : PySem.W.clsIn X.K C with
  | none => unfold PySem.W.ks_superIn at hm; rw [hc] at hm; cases hm
  | some cd =>
    unfold PySem.W.ks_superIn at hm
    rw [hc] at hm
    obtain ⟨of, hof, hofc⟩ : ∃ of, s.heap.get? f2 = some of ∧ of.cls = .type "function" := by
      have ht' : (X.K.lookup f2).map (·.cls) = some (.type "function") := ht
      cases z : X.K.lookup f2 with
      | none => rw [z] at ht'; cases ht'
      | some of => rw [z] at ht'; exact ⟨of, KI _ _ z, Option.some.inj ht'⟩
    have hxC : a ≠ C := by
      rintro rfl
      unfold PySem.W.clsIn at hc
      split at hc
      · rename_i c d cd' sl hl
        have hb := (I.bs _ _ (I.ok.mod.kin _ _ hl)).2
        rw [hb] at ea; cases ea
      · cases hc
    obtain ⟨hp, g, d, t, os⟩ := s
    refine PySem.ks_wpAny_getMethod_super hso (PySem.W.looks_opaque KI ho) (l₀ := cd.mro) ?_ rfl KI hm hof hofc hxC hn ?_
    · exact fun A Q E s k q => wpAny_bind ((PySem.W.looks_clsIn KI hc) A _ E s k (wpAny_pure q))
    · exact h _ _ (pin_new (o := PySem.W.methodObj (.ref f2) (.ref a)) I (fun b u e => Heap.get?_push_of_some _ e) (Nat.le_refl _) (Heap.get?_push_at rfl rfl) (fun v z => nomatch z))
end
def tSup (n m : Nat) (D : Addr) (K : PySem.W.Frag) (f2 : Addr) (sp : Sp) (gV : List V → List V → List V) (E : L2.St → XK) (t tk : TA) : TS := fun De σ H => ∃ a C dx fs, σ[(0 : Nat)]? = some (some (.ref a)) ∧ H a = some (.ins C dx fs) ∧ SupC K C D f2 ∧
  t σ H fun vs H1 => tk σ H1 fun zs H2 => vs.length = n ∧ zs.length = m ∧ sp (gV (.ref a :: vs) zs) H2 (fun _ H3 => De.nx σ H3) (E σ)
theorem psa_sup {X : Cx} {CX : CXT} {k n : Nat} {body : List Stmt} {f cc D f2 : Addr} {cd : Value} {x0 : Str} {fd : FuncData} {ps ks : List Str} {sp : Sp} {E : L2.St → XK} {p0 p1 pos apos pos' : Pos} {e : Expr} {es : List Expr} {kws : List Keyword} {t tk : TA} {g : List Value → List Value → List Value} {gV : List V → List V → List V} {pl : Sem Bool}
    (SF : SupF X.prog X.K X.mg f cc cd D x0) (F : FnOk X.prog X.w X.K X.mg X.base CX k f2 fd ps sp) (hr : Room k X.A) (hb : KBn X.K fd ps (n + 1) ks g gV) (hx : ∀ σ, PassesAt CX X σ (E σ)) (ha : PA X (e :: es) t) (hkw : PK X kws tk)
    (hN : X.N[0]? = some x0) (hv : Vis X.env.scope x0) (hx0 : (x0 == ("__classdict__" : Str)) = false) (hks : X.env.kindOf "super" = some .globalImplicit) (hkc : X.env.kindOf "__class__" = some .free) (hcell : X.env.cells.lookup ("__class__" : Str) = some cc) (hfu : X.env.func = some f) (hco : X.env.code = cd)
    (hall : (backToKw pos (keywordEach kws X.env)).all (·.1.isSome) = true) (hksn : (backToKw pos (keywordEach kws X.env)).filterMap (·.1) = ks)
    (he : starEach (e :: es) X.env = (false, eval e X.env) :: starEach es X.env) (hpl : ((backTo pos (starEach (e :: es) X.env)).any (·.1) || (backToKw pos (keywordEach kws X.env)).any (·.1.isNone)) = false)
    (ht : eval (.Call (.Attribute (.Call (.Name "super" p0) [] [] p1) "__init__" apos) (e :: es) kws pos) X.env = (do
      let ov ← attributeBase (.Call (.Name "super" p0) [] [] p1) "__init__" X.env (eval (.Call (.Name "super" p0) [] [] p1) X.env)
      standAt apos.atName
      let (f, first) ← holding [ov] (getMethod ov "__init__" pl)
      callWith pos f first (backTo pos (starEach (e :: es) X.env)) (backToKw pos (keywordEach kws X.env))))
    (hsw : swapsWith (.Call (.Attribute (.Call (.Name "super" p0) [] [] p1) "__init__" apos) (e :: es) kws pos) none pos'.line X.env = pure false) :
    PSA X (.func body X.env) (.Expr (.Call (.Attribute (.Call (.Name "super" p0) [] [] p1) "__init__" apos) (e :: es) kws pos) pos') (tSup n ks.length D X.K f2 sp gV E t tk) := by
  refine ⟨fun pins s σ H De I h => ?_⟩
  obtain ⟨a, C, dx, fs, es0, ea, sc, h⟩ := h
  refine PySem.ks_wpAt_Expr_any ?_ I.quiet hsw
  refine wpAt_methKw (pl := pl) ?_ ht
  refine sup_node SF sc.sub I hN hv es0 ea hks hkc hcell hfu hco (by decide) hx0 fun so s1 I1 => ?_
  refine sup_meth I1 ea SF.opq sc.hm sc.ty (by decide) fun q s2 I2 => ?_
  refine PySem.W.callWith_of (P := PySem.W.MethP X.K q f2 (.ref a)) hpl (PySem.W.keeps_M sc.fi) (evalArgs_kw2 hall (thn (ha.run pos _ s2 σ H _ I2 h) fun us s3 ⟨vs, H1, I3, r, q1⟩ => ?_) he)
  refine thn (hkw.run pos _ s3 σ H1 _ I3 q1) fun ws s4 ⟨zs, H2, I4, rz, l1, l2, q2⟩ => ⟨⟨pin_at I4, I4.kIn⟩, ?_⟩
  rw [hksn]
  have r1 : Vals (V.ref a :: vs) (Value.ref a :: us) := .cons rfl r
  have r2 := hb.rel r1 rz
  have n1 : (Value.ref a :: us).length = n + 1 := by
    rw [List.length_cons, ← r.length, l1]
  refine wpAny_call (PySem.W.method_call (pin_at I4) (codeAny_mono (F.run _ X.stack _ _ ⟨Value.ref a :: us, ks.zip ws⟩ (g (Value.ref a :: us) ws) _ _ (E σ) hr I4.env0 (hb.to _ (Value.ref a :: us) ws I4.kIn n1 (rz.length.symm.trans l2)) r2 q2) fun rr s' hq' => ?_))
  cases rr with
  | error e => exact hx σ _ _ _ e s' I4 hq'
  | ok fl =>
    cases fl with
    | ret u =>
      obtain ⟨v, H', I5, rv, q3⟩ := I4.after hq'
      exact ⟨σ, H', unpin (unpin I5), q3⟩
    | next => exact False.elim hq'
    | brk => exact False.elim hq'
    | cont => exact False.elim hq'

/-! ### judgements within a known activation -/
def tWSA (X : Cx) (c : Code) (st : Stmt) : TS := fun D σ H => ∀ (pins : List (Addr × Obj)) (s : Shared), Inv X pins σ H s → PySem.wpAt (model X.prog X.w) X.A c (exec st X.env) (SP X pins D) X.xe s
def tWSsA (X : Cx) (c : Code) (st : List Stmt) : TS := fun D σ H => ∀ (pins : List (Addr × Obj)) (s : Shared), Inv X pins σ H s → PySem.wpAt (model X.prog X.w) X.A c (execs st X.env) (SP X pins D) X.xe s
theorem psa_W {X : Cx} {c : Code} {st : Stmt} : PSA X c st (tWSA X c st) := ⟨fun pins s _ _ _ I h => h pins s I⟩
theorem pssa_W {X : Cx} {c : Code} {st : List Stmt} : PSsA X c st (tWSsA X c st) := ⟨fun pins s _ _ _ I h => h pins s I⟩
structure JSA (X : Cx) (W : WX) (B : Bs) (c : Code) (st : Stmt) (g : Env → Dr → SO) : Prop where
  of ::
  go : ∀ (bs : Hp × Hp) (σ : L2.St) (H : Hp) (ρ : Env) (S : Dr) (Hf : Hp) (D : Ends), R B bs Hf ρ S σ H → SPost B W bs D (g ρ S) → tWSA X c st D σ H
structure JBA (X : Cx) (W : WX) (B : Bs) (c : Code) (sts : List Stmt) (g : Env → Dr → SO) : Prop where
  of ::
  go : ∀ (bs : Hp × Hp) (σ : L2.St) (H : Hp) (ρ : Env) (S : Dr) (Hf : Hp) (D : Ends), R B bs Hf ρ S σ H → SPost B W bs D (g ρ S) → tWSsA X c sts D σ H
section
variable {X : Cx} {W : WX} {B : Bs} {bs : Hp × Hp} {Hs Hf Hf' H H' : Hp} {ρ : Env} {S S' : Dr} {σ : L2.St} {c : Code} {st : Stmt} {rest sts : List Stmt} {g g1 g2 : Env → Dr → SO} {D : Ends} {fr fk : Env → Dr → Out (List O)}
theorem JB.at (h : JB X W B sts g) : JBA X W B c sts g := .of fun bs σ H ρ S Hf D r q pins s I => PySem.wpAt_of_wpAny (h.go bs σ H ρ S Hf D r q pins s I)
theorem JS.at (h : JS X W B st g) : JSA X W B c st g := .of fun bs σ H ρ S Hf D r q pins s I => PySem.wpAt_of_wpAny (h.go bs σ H ρ S Hf D r q pins s I)
theorem jba_cons (h1 : JSA X W B c st g1) (h2 : JBA X W B c rest g2) : JBA X W B c (st :: rest) (sSeq g1 g2) := .of fun bs σ H ρ S Hf D r h => by
  refine fun pins s I => (pssA_cons (psa_W (c := c)) (pssa_W (c := c))).run pins s σ H D I ?_
  show tWSA X c st { D with nx := tWSsA X c rest D } σ H
  refine h1.go bs σ H ρ S Hf _ r ?_
  unfold sSeq at h
  cases q : g1 ρ S with
  | nx ρ1 S1 =>
    rw [q] at h
    exact fun σ1 Hf1 H1 r1 => h2.go bs σ1 H1 ρ1 S1 Hf1 D r1 h
  | rt e S1 => rw [q] at h; exact h
  | bk ρ1 S1 => rw [q] at h; exact h
  | ct ρ1 S1 => rw [q] at h; exact h
  | exc C fs ρ1 S1 => rw [q] at h; exact h
  | stk => rw [q] at h; exact h

/-- behind the base's __init__ -/
theorem R.sup {C dx : Addr} {fs fs' : List (Str × Dn.D)} {fv : List (Str × V)} (r : R B bs Hf ρ S σ H) (e : ρ[(0 : Nat)]? = some (some (.ob C fs))) (n : Nx B Hf (del H B.me) Hf' H') (d : DrR B Hf' S' H') (o' : Option O)
    (h1 : o' = none ∨ ∃ C', o' = some (.ob C' fs') ∧ H' B.me = some (.ins C' dx fv) ∧ RepF B.K B.dr Hf' fv fs' ∧ Hf' B.me = none) : R B bs Hf' (ρ.set 0 o') S' σ H' := by
  obtain ⟨v0, e0, rfl, dx0, fv0, k1, k2, k3, k4⟩ := r.sl 0 _ e
  have n1 : B.me ≠ B.dr := fun q => by rw [q] at k4; obtain ⟨⟨o, h⟩, _⟩ := r.h0; rw [h] at k4; cases k4
  have n2 : B.me ≠ B.rs := fun q => by rw [q] at k4; obtain ⟨_, ⟨o, h⟩⟩ := r.h0; rw [h] at k4; cases k4
  have go1 : ∀ b u, H b = some u → b ≠ B.me → b ≠ B.dr → b ≠ B.rs → H' b = some u := fun b u h m m1 m2 => n.go b u (by rw [del_ne m]; exact h) m1 m2
  have nf : ∀ {b u}, H b = some u → b ≠ B.me → Hf b = none → Hf' b = none := fun {b u} h m f => by
    cases q : Hf' b with
    | none => rfl
    | some w =>
      rcases n.fr b w q with z | z
      · rw [f] at z; cases z
      · rw [del_ne m, h] at z; cases z
  have b0 : ∀ b u, bs.2 b = some u → b ≠ B.me := fun b u h q => by rw [q, k4] at h; cases h
  have ne0 : ∀ a, bs.2 a = none → a ≠ B.dr ∧ a ≠ B.rs := fun a h => by
    obtain ⟨⟨o1, h1⟩, o2, h2⟩ := r.h0
    constructor
    · intro e; rw [e, h1] at h; cases h
    · intro e; rw [e, h2] at h; cases h
  refine ⟨n.exf, r.exb.trans n.ex, fun b o h => ?_, n.nd, fun b o h m1 m2 => go1 b o (r.go b o h m1 m2) (b0 b o h) m1 m2, r.h0, d, by rw [List.length_set]; exact r.len, fun j oj hj => ?_, fun j k oj ok b hj hk wj wk ej ek => ?_⟩
  · by_cases q : b = B.me
    · right; rw [q]; exact k4
    · rcases n.fr b o h with z | z
      · exact r.fr b o z
      · right
        rw [del_ne q] at z
        cases w : bs.2 b with
        | none => rfl
        | some u =>
          by_cases m1 : b = B.dr
          · rw [m1, n.nd.1] at h; cases h
          by_cases m2 : b = B.rs
          · rw [m2, n.nd.2] at h; cases h
          rw [r.go b u w m1 m2] at z; cases z
  · rcases set_some hj with ⟨rfl, eo, _⟩ | ⟨ne, hj⟩
    · rcases h1 with h1 | ⟨C', h1, q1, q2, q3⟩
      · rw [h1] at eo; cases eo
      · rw [h1] at eo; cases eo
        exact ⟨_, e0, rfl, dx, fv, q1, q2, q3, k4⟩
    · obtain ⟨v, ev, sv⟩ := r.sl j oj hj
      refine ⟨v, ev, ?_⟩
      cases oj with
      | v d => exact Rep.mono n.ex sv
      | l ds =>
        obtain ⟨b, vs, rfl, c1, c2, c3, c4⟩ := sv
        have m : b ≠ B.me := ne_of c1 k1 (fun z => by cases z)
        obtain ⟨m1, m2⟩ := ne0 b c4
        exact ⟨b, vs, rfl, go1 b _ c1 m m1 m2, c2.mono n.ex, nf c1 m c3, c4⟩
      | d ds =>
        obtain ⟨b, vs, rfl, c1, c2, c3, c4⟩ := sv
        have m : b ≠ B.me := ne_of c1 k1 (fun z => by cases z)
        obtain ⟨m1, m2⟩ := ne0 b c4
        exact ⟨b, vs, rfl, go1 b _ c1 m m1 m2, c2.mono n.ex, nf c1 m c3, c4⟩
      | lt ds =>
        obtain ⟨b, vs, rfl, c1, c2, c3, c4⟩ := sv
        exact ⟨b, vs, rfl, c1, c2, c3, c4.mono n.ex⟩
      | ld ds =>
        obtain ⟨b, vs, rfl, c1, c2, c3, c4⟩ := sv
        exact ⟨b, vs, rfl, c1, c2, c3, c4.mono n.ex⟩
      | x C fs =>
        obtain ⟨c1, c2, c3, c4, fv1, c5, c6⟩ := sv
        exact ⟨c1, c2, c3, c4, fv1, c5, c6.mono n.ex⟩
      | ob C1 fs1 =>
        obtain ⟨rfl, _⟩ := sv
        exact (ne (r.inj j 0 _ _ _ hj e rfl rfl ev e0)).elim
  · have back : ∀ {m : Nat} {om : O}, (ρ.set 0 o')[m]? = some (some om) → om.own = true → ∃ om', ρ[m]? = some (some om') ∧ om'.own = true := fun {m om} hm wm => by
      rcases set_some hm with ⟨rfl, _, _⟩ | ⟨ne, hm⟩
      · exact ⟨_, e, rfl⟩
      · exact ⟨_, hm, wm⟩
    obtain ⟨o1, hj', wj'⟩ := back hj wj
    obtain ⟨o2, hk', wk'⟩ := back hk wk
    exact r.inj j k o1 o2 b hj' hk' wj' wk' ej ek
/-- the inits that stand behind the class D, by the object's class -/
def sSup (ok : Addr → Bool) (n m : Nat) (F : Addr → List (Str × Dn.D) → List O → Dr → Out (List (Str × Dn.D))) (gO : List O → List O → List O) (fr fk : Env → Dr → Out (List O)) : Env → Dr → SO := fun ρ S => match ρ[(0 : Nat)]? with
  | some (some (.ob C fs)) => if ok C = true then (fr ρ S).so ρ fun os S1 => (fk ρ S1).so ρ fun ks S2 =>
      if os.length = n ∧ ks.length = m then match F C fs (gO os ks) S2 with
        | .ok fs' S3 => .nx (ρ.set 0 (some (.ob C fs'))) S3
        | .exc C' fs' S3 => .exc C' fs' (ρ.set 0 none) S3
        | .stk => .stk
      else .stk
    else .stk
  | _ => .stk
theorem as_del {vs : List V} {os : List O} {a C dx : Addr} {fv : List (Str × V)} (ea : H a = some (.ins C dx fv)) (h : AsR B Hf H vs os) : AsR B Hf (del H a) vs os := by
  induction h with
  | nil => exact .nil
  | cons h _ ih =>
    refine .cons ?_ ih
    rename_i v o _ _ _
    cases o with
    | v d => exact h
    | lt ds => obtain ⟨b, vs, rfl, h1, h2, h3, h4⟩ := h; exact ⟨b, vs, rfl, by rw [del_ne (ne_of h1 ea (fun z => by cases z))]; exact h1, h2, h3, h4⟩
    | ld ds =>
      obtain ⟨b, vs, rfl, h1, h2, h3, h4⟩ := h
      refine ⟨b, vs, rfl, ?_, h2, h3, h4⟩
      rcases h1 with h1 | ⟨o, h1⟩
      · exact .inl (by rw [del_ne (ne_of h1 ea (fun z => by cases z))]; exact h1)
      · exact .inr ⟨o, by rw [del_ne (ne_of h1 ea (fun z => by cases z))]; exact h1⟩
    | l ds => exact h.elim
    | d ds => exact h.elim
    | x C fs => exact h.elim
    | ob C fs => exact h.elim
theorem js_sup {ok : Addr → Bool} {k n m l : Nat} {body : List Stmt} {F : Addr → List (Str × Dn.D) → List O → Dr → Out (List (Str × Dn.D))} {gO : List O → List O → List O} {f cc Dc f2 : Addr} {cd : Value} {x0 : Str} {fd : FuncData} {ps ks : List Str} {p0 p1 pos apos pos' : Pos} {e : Expr} {es : List Expr} {kws : List Keyword}
    {gg : List Value → List Value → List Value} {gV : List V → List V → List V} {pl : Sem Bool}
    (SF : SupF X.prog X.K X.mg f cc cd Dc x0) (T : ∀ C, ok C = true → SupC X.K C Dc f2) (G : FnOk X.prog X.w X.K X.mg X.base (L2.CX X.prog X.w) k f2 fd ps (spI B l F)) (hr : Room k X.A) (hb : KBn X.K fd ps (n + 1) ks gg gV) (hgo : GvO n m l gV gO) (hkl : ks.length = m) (tk : Takes X W)
    (ha : JA X W B (e :: es) fr) (hkw : JK X W B kws fk)
    (hcell : X.env.cells.lookup ("__class__" : Str) = some cc) (hfu : X.env.func = some f := by rfl) (hco : X.env.code = cd := by rfl) (hks : X.env.kindOf "super" = some .globalImplicit := by rfl) (hkc : X.env.kindOf "__class__" = some .free := by rfl)
    (hN : X.N[0]? = some x0 := by rfl) (hv : Vis X.env.scope x0 := by first | exact Or.inl rfl | exact Or.inr (Or.inl rfl) | exact Or.inr (Or.inr rfl)) (hx0 : (x0 == ("__classdict__" : Str)) = false := by decide)
    (hall : (backToKw pos (keywordEach kws X.env)).all (·.1.isSome) = true := by rfl) (hksn : (backToKw pos (keywordEach kws X.env)).filterMap (·.1) = ks := by rfl)
    (he : starEach (e :: es) X.env = (false, eval e X.env) :: starEach es X.env := by exact star_c rfl) (hpl : ((backTo pos (starEach (e :: es) X.env)).any (·.1) || (backToKw pos (keywordEach kws X.env)).any (·.1.isNone)) = false := by rfl)
    (ht : eval (.Call (.Attribute (.Call (.Name "super" p0) [] [] p1) "__init__" apos) (e :: es) kws pos) X.env = (do
      let ov ← attributeBase (.Call (.Name "super" p0) [] [] p1) "__init__" X.env (eval (.Call (.Name "super" p0) [] [] p1) X.env)
      standAt apos.atName
      let (f, first) ← holding [ov] (getMethod ov "__init__" pl)
      callWith pos f first (backTo pos (starEach (e :: es) X.env)) (backToKw pos (keywordEach kws X.env))) := by rfl)
    (hsw : swapsWith (.Call (.Attribute (.Call (.Name "super" p0) [] [] p1) "__init__" apos) (e :: es) kws pos) none pos'.line X.env = pure false := by rfl) :
    JSA X W B (.func body X.env) (.Expr (.Call (.Attribute (.Call (.Name "super" p0) [] [] p1) "__init__" apos) (e :: es) kws pos) pos') (sSup ok n m F gO fr fk) := .of fun bs σ H ρ S Hf D r h => by
  refine fun pins s I => (psa_sup (E := WE W) SF G hr hb (fun σ => passAt tk σ) pa_W pk_W hN hv hx0 hks hkc hcell hfu hco hall hksn he hpl ht hsw).run pins s σ H D I ?_
  unfold sSup at h
  split at h
  · rename_i C fs e0
    split at h
    · rename_i hok
      obtain ⟨v0, e1, rfl, dx, fv, k1, k2, k3, k4⟩ := r.sl 0 _ e0
      refine ⟨B.me, C, dx, fv, e1, k1, T C hok, ?_⟩
      refine ha.so r h fun os S1 vs H1 Hf1 r1 n1 z1 h1 => ?_
      refine hkw.go bs σ H1 ρ S1 Hf1 _ r1 ?_
      cases q : fk ρ S1 with
      | stk => rw [q] at h1; exact h1.elim
      | exc C' fs' S2 => rw [q] at h1; exact fun d Hf2 H2 n2 d2 x2 => h1 σ d Hf2 H2 (r1.next n2 d2) x2
      | ok us S2 =>
        rw [q] at h1
        intro zs Hf2 H2 n2 d2 z2
        have h1 : SPost B W bs D (if os.length = n ∧ us.length = m then match F C fs (gO os us) S2 with
          | .ok fs' S3 => .nx (ρ.set 0 (some (.ob C fs'))) S3
          | .exc C' fs' S3 => .exc C' fs' (ρ.set 0 none) S3
          | .stk => .stk
          else .stk) := h1
        split at h1
        · rename_i hl
          have r2 := r1.next n2 d2
          have z1' := as_next n2 z1
          obtain ⟨v2, e2, rfl', dx2, fv2, j1, j2, j3, j4⟩ := r2.sl 0 _ e0
          have m1 : B.me ≠ B.dr := fun q => by rw [q, r2.drw.dr] at j1; cases j1
          have m2 : B.me ≠ B.rs := fun q => by rw [q, r2.drw.rs] at j1; cases j1
          refine ⟨by rw [as_len z1]; exact hl.1, by rw [as_len z2, hl.2, hkl], ?_⟩
          obtain ⟨vr, g1, zr, ll⟩ := hgo B Hf2 H2 (.ref B.me) vs zs os us z1' z2 hl.1 hl.2
          rw [g1]
          refine ⟨by rw [List.length_cons, as_len zr]; exact ll, B.me, C, dx2, fv2, fs, vr, _, S2, Hf2, rfl, j1, j2, j3, m1, m2, r2.ex, r2.nd, r2.drw, as_del j1 zr, ?_⟩
          cases qF : F C fs (gO os us) S2 with
          | stk => rw [qF] at h1; exact h1.elim
          | exc C' fs' S3 =>
            rw [qF] at h1
            exact fun d Hf' H' n3 d3 x3 => h1 σ d Hf' H' (r2.sup e0 n3 d3 none (.inl rfl) (dx := dx) (fs' := []) (fv := [])) x3
          | ok fs' S3 =>
            rw [qF] at h1
            exact fun Hf' H' dx' fv' n3 d3 q1 q2 q3 => h1 σ Hf' H' (r2.sup e0 n3 d3 _ (.inr ⟨C, rfl, q1, q2, q3⟩))
        · exact h1.elim
    · exact h.elim
  · exact h.elim
end
/-- an __init__ that says super() keeps its promise -/
theorem ji_mkS {P : Program} {w : World} {K : PySem.W.Frag} {mg : Str → Option Value} {base : Heap} {x qual : Str} {params : Arguments} {body : List Stmt} {scope : Scope} {f cc Dc : Addr} {dV kV doc pm cdv ct oc : Value} {an od : Option Addr} {osl : Array (Option Value)} {N ps : List Str} {k : Nat} {g : Env → Dr → SO}
    (lk : K.lookup f = some ⟨oc, od, .func (PySem.W.fnX x qual params body scope [("__class__", cc)] dV kV doc pm an cdv ct), osl⟩) (hcd : PySem.W.codeIn K cdv qual = true) (Sc : FnScopeS N ps scope) (hC : CellC K cc Dc)
    (hbody : ∀ (a : Addr) (A : Around) (outer : List PySem.Env) (s : Shared) (H : Hp) (E : XK), Room k (A.deeper (envS qual scope s.heap.objs.size f cdv cc)) →
      JBA (cxOfS (L2.CX P w) P w K mg base N qual scope f cdv cc A outer s H E) (fun cls d _ H => E cls d H) (B.at a) (.func body (envS qual scope s.heap.objs.size f cdv cc)) body g) :
    FnOk P w K mg base (L2.CX P w) (k + 1) f (PySem.W.fnX x qual params body scope [("__class__", cc)] dV kV doc pm an cdv ct) ps (spI B ps.length (runI N.length g)) := by
  refine fn_ofS lk hcd Sc hC (fun vs H Q E h => h.1) fun A outer s H vs Q E hr h => ?_
  obtain ⟨_, a, C, dx, fv, fs, vr, os, S, Hf, rfl, ha, l, fa, n1, n2, hx, hn, d, z, q⟩ := h
  refine ⟨tWSsA _ _ body, pssa_W, ?_⟩
  refine (hbody a A outer s H E hr).go (Hf, del H a) (L2.start N (.ref a :: vr)) H (startI N.length C fs os) S Hf _ (start_ri ha l fa n1 n2 hx hn d z) ?_
  exact init_end q (fun _ _ h => h) fun _ _ _ _ h => h
end Dn

set_option Elab.async false
set_option linter.all false
set_option maxRecDepth 100000
set_option maxHeartbeats 4000000
namespace Dn
open PySem PySem.Spec PyProof.Rows L2

/-! ### a def within a class whose closure holds the class; keyword-only parameters that lack -/
structure MeS (P : Program) (K : PySem.W.Frag) (mg : Str → Option Value) (name qual : Str) (st : Stmt) (Dc : Addr) (x0 : Str) : Type where
  f : Addr
  cc : Addr
  cdv : Value
  fd : FuncData
  ex : ∃ (oc : Value) (od : Option Addr) (kV doc pm : Value) (an : Option Addr) (ct : Value) (osl : Array (Option Value)),
    fd = PySem.W.fnX name qual (defArgs st) (defBody st) (defScope st) [("__class__", cc)] .none kV doc pm an cdv ct ∧ K.lookup f = some ⟨oc, od, .func fd, osl⟩
  cd : PySem.W.codeIn K cdv qual = true
  kp : PySem.W.keepIn K (.ref f) = true
  sf : SupF P K mg f cc cdv Dc x0
def MeS.mk' {P : Program} {K : PySem.W.Frag} {mg : Str → Option Value} {name qual : Str} {st : Stmt} {f cc cda Dc : Addr} {x0 : Str} {oc kV doc pm ct ccl cel : Value} {od an cdd ced : Option Addr} {osl ccs ces : Array (Option Value)} {vs : Array Value} {file : Str} {tf : Tok} {ar : Arg}
    (l : K.lookup f = some ⟨oc, od, .func (PySem.W.fnX name qual (defArgs st) (defBody st) (defScope st) [("__class__", cc)] .none kV doc pm an (.ref cda) ct), osl⟩)
    (c : PySem.W.codeIn K (.ref cda) qual = true) (k : PySem.W.keepIn K (.ref f) = true)
    (h1 : ((defArgs st).posonlyargs ++ (defArgs st).args).head? = some ar) (h2 : ar.arg = x0) (c1 : K.lookup cda = some ⟨ccl, cdd, .fields vs, ccs⟩) (c2 : vs[2]? = some (.str file tf)) (c3 : ((P.main.file : Str) == file) = true)
    (b1 : K.lookup cc = some ⟨cel, ced, .cell (some (.ref Dc)), ces⟩) (s1 : PySem.W.mroIn K Dc (.type "object") = some true) (s2 : mg "super" = none) (s3 : (P.main.scope.names.lookup ("super" : Str)).isSome = false) (s4 : PySem.W.nsIn K cStatics "thirdparty.any" = some none) :
    MeS P K mg name qual st Dc x0 :=
  ⟨f, cc, .ref cda, _, ⟨oc, od, kV, doc, pm, an, ct, osl, rfl, l⟩, c, k, ⟨⟨_, _, ar, l, rfl, h1, h2⟩, ⟨cda, _, vs, file, tf, rfl, c1, rfl, c2, c3⟩, ⟨_, b1, rfl⟩, by
    unfold PySem.W.mroIn at s1
    cases q : PySem.W.clsIn K Dc with
    | none => rw [q] at s1; cases s1
    | some cd => rfl, s2, s3, s4⟩⟩
/-- the keyword-only parameters dn have None as default -/
def KwdN (K : PySem.W.Frag) (kV : Value) (dn : List Str) : Prop := ∃ D : Addr, kV = .ref D ∧ ∀ x ∈ dn, PySem.W.nsIn K D x = some (some .none)
theorem kbn_of {K : PySem.W.Frag} {fd : FuncData} {ps ks : List Str} {n : Nat} {g : List Value → List Value → List Value} {gV : List V → List V → List V} (h : ∀ us ws : List Value, us.length = n → ws.length = ks.length → bindArgs fd ⟨us, ks.zip ws⟩ = pure (ps.zip (g us ws)))
    (r : ∀ {vs : List V} {us : List Value} {zs : List V} {ws : List Value}, Vals vs us → Vals zs ws → Vals (gV vs zs) (g us ws)) : KBn K fd ps n ks g gV := ⟨fun s us ws _ l1 l2 => .of_eq (h us ws l1 l2), r⟩
theorem kbn_lack {K : PySem.W.Frag} {fd : FuncData} {ps ks ms dn : List Str} {n : Nat} {g : List Value → List Value → List Value} {gV : List V → List V → List V} (hk : KwdN K fd.kwdefaults dn) (hms : ∀ x ∈ ms, x ∈ dn)
    (h : ∀ D : Addr, fd.kwdefaults = .ref D → ∀ us ws : List Value, us.length = n → ws.length = ks.length → KwChain D (ms.map fun x => (x, Value.none)) (bindArgs fd ⟨us, ks.zip ws⟩) (ps.zip (g us ws)))
    (r : ∀ {vs : List V} {us : List Value} {zs : List V} {ws : List Value}, Vals vs us → Vals zs ws → Vals (gV vs zs) (g us ws)) : KBn K fd ps n ks g gV := by
  obtain ⟨D, e, hd⟩ := hk
  refine ⟨fun s us ws X l1 l2 => BindsTo.of_looks fun M => KwChain.looks X (fun q hq => ?_) (h D e us ws l1 l2), r⟩
  obtain ⟨x, hx, rfl⟩ := List.mem_map.mp hq
  exact hd x (hms x hx)
/-- .. of a def in either form -/
theorem kb_fun {K : PySem.W.Frag} {x qual : Str} {st : Stmt} {f : Addr} {fd : FuncData} {ps ks : List Str} {n : Nat} {g : List Value → List Value → List Value} {gV : List V → List V → List V} (F : Fun K x qual st f fd)
    (h : ∀ (kV doc pm : Value) (an : Option Addr) (cdv ct : Value) (us ws : List Value), us.length = n → ws.length = ks.length → bindArgs (PySem.W.fnOf x qual (defArgs st) (defBody st) (defScope st) .none kV doc pm an cdv ct) ⟨us, ks.zip ws⟩ = pure (ps.zip (g us ws)))
    (r : ∀ {vs : List V} {us : List Value} {zs : List V} {ws : List Value}, Vals vs us → Vals zs ws → Vals (gV vs zs) (g us ws)) : KBn K fd ps n ks g gV := by
  obtain ⟨oc, od, kV, doc, pm, an, cdv, ct, osl, rfl, lk, hcd⟩ := F.ex
  exact kbn_of (h kV doc pm an cdv ct) r
theorem kb_funL {K : PySem.W.Frag} {x qual : Str} {st : Stmt} {f : Addr} {fd : FuncData} {ps ks ms dn : List Str} {n : Nat} {g : List Value → List Value → List Value} {gV : List V → List V → List V} (F : Fun K x qual st f fd) (hk : KwdN K fd.kwdefaults dn) (hms : ∀ x ∈ ms, x ∈ dn)
    (h : ∀ (D : Addr) (doc pm : Value) (an : Option Addr) (cdv ct : Value) (us ws : List Value), us.length = n → ws.length = ks.length → KwChain D (ms.map fun x => (x, Value.none)) (bindArgs (PySem.W.fnOf x qual (defArgs st) (defBody st) (defScope st) .none (.ref D) doc pm an cdv ct) ⟨us, ks.zip ws⟩) (ps.zip (g us ws)))
    (r : ∀ {vs : List V} {us : List Value} {zs : List V} {ws : List Value}, Vals vs us → Vals zs ws → Vals (gV vs zs) (g us ws)) : KBn K fd ps n ks g gV := by
  obtain ⟨oc, od, kV, doc, pm, an, cdv, ct, osl, rfl, lk, hcd⟩ := F.ex
  refine kbn_lack hk hms (fun D e us ws l1 l2 => ?_) r
  have e : kV = .ref D := e
  subst e
  exact h D doc pm an cdv ct us ws l1 l2
section
variable {P : Program} {K : PySem.W.Frag} {mg : Str → Option Value} {x qual : Str} {st : Stmt} {Dc : Addr} {x0 : Str} {ps ks ms dn : List Str} {n : Nat} {g : List Value → List Value → List Value} {gV : List V → List V → List V}
theorem kb_sup (A : MeS P K mg x qual st Dc x0)
    (h : ∀ (cl : List (Str × Addr)) (kV doc pm : Value) (an : Option Addr) (cdv ct : Value) (us ws : List Value), us.length = n → ws.length = ks.length → bindArgs (PySem.W.fnX x qual (defArgs st) (defBody st) (defScope st) cl .none kV doc pm an cdv ct) ⟨us, ks.zip ws⟩ = pure (ps.zip (g us ws)))
    (r : ∀ {vs : List V} {us : List Value} {zs : List V} {ws : List Value}, Vals vs us → Vals zs ws → Vals (gV vs zs) (g us ws)) : KBn K A.fd ps n ks g gV := by
  obtain ⟨oc, od, kV, doc, pm, an, ct, osl, e, lk⟩ := A.ex
  rw [e]
  exact kbn_of (h _ kV doc pm an _ ct) r
theorem kb_supL (A : MeS P K mg x qual st Dc x0) (hk : KwdN K A.fd.kwdefaults dn) (hms : ∀ x ∈ ms, x ∈ dn)
    (h : ∀ (cl : List (Str × Addr)) (D : Addr) (doc pm : Value) (an : Option Addr) (cdv ct : Value) (us ws : List Value), us.length = n → ws.length = ks.length → KwChain D (ms.map fun x => (x, Value.none)) (bindArgs (PySem.W.fnX x qual (defArgs st) (defBody st) (defScope st) cl .none (.ref D) doc pm an cdv ct) ⟨us, ks.zip ws⟩) (ps.zip (g us ws)))
    (r : ∀ {vs : List V} {us : List Value} {zs : List V} {ws : List Value}, Vals vs us → Vals zs ws → Vals (gV vs zs) (g us ws)) : KBn K A.fd ps n ks g gV := by
  obtain ⟨oc, od, kV, doc, pm, an, ct, osl, e, lk⟩ := A.ex
  rw [e] at hk ⊢
  refine kbn_lack hk hms (fun D e us ws l1 l2 => ?_) r
  have e : kV = .ref D := e
  subst e
  exact h _ D doc pm an _ ct us ws l1 l2
end
theorem gr_app {vs : List V} {us : List Value} {zs : List V} {ws : List Value} (a : Vals vs us) (b : Vals zs ws) : Vals (vs ++ zs) (us ++ ws) := a.append b
theorem gr_rev {vs : List V} {us : List Value} {zs : List V} {ws : List Value} (a : Vals vs us) (b : Vals zs ws) : Vals (vs ++ zs.reverse) (us ++ ws.reverse) := a.append b.reverse
theorem gr_non {vs : List V} {us : List Value} {zs : List V} {ws : List Value} (a : Vals vs us) (b : Vals zs ws) : Vals (vs ++ (V.non :: zs)) (us ++ (Value.none :: ws)) := a.append (.cons rfl b)
theorem gr_non2 {vs : List V} {us : List Value} {zs : List V} {ws : List Value} (a : Vals vs us) (b : Vals zs ws) : Vals (vs ++ (V.non :: V.non :: zs)) (us ++ (Value.none :: Value.none :: ws)) := a.append (.cons rfl (.cons rfl b))
theorem gr_nonE {vs : List V} {us : List Value} {zs : List V} {ws : List Value} (a : Vals vs us) (b : Vals zs ws) : Vals (vs ++ (zs ++ [V.non])) (us ++ (ws ++ [Value.none])) := a.append (b.append (.cons rfl .nil))
theorem gvo_non2 {n m : Nat} : GvO n m (n + m + 3) (fun vs zs => vs ++ (.non :: .non :: zs)) (fun os ks => os ++ (.v .non :: .v .non :: ks)) := fun B Hf H v vs zs os ks h1 h2 l1 l2 => ⟨vs ++ (.non :: .non :: zs), rfl, as_append h1 (.cons (show ArR B Hf H .non (.v .non) from Rep.non) (.cons (show ArR B Hf H .non (.v .non) from Rep.non) h2)), by simp; omega⟩
theorem gvo_nonE {n m : Nat} : GvO n m (n + m + 2) (fun vs zs => vs ++ (zs ++ [.non])) (fun os ks => os ++ (ks ++ [.v .non])) := fun B Hf H v vs zs os ks h1 h2 l1 l2 => ⟨vs ++ (zs ++ [.non]), rfl, as_append h1 (as_append h2 (.cons (show ArR B Hf H .non (.v .non) from Rep.non) .nil)), by simp; omega⟩
/-- the def of a class is made of such a text -/
theorem ji_mkS' {P : Program} {w : World} {K : PySem.W.Frag} {mg : Str → Option Value} {base : Heap} {x qual : Str} {st : Stmt} {Dc : Addr} {x0 : Str} (A : MeS P K mg x qual st Dc x0) {N ps : List Str} {k : Nat} {g : Env → Dr → SO} {B : Bs} (Sc : FnScopeS N ps (defScope st))
    (hbody : ∀ (a : Addr) (A1 : Around) (outer : List PySem.Env) (s : Shared) (H : Hp) (E : XK), Room k (A1.deeper (envS qual (defScope st) s.heap.objs.size A.f A.cdv A.cc)) →
      JBA (cxOfS (L2.CX P w) P w K mg base N qual (defScope st) A.f A.cdv A.cc A1 outer s H E) (fun cls d _ H => E cls d H) (B.at a) (.func (defBody st) (envS qual (defScope st) s.heap.objs.size A.f A.cdv A.cc)) (defBody st) g) :
    FnOk P w K mg base (L2.CX P w) (k + 1) A.f A.fd ps (spI B ps.length (runI N.length g)) := by
  obtain ⟨oc, od, kV, doc, pm, an, ct, osl, e, lk⟩ := A.ex
  rw [e] at lk ⊢
  exact ji_mkS lk A.cd Sc A.sf.cell fun a A1 outer s H E hr => hbody a A1 outer s H E hr
theorem cells_cls {n : Nat} {cc : Addr} {names : List (Str × NameKind)} (h : (cellsFrom n names []).lookup ("__class__" : Str) = none := by rfl) : (cellsFrom n names [("__class__", cc)]).lookup ("__class__" : Str) = some cc := by
  rw [Sup.cells_app]
  exact Sup.lk_app3 h rfl
theorem fnIn_of {K : PySem.W.Frag} {f : Addr} {oc : Value} {od : Option Addr} {fd : FuncData} {sl : Array (Option Value)} (l : K.lookup f = some ⟨oc, od, .func fd, sl⟩) : PySem.W.fnIn K f = true := by
  unfold PySem.W.fnIn
  rw [l]
/-- an __init__'s promise within an __init__ -/
theorem in_at {P : Program} {w : World} {K : PySem.W.Frag} {mg : Str → Option Value} {base : Heap} {k : Nat} {f : Addr} {fd : FuncData} {ps : List Str} {B : Bs} {n : Nat} {F : Addr → List (Str × Dn.D) → List O → Dr → Out (List (Str × Dn.D))} (a : Addr) (G : FnOk P w K mg base (L2.CX P w) k f fd ps (spI B n F)) :
    FnOk P w K mg base (L2.CX P w) k f fd ps (spI (B.at a) n F) :=
  G.imp fun vs H Q E ⟨hl, b, C, dx, fv, fs, vr, os, S, Hf, e, h1, h2, h3, h4, h5, hx, hn, d, z, q⟩ => ⟨hl, b, C, dx, fv, fs, vr, os, S, Hf, e, h1, h2, h3, h4, h5, hx, hn, d.un, as_un z, by
    cases w : F C fs os S with
    | ok fs' S' => rw [w] at q; exact fun Hf' H' dx' fv' n d y1 y2 y3 => q Hf' H' dx' fv' n.at d.at y1 y2 y3
    | exc C' fs' S' => rw [w] at q; exact fun dd Hf' H' n d x => q dd Hf' H' n.at d.at x
    | stk => rw [w] at q; exact q⟩
end Dn

set_option Elab.async false
set_option linter.all false
set_option maxRecDepth 100000
set_option maxHeartbeats 4000000
namespace Dn
open PySem PySem.Spec PyProof.Rows L2

/-! ### one method for several classes; super in the calculus -/
def tabS {α : Type} (Cs : List Addr) (F : α) : Addr → Option α := fun C => if isL Cs C = true then some F else none
theorem tabS_ok {α : Type} {P : Addr → α → Prop} {Cs : List Addr} {F : α} (h : AllP (fun C => P C F) Cs) : ∀ C G, tabS Cs F C = some G → P C G := fun C G e => by
  unfold tabS at e
  split at e
  · rename_i q
    cases e
    exact isL_ok h C q
  · cases e
theorem tabS_at {α : Type} {C0 : Addr} {r : List Addr} {F : α} : tabS (C0 :: r) F C0 = some F := by unfold tabS; simp
theorem tabS_in {α : Type} {C : Addr} {Cs : List Addr} {F : α} (h : isL Cs C = true) : tabS Cs F C = some F := by unfold tabS; rw [if_pos h]
section
variable {X : PX} {S : Dr} {ρ : Env} {K : Kt} {fr fk : Env → Dr → Out (List O)}
theorem w_sup {ok : Addr → Bool} {n m : Nat} {F : Addr → List (Str × Dn.D) → List O → Dr → Out (List (Str × Dn.D))} {gO : List O → List O → List O} {C : Addr} {fs : List (Str × Dn.D)} (hok : ok C = true) : (sSup ok n m F gO fr fk (some (.ob C fs) :: ρ) S).w K =
    (fr (some (.ob C fs) :: ρ) S).w (fun os S1 => (fk (some (.ob C fs) :: ρ) S1).w (fun ks S2 => os.length = n ∧ ks.length = m ∧ (F C fs (gO os ks) S2).w (fun fs' S3 => K.nx (some (.ob C fs') :: ρ) S3) (fun C' fs' S3 => K.ex C' fs' (none :: ρ) S3)) (fun C' fs' S1 => K.ex C' fs' (some (.ob C fs) :: ρ) S1)) (fun C' fs' S1 => K.ex C' fs' (some (.ob C fs) :: ρ) S1) := by
  unfold sSup
  show (if ok C = true then _ else _ : SO).w K = _
  rw [if_pos hok, w_so]
  congr 1
  funext os S1
  rw [w_so]
  congr 1
  funext ks S2
  apply propext
  by_cases hl : os.length = n ∧ ks.length = m
  · rw [if_pos hl]
    cases q : F C fs (gO os ks) S2 with
    | ok fs' S3 => exact ⟨fun h => ⟨hl.1, hl.2, h⟩, fun h => h.2.2⟩
    | exc C' fs' S3 => exact ⟨fun h => ⟨hl.1, hl.2, h⟩, fun h => h.2.2⟩
    | stk => exact ⟨fun h => h.elim, fun h => h.2.2.elim⟩
  · rw [if_neg hl]
    exact ⟨fun h => h.elim, fun h => (hl ⟨h.1, h.2.1⟩).elim⟩
end
theorem Out.eq_of_w' {α : Type} {e : α} {o : Out α} {S' : Dr} (h : o.w (fun a S1 => a = e ∧ S1 = S') noX') : o = .ok e S' := by
  cases o with
  | ok a S1 => obtain ⟨rfl, rfl⟩ := h; rfl
  | exc C fs S1 => exact h.elim
  | stk => exact h.elim
end Dn

set_option Elab.async false
set_option linter.all false
set_option maxRecDepth 100000
set_option maxHeartbeats 4000000
namespace Dn
open PySem PySem.Spec PyProof.Rows L2

/-! ### in: a tuple of data; a list, a tuple, a sign in a text, a dict by what stands there -/
def rInT (K : PySem.W.Frag) : R2 := fun x y H Q => ∃ d ds, Dp K H x d ∧ Dp K H y (.tuple ds) ∧ SeqAt.shaped d = true ∧ SeqAt.shaped (.tuple ds) = true ∧ Q (.bl (ds.any fun z => PyData.eqv z d)) H
def rNotInT (K : PySem.W.Frag) : R2 := fun x y H Q => ∃ d ds, Dp K H x d ∧ Dp K H y (.tuple ds) ∧ SeqAt.shaped d = true ∧ SeqAt.shaped (.tuple ds) = true ∧ Q (.bl (!ds.any fun z => PyData.eqv z d)) H
section
variable {X : Cx}
theorem op_inT (hu : X.A.units + 65 < cLine) : OpR X (compareOp .In) (rInT X.K) := by
  intro pins s σ H x y v u Q I rx ry h
  obtain ⟨d, ds, hd, he, sd, se, q⟩ := h
  obtain ⟨as, r1⟩ := Dp.reads I d x v hd rx
  obtain ⟨bs, r2⟩ := Dp.reads I (.tuple ds) y u he ry
  exact SeqAt.in_tuple_reads r2 r1 (SeqAt.canLay_of_shaped se) (SeqAt.canLay_of_shaped sd) (room_in_shaped sd hu) ⟨.bl _, H, I, rfl, q⟩
theorem op_notInT (hu : X.A.units + 65 < cLine) : OpR X (compareOp .NotIn) (rNotInT X.K) := by
  intro pins s σ H x y v u Q I rx ry h
  obtain ⟨d, ds, hd, he, sd, se, q⟩ := h
  obtain ⟨as, r1⟩ := Dp.reads I d x v hd rx
  obtain ⟨bs, r2⟩ := Dp.reads I (.tuple ds) y u he ry
  exact SeqAt.notIn_tuple_reads r2 r1 (SeqAt.canLay_of_shaped se) (SeqAt.canLay_of_shaped sd) (room_in_shaped sd hu) ⟨.bl _, H, I, rfl, q⟩
end
def gInT (neg : Bool) : E → E → Option E := fun x y => match x.py, y.py with
  | some p, some (.tuple qs) => if SeqAt.shaped p = true ∧ SeqAt.shaped (.tuple qs) = true then some (.v (.bl (if neg then !qs.any (fun z => PyData.eqv z p) else qs.any (fun z => PyData.eqv z p)))) else none
  | _, _ => none
section
variable {X : Cx} {W : WX} {B : Bs} {bs : Hp × Hp} {Hs Hf H : Hp} {ρ : Env} {S : Dr} {σ : L2.St} {a b e : Expr} {fa fb : Env → Dr → Out E} {pos : Pos}
theorem oj_inT : OpJ B (rInT B.K) (gInT false) := fun bs σ H ρ S Hf Hs1 Hs2 x y e1 e2 e Q r h1 h2 q k => by
  unfold gInT at q
  split at q
  · rename_i p1 p2 q1 q2
    split at q
    · rename_i hc
      cases q
      exact ⟨_, _, E.dp r h1 q1, E.dp r h2 q2, hc.1, hc.2, VP.now r k (Rep.bl _)⟩
    · cases q
  · cases q
theorem oj_notInT : OpJ B (rNotInT B.K) (gInT true) := fun bs σ H ρ S Hf Hs1 Hs2 x y e1 e2 e Q r h1 h2 q k => by
  unfold gInT at q
  split at q
  · rename_i p1 p2 q1 q2
    split at q
    · rename_i hc
      cases q
      exact ⟨_, _, E.dp r h1 q1, E.dp r h2 q2, hc.1, hc.2, VP.now r k (Rep.bl _)⟩
    · cases q
  · cases q
def gInAT (neg : Bool) : E → E → Option E := fun x y => match gInA neg x y with
  | some z => some z
  | none => gInT neg x y
def gInF (neg : Bool) : E → E → Option E := fun x y => match gInAT neg x y with
  | some z => some z
  | none => gInK neg x y
theorem je_inF (hK : X.K = B.K) (hu : X.A.units + 65 < cLine) (ha : JE X W B a fa) (hb : JE X W B b fb) (hm : behindInMarks .In b = false := by first | exact nomark _ | rfl | (with_unfolding_all rfl)) : JE X W B (.Compare a [.In] [b] pos) (fOp (gInF false) fa fb) :=
  JE.orOp (je_cmp (OpR.or (op_inA hK hu) (hK ▸ op_inT hu)) (OpJ.or oj_inA oj_inT) ha hb hm) (je_inK (by omega) ha hb hm)
theorem je_notInF (hK : X.K = B.K) (hu : X.A.units + 65 < cLine) (ha : JE X W B a fa) (hb : JE X W B b fb) (hm : behindInMarks .NotIn b = false := by first | exact nomark _ | rfl | (with_unfolding_all rfl)) : JE X W B (.Compare a [.NotIn] [b] pos) (fOp (gInF true) fa fb) :=
  JE.orOp (je_cmp (OpR.or (op_notInA hK hu) (hK ▸ op_notInT hu)) (OpJ.or oj_notInA oj_notInT) ha hb hm) (je_notInK (by omega) ha hb hm)
theorem jt_inF (hK : X.K = B.K) (hu : X.A.units + 65 < cLine) (ha : JE X W B a fa) (hb : JE X W B b fb) (hm : behindInMarks .In b = false := by first | exact nomark _ | rfl | (with_unfolding_all rfl)) : JT X W B (.Compare a [.In] [b] pos) (fTst (fOp (gInF false) fa fb)) :=
  JT.orOp (jt_cmp (OpR.or (op_inA hK hu) (hK ▸ op_inT hu)) (OpJ.or oj_inA oj_inT) ha hb hm) (jt_inK (by omega) ha hb hm)
theorem jt_notInF (hK : X.K = B.K) (hu : X.A.units + 65 < cLine) (ha : JE X W B a fa) (hb : JE X W B b fb) (hm : behindInMarks .NotIn b = false := by first | exact nomark _ | rfl | (with_unfolding_all rfl)) : JT X W B (.Compare a [.NotIn] [b] pos) (fTst (fOp (gInF true) fa fb)) :=
  JT.orOp (jt_cmp (OpR.or (op_notInA hK hu) (hK ▸ op_notInT hu)) (OpJ.or oj_notInA oj_notInT) ha hb hm) (jt_notInK (by omega) ha hb hm)
end
theorem gInF_A {neg : Bool} {x y z : E} (h : gInA neg x y = some z) : gInF neg x y = some z := by unfold gInF gInAT; rw [h]
theorem gInA_tup {neg : Bool} {x : E} {ds : List Dn.D} : gInA neg x (.v (.tup ds)) = none := by
  have h1 : gInL neg x (.v (.tup ds)) = none := by
    unfold gInL
    cases x.py <;> simp [E.py, toPy]
  unfold gInA
  rw [h1]
  show gInSg neg x (.v (.tup ds)) = none
  unfold gInSg
  split
  · rename_i h2; cases h2
  · rfl
theorem gInF_T {neg : Bool} {x z : E} {ds : List Dn.D} (h : gInT neg x (.v (.tup ds)) = some z) : gInF neg x (.v (.tup ds)) = some z := by unfold gInF gInAT; rw [gInA_tup, h]
theorem gInF_dct {neg : Bool} {i : Int} {kvs : List (Key × Dn.D)} : gInF neg (.v (.int i)) (.v (.dct kvs)) = some (.v (.bl (if neg then !(dV kvs (.inl i)).isSome else (dV kvs (.inl i)).isSome))) := by
  have h1 : gInA neg (.v (.int i)) (.v (.dct kvs)) = none := by unfold gInA gInL gInSg; simp [E.py, toPy]
  have h2 : gInT neg (.v (.int i)) (.v (.dct kvs)) = none := by unfold gInT; simp [E.py, toPy]
  unfold gInF gInAT
  rw [h1, h2]
  unfold gInK; simp [E.kd, E.key]
/-- a value in a tuple of plain values -/
theorem gInF_pl {n : Nat} {neg : Bool} {d : Dn.D} {ds : List Dn.D} {x : E} (hx : x.py = toPy d) (h1 : Pl n d) (h2 : ∀ z ∈ ds, Pl n z) (hn : n < 64) : gInF neg x (.v (.tup ds)) = some (.v (.bl (if neg then !ds.any (fun z => eqD z d) else ds.any (fun z => eqD z d)))) := by
  refine gInF_T ?_
  have hl := gInA_pl (neg := neg) (x := x) (y := .b ds) hx rfl h1 h2 hn
  unfold gInA at hl
  have hsg : gInSg neg x (.b ds) = none := by
    unfold gInSg
    split
    · rename_i h2; cases h2
    · rfl
  have hL : gInL neg x (.b ds) = some (.v (.bl (if neg then !ds.any (fun z => eqD z d) else ds.any (fun z => eqD z d)))) := by
    cases q : gInL neg x (.b ds) with
    | some z => rw [q] at hl; exact hl
    | none => rw [q, hsg] at hl; cases hl
  unfold gInL at hL
  unfold gInT
  cases q1 : x.py with
  | none => rw [q1] at hL; simp at hL
  | some p =>
    rw [q1] at hL
    cases q2 : toPyL ds with
    | none => simp [E.py, q2] at hL
    | some qs =>
      simp [E.py, q2] at hL
      obtain ⟨⟨s1, s2⟩, e⟩ := hL
      have s3 : SeqAt.shaped (.tuple qs) = true := s2
      simp [E.py, toPy, q2, s1, s3, e]
end Dn

set_option Elab.async false
set_option linter.all false
set_option maxRecDepth 100000
set_option maxHeartbeats 4000000
namespace Dn.SrtT
open PySem PyProof.Rows Srt SrtO
section
variable {prog : Program} {w : World} {A : Around} {E : Value → Shared → Prop} {s : Shared}
theorem collect_tuple {l : Addr} {vs : List Value} {Q : List Value → Shared → Prop} (hl : s.heap.IsTuple l vs.toArray)
    (h : Q vs { s with heap := (s.heap.push (seqObj "list" #[] 0)).update s.heap.objs.size (Obj.mapSeq (· ++ vs.toArray)) }) (hsz : vs.length ≤ sizeLine) :
    wpAny (model prog w) A (collect (.ref l)) Q E s := by
  obtain ⟨o, ho, hc, n, hd⟩ := id hl
  unfold collect
  refine wpAny_bind (wpAny_runValue (codeAny_builtin entry_proto_collect' ?_))
  show wpAny _ _ (do again (.builtin "list.__iadd__" ⟨[← newList [], .ref l], []⟩)) _ _ s
  refine wpAny_bind (wpAny_newList (wpAny_pure ⟨Code.quiet_builtin _ (by decide +kernel), codeAny_builtin entry_list_iadd' ?_⟩))
  show wpAny _ _ (Builtin.List.listExtendWith (.ref s.heap.objs.size) (.ref l) (.ref s.heap.objs.size)) _ _ { s with heap := s.heap.push (seqObj "list" #[] 0) }
  unfold Builtin.List.listExtendWith
  have ho' : (s.heap.push (seqObj "list" #[] 0)).get? l = some o := Heap.get?_push_of_some _ ho
  refine wpAny_bind (wpAny_typeOf (T := "tuple") ⟨o, ho', hc⟩ ?_)
  have ht : (Value.type "tuple" == Value.type "tuple") = true := by rfl
  rw [if_pos (by rw [ht]; simp)]
  refine wpAny_bind (listItems_at ho' hd ?_)
  refine wpAny_bind (listItems_at (xs := #[]) (n := 0) (Heap.get?_push_size _ rfl) rfl ?_)
  rw [if_neg (by simp)]
  refine wpAny_bind (listUpdate_at (xs := #[]) (n := 0) (Heap.get?_push_size _ rfl) rfl ?_ (Nat.zero_le _) (by show (#[] ++ vs.toArray).size ≤ sizeLine + 1; simp only [Array.size_append, List.size_toArray, List.length_nil]; omega))
  refine wpAny_pure ?_
  show wpAny (model prog w) A (do
      let o ← load s.heap.objs.size
      match o.data with
      | .seq xs _ => pure xs.toList
      | _ => unsupported "internal:collect") Q E { s with heap := (s.heap.push (seqObj "list" #[] 0)).update s.heap.objs.size (Obj.mapSeq (· ++ vs.toArray)) }
  refine wpAny_bind (wpAny_load (get?_update_seq (Heap.get?_push_size _ rfl) _) ?_)
  show wpAny _ _ (pure ((#[] : Array Value) ++ vs.toArray).toList) Q E _
  rw [show ((#[] : Array Value) ++ vs.toArray).toList = vs by simp]
  exact wpAny_pure h
theorem sorted_ordT {l : Addr} {vs : List Value} {ltv : Value → Value → Bool} {Q : Value → Shared → Prop} (O : Swo ltv) (hl : s.heap.IsTuple l vs.toArray) (hz : vs.length ≤ sizeLine)
    (hS : 2 ≤ vs.length → ∀ (h₁ : Heap) (a : Addr), h₁.get? a = some (seqObj "list" vs.toArray 0) → (∀ b o, s.heap.get? b = some o → b ≠ a ∧ h₁.get? b = some o) → SortableO prog w A.in1.in1 { s with heap := h₁ } a vs ltv)
    (h : ∀ out : List Value, Srtd ltv out → Stb ltv out vs → Q (.ref (s.heap.objs.size + 1)) { s with heap := sortedAll s.heap vs out.toArray }) :
    wpAny (model prog w) A (call (.builtin "sorted") [.ref l]) Q E s := by
  refine Calls.call_function_entry kind_sorted plain_sorted entry_sorted (args_sorted1 _) ?_
  unfold Builtin.«sorted»
  refine wpAny_bind (m := checkCount "sorted" 1 1 _) (wpAny_pure ?_)
  refine wpAny_bind (collect_tuple hl ?_ hz)
  refine wpAny_bind (wpAny_newList ?_ hz)
  have hsz : ((s.heap.push (seqObj "list" #[] 0)).update s.heap.objs.size (Obj.mapSeq (· ++ vs.toArray))).objs.size = s.heap.objs.size + 1 := by
    rw [Heap.size_update, size_push']
  have hoL : (((s.heap.push (seqObj "list" #[] 0)).update s.heap.objs.size (Obj.mapSeq (· ++ vs.toArray))).push (seqObj "list" vs.toArray 0)).get? (s.heap.objs.size + 1) = some (seqObj "list" vs.toArray 0) := by
    rw [← hsz]; exact Heap.get?_push_size _ rfl
  have keep : ∀ b o, s.heap.get? b = some o → b ≠ s.heap.objs.size + 1 ∧ (((s.heap.push (seqObj "list" #[] 0)).update s.heap.objs.size (Obj.mapSeq (· ++ vs.toArray))).push (seqObj "list" vs.toArray 0)).get? b = some o := fun b o q => by
    have hlt : b < s.heap.objs.size := Heap.lt_size q
    refine ⟨Nat.ne_of_lt (Nat.lt_succ_of_lt hlt), Heap.get?_push_of_some _ ?_⟩
    rw [Heap.get?_update_ne _ _ _ _ (Nat.ne_of_lt hlt)]
    exact Heap.get?_push_of_some _ q
  show wpAny _ _ _ _ _ { s with heap := ((s.heap.push (seqObj "list" #[] 0)).update s.heap.objs.size (Obj.mapSeq (· ++ vs.toArray))).push (seqObj "list" vs.toArray 0) }
  rw [hsz]
  refine wpAny_bind (wpAny_holding (wpAny_call_entry slot_list_sort ⟨_, hoL, rfl⟩ entry_list_sort (list_sort_ord O hoL hz (fun h2 => hS h2 _ _ hoL keep) fun out hs hb => ⟨_, rfl, ?_⟩) (args_list_sort _)))
  exact wpAny_pure ⟨_, rfl, h out hs hb⟩
end
end Dn.SrtT
namespace Dn
open PySem PySem.Spec PyProof.Rows L2
/-- sorted(a tuple of ints) -/
def rSortedIT (K : PySem.W.Frag) : List V → Hp → VK → Prop := fun vs H Q => ∃ (a : Addr) (ns : List Int), vs = [V.ref a] ∧ SqT K H a (ns.map V.int) ∧
  ∀ (ns' : List Int) (p : Addr), ns'.Perm ns → ns'.Pairwise (· ≤ ·) → H p = none → Q (.ref p) (upd H p (.lst (ns'.map V.int)))
section
variable {X : Cx} {W : WX} {B : Bs} {bs : Hp × Hp} {Hs Hf H : Hp} {ρ : Env} {S : Dr} {σ : L2.St} {e : Expr} {es : List Expr} {fr : Env → Dr → Out (List O)} {pos p : Pos}
theorem cr_sortedIT : CallR X (.builtin "sorted") (rSortedIT X.K) := by
  intro pins s σ H vs us Q I r h
  obtain ⟨a, ns, rfl, hs, q⟩ := h
  obtain ⟨its, rv, hl, hz⟩ := I.tuple hs
  rw [Vals.ref1 r]
  have hi := rv.ints
  refine SrtT.sorted_ordT SrtO.swo_int hl (by rw [← rv.length]; exact hz) (fun h2 h₁ a' _ _ => SrtO.ints_sortable hi h2) fun out h1 h2 => ?_
  obtain ⟨k1, k2, k3⟩ := SrtO.ints_out hi h1 h2
  obtain ⟨ep, he'⟩ := PyProof.Rows.sortedAll_at s.heap its out.toArray
  have hlen : ((out.map SrtO.iv).map V.int).length ≤ sizeLine := by
    rw [List.length_map, k2.length_eq]
    rw [List.length_map] at hz
    exact hz
  exact ⟨.ref _, upd H (s.heap.objs.size + 1) (.lst ((out.map SrtO.iv).map V.int)), I.laid (t' := s.toks) (fun _ _ => PyProof.Rows.sortedAll_old) (Nat.le_succ _) ⟨hlen, out, ep, vals_of_ints k1, he'⟩, rfl, q _ _ k2 k3 (I.hok.fresh (Nat.le_succ _))⟩
def gSortT : List O → Option E
  | [.v (.tup ds)] => match intsD ds with
    | some ns => some (.n ((srtI ns).map D.int))
    | none => none
  | _ => none
theorem cj_sortT : CallJ B (rSortedIT B.K) gSortT := fun bs σ H ρ S Hf vs os e Q r z q k => by
  unfold gSortT at q
  split at q
  · rename_i ds
    obtain ⟨v, rfl, h⟩ := as1 z
    split at q
    · rename_i ns q2
      cases q
      obtain ⟨a, vs, rfl, t, l⟩ := rep_tup r.ex (show Rep B.K B.dr Hf v (.tup ds) from h)
      refine ⟨a, ns, rfl, by rw [← ints_vs q2 l]; exact t, fun ns' p hp hs hn => ?_⟩
      rw [srtI_eq hp hs]
      exact VP.newL r k (RepL.ints _) hn
    · cases q
  · cases q
def gSortF (os : List O) : Option E := match gSortT os with
  | some e => some e
  | none => gSort os
theorem je_sortedF (hK : X.K = B.K) (hc : X.calm = true) (hm : X.mg "sorted" = none) (ha : JA X W B (e :: es) fr) (hg : Gl X "sorted" := by rfl) (he : starEach (e :: es) X.env = (false, eval e X.env) :: starEach es X.env := by exact star_c rfl) (hpl : (backTo pos (starEach es X.env)).any (·.1) = false := by exact star_any rfl) :
    JE X W B (.Call (.Name "sorted" p) (e :: es) [] pos) (fCall gSortF fr) := je_callB (CallR.or (hK ▸ cr_sortedIT) (CallR.or cr_sortedI (call_sortedDI hc))) (CallJ.or cj_sortT (CallJ.or (hK ▸ cj_sortI) cj_sortK)) hm ha hg (by decide +kernel) (by decide) (by decide) he hpl
end
end Dn

set_option Elab.async false
set_option linter.all false
set_option maxRecDepth 100000
set_option maxHeartbeats 4000000
namespace Dn
open PySem PySem.Spec PyProof.Rows L2

/-! ### isinstance(e, C), C an own class -/
/-- what isinstance asks of an instance's class -/
structure InsC (K : PySem.W.Frag) (C : Addr) : Prop where
  cl : Cls K C
  ha : PySem.W.findIn K (.ref C) "__class__" = some (some (.builtin "object.__class__"))
  hn : PySem.W.specialIn K (.builtin "object.__class__") "__get__" = some (some (.builtin "getset_descriptor.__get__"))
  ht : PySem.W.takesIn K (.builtin "object.__class__") = some true
  hm : PySem.W.mroIn K C (.type "object") = some true
/-- no built-in value is of the class -/
def NoBlt (K : PySem.W.Frag) (D : Addr) : Prop := ∀ t ∈ tys, PySem.W.subIn K (.type t) (.ref D) = some false
theorem noblt_of {K : PySem.W.Frag} {D : Addr} (h0 : PySem.W.subIn K (.type "NoneType") (.ref D) = some false) (h1 : PySem.W.subIn K (.type "bool") (.ref D) = some false) (h2 : PySem.W.subIn K (.type "int") (.ref D) = some false) (h3 : PySem.W.subIn K (.type "str") (.ref D) = some false)
    (h4 : PySem.W.subIn K (.type "tuple") (.ref D) = some false) (h5 : PySem.W.subIn K (.type "list") (.ref D) = some false) (h6 : PySem.W.subIn K (.type "dict") (.ref D) = some false) : NoBlt K D := fun t m => by
  simp only [tys, List.mem_cons, List.not_mem_nil, or_false] at m
  rcases m with rfl | rfl | rfl | rfl | rfl | rfl | rfl
  · exact h0
  · exact h1
  · exact h2
  · exact h3
  · exact h4
  · exact h5
  · exact h6
theorem kit_blt {K : PySem.W.Frag} {D : Addr} {t : String} (hc : PySem.W.isClsIn K D = true) (ht : PySem.W.typeIn K (.ref D) = some (.type "type")) (h : PySem.W.subIn K (.type t) (.ref D) = some false) : PySem.W.kitOne K (.type t) (.ref D) = some false := by
  unfold PySem.W.kitOne
  rw [if_neg (by simp)]
  show (if ((PySem.W.clsIn K D).isSome && PySem.W.typeIn K (.ref D) == some (.type "type")) = true then PySem.W.subIn K (.type t) (.ref D) else none) = some false
  rw [if_pos (by rw [show (PySem.W.clsIn K D).isSome = true from hc, ht]; rfl)]
  exact h
theorem kit_own {K : PySem.W.Frag} {C D : Addr} {b : Bool} (hc : PySem.W.isClsIn K D = true) (ht : PySem.W.typeIn K (.ref D) = some (.type "type")) (h : PySem.W.subIn K (.ref C) (.ref D) = some b) (hb : C = D → b = true) : PySem.W.kitOne K (.ref C) (.ref D) = some b := by
  unfold PySem.W.kitOne
  by_cases e : C = D
  · subst e
    rw [if_pos (by simp), hb rfl]
  · rw [if_neg (by simpa using e)]
    show (if ((PySem.W.clsIn K D).isSome && PySem.W.typeIn K (.ref D) == some (.type "type")) = true then PySem.W.subIn K (.ref C) (.ref D) else none) = some b
    rw [if_pos (by rw [show (PySem.W.clsIn K D).isSome = true from hc, ht]; rfl)]
    exact h
def fIsC (tab : Addr → Option Bool) (fa : Env → Dr → Out E) : Env → Dr → Out E := fun ρ S => (fa ρ S).bind fun e S1 => match e with
  | .v (.obj C fs) => match tab C with
    | some b => .ok (.v (.bl b)) S1
    | none => .stk
  | e => match tyE e with
    | some _ => .ok (.v (.bl false)) S1
    | none => .stk
/-- the class at D, as isinstance asks for it -/
structure IsD (K : PySem.W.Frag) (D : Addr) (tab : Addr → Option Bool) : Prop where
  n : ∀ t ∈ tys, PySem.W.kitOne K (.type t) (.ref D) = some false
  o : ∀ C b, tab C = some b → InsC K C ∧ PySem.W.kitOne K (.ref C) (.ref D) = some b
section
variable {X : Cx} {W : WX} {B : Bs} {bs : Hp × Hp} {Hs Hf H : Hp} {ρ : Env} {S : Dr} {σ : L2.St} {a b : Expr} {fa fb : Env → Dr → Out E} {pos p p1 : Pos}
theorem ty_obj (r : R B bs Hf ρ S σ H) {v : V} {C : Addr} {fs : List (Str × Dn.D)} (ic : InsC B.K C) (h : Rep B.K B.dr Hf v (.obj C fs)) : TyX B.K H v (.ref C) := by
  obtain ⟨a, dx, fv, rfl, ha, _⟩ := rep_obj r.ex h
  exact .base (.ins ha ic.cl ic.ha ic.hn ic.ht ic.hm)
theorem je_isC {x : Str} {D : Addr} {tab : Addr → Option Bool} (T : IsD X.K D tab) (hK : X.K = B.K) (hm : X.mg "isinstance" = none) (ha : JE X W B a fa) (hmx : X.mg x = some (.ref D)) (hgi : Gl X "isinstance" := by rfl) (hg : Gl X x := by rfl) (hd : (x == ("__debug__" : Str)) = false := by decide)
    (hs1 : starEach (a :: [.Name x p1]) X.env = (false, eval a X.env) :: starEach [.Name x p1] X.env := by exact star_c rfl) (hpl : (backTo pos (starEach [.Name x p1] X.env)).any (·.1) = false := by exact star_any rfl) :
    JE X W B (.Call (.Name "isinstance" p) [a, .Name x p1] [] pos) (fIsC tab fa) :=
  JE.mk (pe_callB call_isi hgi hm (by decide +kernel) (pa_cons pe_W (pa_cons (pe_glob (v := .ref D) hg hmx rfl hd) pa_nil) hs1) (by decide) (by decide) hs1 hpl) fun bs σ H ρ S Hf Q r h => by
    show tW X a σ H fun x H1 => _
    refine ha.bind r h back_e fun e1 S1 v H1 Hf1 r1 n1 z1 h1 => ?_
    split at h1
    · rename_i C fs
      split at h1
      · rename_i bb q
        obtain ⟨ic, kb⟩ := T.o C bb q
        refine ⟨v, .ref D, .ref C, .ref D, bb, rfl, .own D, ?_, kb, EPost.now r1 h1 (Rep.bl _)⟩
        rw [hK] at ic ⊢
        exact ty_obj r1 ic z1.v_ok
      · exact h1.elim
    · split at h1
      · rename_i t q
        refine ⟨v, .ref D, .type t, .ref D, false, rfl, .own D, ?_, T.n t (tyE_mem q), EPost.now r1 h1 (Rep.bl _)⟩
        rw [hK]; exact tyE_ok r1 z1 q
      · exact h1.elim
end

/-! ### == of objects with an own __eq__ -/
end Dn
namespace PySem.W
open PySem PySem.Spec PySem.Calls PyProof.Rows
section
variable {prog : Program} {w : World} {A : Around} {E : Value → Shared → Prop} {s : Shared} {K : Frag} {x y C D f L : Addr} {h₀ : Heap} {m : Str → Option Value} {ox oy : Obj} {od od2 : Option Obj}
/-- the right one's class stands under the left one's: it is asked first -/
theorem cmp_KR {op : CmpOp} {Q : Value → Shared → Prop} (hu : A.units < cLine) (X : K.In s.heap) (I : InstAt s.heap x ox C od) (J : InstAt s.heap y oy D od2) (hne : D ≠ C) (hsub : subIn K (.ref D) (.ref C) = some true)
    (hs : findIn K (.ref D) (cmpInfo op).2.2 = some (some (.ref f))) (hf : isFn K (.ref f) = true)
    (h : wpAny (model prog w) A (call (.ref f) [.ref y, .ref x]) (CmpBack Q) E s) : wpAny (model prog w) A (richCompare op (.ref x) (.ref y)) Q E s := by
  have one : wpAny (model prog w) A (tryCompare (.ref y) (cmpInfo op).2.2 (.ref x)) (fun r s' => ∃ v, r = some v ∧ Q v s') E s := by
    unfold tryCompare
    refine wpAny_bind (ifBound_K X J hs hf (wpAny_mono h (fun v s' hv => ?_) fun _ _ e => e))
    cases v <;> first | exact hv.elim | exact wpAny_pure ⟨_, rfl, hv⟩
  unfold richCompare
  simp only [oneThing_ref]
  refine wpAny_holding (wpAny_bind (wpAny_cRoomFor hu ?_))
  refine wpAny_bind (I.type.here (wpAny_bind (J.type.here ?_)))
  rw [if_pos (by simpa using fun e => hne e.symm)]
  refine wpAny_bind ((looks_subIn X hsub).here ?_)
  simp only [if_true]
  refine wpAny_bind (wpAny_mono one (fun r s' z => ?_) fun _ _ e => e)
  obtain ⟨v, rfl, hq⟩ := z
  exact wpAny_bind (wpAny_rule (wpAny_pure hq))
end
end PySem.W
namespace Dn
open PySem PySem.Spec PyProof.Rows L2
def drEq (a b : Dr) : Bool := decide (a.cells = b.cells) && decide (a.turn = b.turn) && decide (a.rests = b.rests)
theorem drEq_ok {a b : Dr} : drEq a b = true ↔ a = b := by
  cases a
  cases b
  simp [drEq, and_assoc]
/-- an operator whose meaning is a test, perhaps by a def of the text -/
def OpX (B : Bs) (r : R2) (g : E → E → Dr → Option (Bool × Dr)) : Prop :=
  ∀ (bs : Hp × Hp) (σ : L2.St) (H : Hp) (ρ : Env) (S : Dr) (Hf Hs1 Hs2 : Hp) (x y : V) (e1 e2 : E) (b : Bool) (S' : Dr) (Q : VK), R B bs Hf ρ S σ H → ER B Hs1 Hf H x e1 → ER B Hs2 Hf H y e2 → g e1 e2 S = some (b, S') → VP B S' Hf H (.v (.bl b)) Q → r x y H Q
def outX : Option (Bool × Dr) → Out E
  | some (b, S) => .ok (.v (.bl b)) S
  | none => .stk
def fOpX (g : E → E → Dr → Option (Bool × Dr)) (fa fb : Env → Dr → Out E) : Env → Dr → Out E := fun ρ S => (fa ρ S).bind fun x S1 => (fb ρ S1).bind fun y S2 => outX (g x y S2)
section
variable {X : Cx} {W : WX} {B : Bs} {bs : Hp × Hp} {Hs Hf H : Hp} {ρ : Env} {S : Dr} {σ : L2.St} {a b : Expr} {fa fb : Env → Dr → Out E} {pos : Pos} {r : R2} {g : E → E → Dr → Option (Bool × Dr)}
theorem je_cmpX {op : CmpOp} (ho : OpR X (compareOp op) r) (hj : OpX B r g) (ha : JE X W B a fa) (hb : JE X W B b fb) (hm : behindInMarks op b = false := by first | exact nomark _ | rfl | (with_unfolding_all rfl)) : JE X W B (.Compare a [op] [b] pos) (fOpX g fa fb) :=
  JE.mk (pe_cmpR ho pe_W pe_W hm) fun bs σ H ρ S Hf Q R0 h => by
    show tW X a σ H (fun x H1 => tW X b σ H1 (fun y H2 => r x y H2 Q))
    refine ha.bind R0 h back_e fun e1 S1 v H1 Hf1 r1 n1 z1 h1 => ?_
    refine hb.bind r1 h1 back_e fun e2 S2 v2 H2 Hf2 r2 n2 z2 h2 => ?_
    cases q : g e1 e2 S2 with
    | none => rw [q] at h2; exact h2.elim
    | some e =>
      rw [q] at h2
      exact hj _ _ _ _ _ _ _ _ _ _ _ _ e.1 e.2 _ r2 (z1.next r1 n2) z2 q fun v Hf' H' n d z => h2 v Hf' H' n d z
theorem jt_cmpX {op : CmpOp} (ho : OpR X (compareOp op) r) (hj : OpX B r g) (ha : JE X W B a fa) (hb : JE X W B b fb) (hm : behindInMarks op b = false := by first | exact nomark _ | rfl | (with_unfolding_all rfl)) : JT X W B (.Compare a [op] [b] pos) (fTst (fOpX g fa fb)) :=
  JT.mk (pt_cmpR ho pe_W pe_W hm) fun bs σ H ρ S Hf Q R0 h => by
    show tW X a σ H (fun x H1 => tW X b σ H1 (fun y H2 => r x y H2 (fun x H' => ∃ k, x = .bl k ∧ Q k H')))
    refine ha.bind (k := fun x S1 => ((fb ρ S1).bind fun y S2 => outX (g x y S2)).bind fun e S1 => Out.of e.bl? S1) (Q := Q) R0 (by
      unfold fTst fOpX at h
      cases q : fa ρ S with
      | ok e1 S1 => rw [q] at h; exact h
      | exc C fs S1 => rw [q] at h; exact h
      | stk => rw [q] at h; exact h) back_t fun e1 S1 v H1 Hf1 r1 n1 z1 h1 => ?_
    refine hb.bind (k := fun y S2 => (outX (g e1 y S2)).bind fun e S1 => Out.of e.bl? S1) (Q := Q) r1 (by
      cases q : fb ρ S1 with
      | ok e2 S2 => rw [q] at h1; exact h1
      | exc C fs S2 => rw [q] at h1; exact h1
      | stk => rw [q] at h1; exact h1) back_t fun e2 S2 v2 H2 Hf2 r2 n2 z2 h2 => ?_
    cases q : g e1 e2 S2 with
    | none => rw [q] at h2; exact h2.elim
    | some e =>
      rw [q] at h2
      refine hj _ _ _ _ _ _ _ _ _ _ _ _ e.1 e.2 _ r2 (z1.next r1 n2) z2 q fun v Hf' H' n d z => ?_
      have h3 : EPost B W Hf2 σ H2 trel (.ok e.1 e.2) Q := h2
      exact ⟨e.1, z.bl rfl, h3 e.1 Hf' H' n d rfl⟩
end
def outB : Out E → Option (Bool × Dr)
  | .ok (.v (.bl b)) S => some (b, S)
  | _ => none
theorem outB_some {o : Out E} {b : Bool} {S : Dr} (h : outB o = some (b, S)) : o = .ok (.v (.bl b)) S := by
  unfold outB at h
  split at h
  · cases h; rfl
  · cases h
/-- both orders give the same -/
def both (o o' : Out E) : Option (Bool × Dr) := match outB o, outB o' with
  | some (b, S), some (b', S') => if b = b' ∧ drEq S S' = true then some (b, S) else none
  | _, _ => none
theorem both_ok {b : Bool} {S : Dr} : both (.ok (.v (.bl b)) S) (.ok (.v (.bl b)) S) = some (b, S) := by
  show (if b = b ∧ drEq S S = true then some (b, S) else none) = _
  rw [if_pos ⟨rfl, drEq_ok.mpr rfl⟩]
theorem both_some {o o' : Out E} {b : Bool} {S : Dr} (h : both o o' = some (b, S)) : o = .ok (.v (.bl b)) S ∧ o' = .ok (.v (.bl b)) S := by
  unfold both at h
  split at h
  · rename_i b1 S1 b2 S2 q1 q2
    split at h
    · rename_i c
      cases h
      obtain ⟨c1, c2⟩ := c
      rw [drEq_ok] at c2
      subst c1 c2
      exact ⟨outB_some q1, outB_some q2⟩
    · cases h
  · cases h
def gEqO (tab : MTab) : E → E → Dr → Option (Bool × Dr) := fun x y S => match x with
  | .v (.obj C fs) => match tab C with
    | some F => match y with
      | .v (.obj D gs) => match tab D with
        | some G => both (F [.v (.obj C fs), .v (.obj D gs)] S) (G [.v (.obj D gs), .v (.obj C fs)] S)
        | none => none
      | .v d => match tyE (.v d) with
        | some _ => outB (F [.v (.obj C fs), .v d] S)
        | none => none
      | _ => none
    | none => none
  | _ => none
/-- the class C, as == asks it -/
structure EqC (X : Cx) (B : Bs) (C : Addr) (F : List O → Dr → Out E) : Prop where
  ic : InsC X.K C
  nb : NoBlt X.K C
  ex : ∃ (k : Nat) (f : Addr) (fd : FuncData) (ps : List Str), Meth X.K C "__eq__" f ∧ FnOk X.prog X.w X.K X.mg X.base (L2.CX X.prog X.w) k f fd ps (spF B 2 F) ∧ Room k X.A ∧ Binds X.K fd ps []
def noE : XK := fun _ _ _ => False
def ansB (Q : VK) : VK := fun v H => (∃ b, v = .bl b) ∧ Q v H
def rOwn (X : Cx) (B : Bs) : R2 := fun x y H Q =>
  (∃ a C dx fs F tb, x = .ref a ∧ H a = some (.ins C dx fs) ∧ EqC X B C F ∧ TyX X.K H y tb ∧ PySem.W.notFirst X.K C tb = true ∧ spF B 2 F [x, y] H (ansB Q) noE) ∨
  (∃ a C dx fs b D dy gs F, x = .ref a ∧ H a = some (.ins C dx fs) ∧ y = .ref b ∧ H b = some (.ins D dy gs) ∧ D ≠ C ∧ PySem.W.subIn X.K (.ref D) (.ref C) = some true ∧ EqC X B D F ∧ spF B 2 F [y, x] H (ansB Q) noE)
section
variable {X : Cx} {B : Bs}
theorem own_call {F : List O → Dr → Out E} {k : Nat} {f : Addr} {fd : FuncData} {ps : List Str} (G : FnOk X.prog X.w X.K X.mg X.base (L2.CX X.prog X.w) k f fd ps (spF B 2 F)) (hr : Room k X.A) (hb : Binds X.K fd ps []) {pins : List (Addr × Obj)} {s : Shared} {σ : L2.St} {H : Hp} {x y : V} {u v : Value} {Q : VK}
    (I : Inv X pins σ H s) (rx : RelV x u) (ry : RelV y v) (h : spF B 2 F [x, y] H (ansB Q) noE) : wpAny (model X.prog X.w) X.A (call (.ref f) [u, v]) (PySem.W.CmpBack (EP X pins σ Q)) X.xe s := by
  have hl := G.len _ _ _ _ h
  have e0 : Env0 X.prog X.w X.K X.mg X.base X.A X.stack s H := I.env0
  refine wpAny_call (codeAny_mono (G.run X.A X.stack s H ⟨[u, v], []⟩ [u, v] [x, y] _ noE hr e0 (by
    have := hb s [u, v] I.kIn (by simpa using hl)
    simpa using this) (.cons rx (.cons ry .nil)) h) fun r s' hq => ?_)
  cases r with
  | error e => exact passes_call (W := fun _ _ _ _ => False) (takes0 (X := X)) (fun _ _ _ _ z => z) pins σ H s e s' I hq
  | ok fl =>
    cases fl with
    | ret w =>
      obtain ⟨z, H', I', rz, ⟨b, ez⟩, q⟩ := I.after hq
      subst ez
      obtain rfl : w = Value.bool b := rz
      exact ⟨.bl b, H', I', rfl, q⟩
    | next => exact False.elim hq
    | brk => exact False.elim hq
    | cont => exact False.elim hq
theorem ins_at {pins : List (Addr × Obj)} {s : Shared} {σ : L2.St} {H : Hp} {a C dx : Addr} {fs : List (Str × V)} (I : Inv X pins σ H s) (ha : H a = some (.ins C dx fs)) : ∃ (o : Obj) (od : Option Obj), PySem.W.InstAt s.heap a o C od := by
  obtain ⟨mA, J, _⟩ := ins_get I.hok ha
  obtain ⟨od, J, _⟩ := J.look
  exact ⟨_, _, J⟩
theorem op_own (hu : X.A.units < cLine) : OpR X (compareOp .Eq) (rOwn X B) := by
  intro pins s σ H x y v u Q I rx ry h
  show wpAny (model X.prog X.w) X.A (richCompare .Eq v u) (EP X pins σ Q) X.xe s
  obtain ⟨m, hF⟩ := I.fr
  rcases h with ⟨a, C, dx, fs, F, tb, rfl, ha, e, ty, nf, h⟩ | ⟨a, C, dx, fs, b, D, dy, gs, F, rfl, ha, rfl, hb, ne, sb, e, h⟩
  · obtain ⟨k, f, fd, ps, M, G, hr, hb⟩ := e.ex
    obtain ⟨o, od, J⟩ := ins_at I ha
    obtain ⟨P, Z, hP, _⟩ := kit_of I ry ty
    obtain rfl : v = Value.ref a := rx
    exact PySem.W.cmp_K (op := .Eq) (tb := tb) hu hF I.ok.mod.kin J (Z.ty _ _ I.kIn hP) nf M.at_ M.fn (own_call (x := .ref a) G hr hb I rfl ry h)
  · obtain ⟨k, f, fd, ps, M, G, hr, hb'⟩ := e.ex
    obtain ⟨o, od, J⟩ := ins_at I ha
    obtain ⟨o', od', J'⟩ := ins_at I hb
    obtain rfl : v = Value.ref a := rx
    obtain rfl : u = Value.ref b := ry
    exact PySem.W.cmp_KR (op := .Eq) hu I.kIn J J' ne sb M.at_ M.fn (own_call (x := .ref b) (y := .ref a) G hr hb' I rfl rfl h)
theorem oj_own {tab : MTab} (T : ∀ C F, tab C = some F → EqC X B C F) (hK : X.K = B.K) (T2 : ∀ C D F G, tab C = some F → tab D = some G → C = D ∨ ∃ b, PySem.W.subIn X.K (.ref D) (.ref C) = some b) : OpX B (rOwn X B) (gEqO tab) := fun bs σ H ρ S Hf Hs1 Hs2 x y e1 e2 b S' Q r h1 h2 q k => by
  unfold gEqO at q
  split at q
  · rename_i C fs
    split at q
    · rename_i F hF
      obtain ⟨a, dx, fv, rfl, ha, _⟩ := rep_obj r.ex h1.v_ok
      have fin : ∀ {x y : V} {d1 d2 : D} {F : List O → Dr → Out E}, ArR B Hf H x (.v d1) → ArR B Hf H y (.v d2) → F [.v d1, .v d2] S = .ok (.v (.bl b)) S' → spF B 2 F [x, y] H (ansB Q) noE := fun a1 a2 e => by
        refine ⟨rfl, [.v _, .v _], S, Hf, r.ex, r.nd, r.drw, .cons a1 (.cons a2 .nil), ?_⟩
        rw [e]
        exact fun v Hf' H' n d z => ⟨⟨b, z.bl rfl⟩, k v Hf' H' n d z⟩
      have a1 : ArR B Hf H (.ref a) (.v (.obj C fs)) := h1.v_ok
      split at q
      · rename_i D gs
        split at q
        · rename_i G hG
          obtain ⟨q1, q2⟩ := both_some q
          obtain ⟨b', dy, gv, rfl, hb, _⟩ := rep_obj r.ex h2.v_ok
          have a2 : ArR B Hf H (.ref b') (.v (.obj D gs)) := h2.v_ok
          have ty : TyX X.K H (.ref b') (.ref D) := by
            have ic := (T D G hG).ic
            rw [hK] at ic ⊢
            exact ty_obj r ic h2.v_ok
          by_cases e : C = D
          · subst e
            exact .inl ⟨a, C, dx, fv, F, _, rfl, ha, T C F hF, ty, by simp [PySem.W.notFirst], fin a1 a2 q1⟩
          · rcases T2 C D F G hF hG with e' | ⟨sb, hs⟩
            · exact (e e').elim
            · cases sb with
              | false => exact .inl ⟨a, C, dx, fv, F, _, rfl, ha, T C F hF, ty, by simp [PySem.W.notFirst, hs], fin a1 a2 q1⟩
              | true => exact .inr ⟨a, C, dx, fv, b', D, dy, gv, G, rfl, ha, rfl, hb, fun z => e z.symm, hs, T D G hG, fin a2 a1 q2⟩
        · cases q
      · rename_i d hd
        split at q
        · rename_i t ht
          have ty : TyX X.K H y (.type t) := by rw [hK]; exact tyE_ok r h2 ht
          exact .inl ⟨a, C, dx, fv, F, _, rfl, ha, T C F hF, ty, by simp [PySem.W.notFirst, (T C F hF).nb t (tyE_mem ht)], fin a1 (show ArR B Hf H y (.v d) from h2.v_ok) (outB_some q)⟩
        · cases q
      · cases q
    · cases q
  · cases q
end
section
variable {X : Cx} {W : WX} {B : Bs} {a b : Expr} {fa fb : Env → Dr → Out E} {pos : Pos} {tab : MTab}
theorem je_eqO (hu : X.A.units < cLine) (T : ∀ C F, tab C = some F → EqC X B C F) (hK : X.K = B.K) (T2 : ∀ C D F G, tab C = some F → tab D = some G → C = D ∨ ∃ b, PySem.W.subIn X.K (.ref D) (.ref C) = some b) (ha : JE X W B a fa) (hb : JE X W B b fb) : JE X W B (.Compare a [.Eq] [b] pos) (fOpX (gEqO tab) fa fb) := je_cmpX (op_own hu) (oj_own T hK T2) ha hb
theorem jt_eqO (hu : X.A.units < cLine) (T : ∀ C F, tab C = some F → EqC X B C F) (hK : X.K = B.K) (T2 : ∀ C D F G, tab C = some F → tab D = some G → C = D ∨ ∃ b, PySem.W.subIn X.K (.ref D) (.ref C) = some b) (ha : JE X W B a fa) (hb : JE X W B b fb) : JT X W B (.Compare a [.Eq] [b] pos) (fTst (fOpX (gEqO tab) fa fb)) := jt_cmpX (op_own hu) (oj_own T hK T2) ha hb
end
/-- which of two classes stands under the other is known -/
def SubAll (K : PySem.W.Frag) (Cs : List Addr) : Prop := AllP (fun C => AllP (fun D => C = D ∨ ∃ b, PySem.W.subIn K (.ref D) (.ref C) = some b) Cs) Cs
theorem sub_of {K : PySem.W.Frag} {Cs : List Addr} {G : List O → Dr → Out E} (h : SubAll K Cs) : ∀ (C D : Addr) (F1 F2 : List O → Dr → Out E), tabS Cs G C = some F1 → tabS Cs G D = some F2 → C = D ∨ ∃ b, PySem.W.subIn K (.ref D) (.ref C) = some b := fun C D F1 F2 h1 h2 => by
  have i1 : isL Cs C = true := by
    unfold tabS at h1
    split at h1
    · assumption
    · cases h1
  have i2 : isL Cs D = true := by
    unfold tabS at h2
    split at h2
    · assumption
    · cases h2
  exact isL_ok (isL_ok h C i1) D i2
end Dn

set_option Elab.async false
set_option linter.all false
set_option maxRecDepth 100000
set_option maxHeartbeats 4000000
namespace Dn
open PySem PySem.Spec PyProof.Rows L2

/-! ### a comprehension over a dict that a local holds: the dict is locked meanwhile -/
structure RdX (H H' : Hp) : Prop where
  dk : ∀ a vs, Rd H a (.dK vs) → Rd H' a (.dK vs)
  tp : ∀ a xs, Rd H a (.tup xs) → Rd H' a (.tup xs)
  ls : ∀ a xs, H a = some (.lst xs) → H' a = some (.lst xs)
  lr : ∀ a xs, Rd H a (.lst xs) → Rd H' a (.lst xs)
  is : ∀ a C dx fs, H a = some (.ins C dx fs) → H' a = some (.ins C dx fs)
  xt : ∀ a φ, H a = some (.ext φ) → H' a = some (.ext φ)
section
variable {K : PySem.W.Frag} {dr : Addr} {H H' : Hp}
mutual
theorem Rep.mono2 (e : RdX H H') : ∀ {v : V} {d : Dn.D}, Rep K dr H v d → Rep K dr H' v d
  | _, _, .non => .non
  | _, _, .bl b => .bl b
  | _, _, .int i => .int i
  | _, _, .str x => .str x
  | _, _, .tup h l => .tup (h.imp (e.tp _ _) id) (l.mono2 e)
  | _, _, .lst h l => .lst (e.ls _ _ h) (l.mono2 e)
  | _, _, .dct h l => .dct (e.dk _ _ h) (l.mono2 e)
  | _, _, .obj h l => .obj (e.is _ _ _ _ h) (l.mono2 e)
  | _, _, .exn h h2 l => .exn (e.xt _ _ h) (e.xt _ _ h2) (l.mono2 e)
  | _, _, .ex0 h => .ex0 (e.xt _ _ h)
  | _, _, .ref a => .ref a
  | _, _, .ty n => .ty n
  | _, _, .drw => .drw
  | _, _, .scr h => .scr (h.imp (e.lr _ _) id)
theorem RepL.mono2 (e : RdX H H') : ∀ {vs : List V} {ds : List Dn.D}, RepL K dr H vs ds → RepL K dr H' vs ds
  | _, _, .nil => .nil
  | _, _, .cons h l => .cons (h.mono2 e) (l.mono2 e)
theorem RepK.mono2 (e : RdX H H') : ∀ {vs : List (Key × V)} {ds : List (Key × Dn.D)}, RepK K dr H vs ds → RepK K dr H' vs ds
  | _, _, .nil => .nil
  | _, _, .cons h l => .cons (h.mono2 e) (l.mono2 e)
theorem RepF.mono2 (e : RdX H H') : ∀ {vs : List (Str × V)} {ds : List (Str × Dn.D)}, RepF K dr H vs ds → RepF K dr H' vs ds
  | _, _, .nil => .nil
  | _, _, .cons h l => .cons (h.mono2 e) (l.mono2 e)
end
end
def lk (d : Addr) (od : Obj) (H : Hp) : Hp := fun a => if a = d then (match H a with
  | some (.dK vs) => some (.frz od (.dK vs))
  | o => o) else H a
section
variable {d a : Addr} {od : Obj} {H H' : Hp}
theorem lk_ne (h : a ≠ d) : lk d od H a = H a := if_neg h
theorem lk_dk {vs : List (Key × V)} (h : H d = some (.dK vs)) : lk d od H d = some (.frz od (.dK vs)) := by
  unfold lk
  rw [if_pos rfl, h]
theorem lk_at {o : HO} (h : H a = some o) (hn : ∀ vs, o ≠ .dK vs) : lk d od H a = some o := by
  unfold lk
  split
  · rw [h]
    split
    · rename_i q
      cases q
      exact (hn _ rfl).elim
    · rfl
  · exact h
theorem lk_lst {xs : List V} (h : H a = some (.lst xs)) : lk d od H a = some (.lst xs) := lk_at h fun _ z => by cases z
theorem lk_ins {C dx : Addr} {fs : List (Str × V)} (h : H a = some (.ins C dx fs)) : lk d od H a = some (.ins C dx fs) := lk_at h fun _ z => by cases z
theorem lk_xd {fv : List (Str × V)} (h : H a = some (.xd fv)) : lk d od H a = some (.xd fv) := lk_at h fun _ z => by cases z
theorem lk_eq (h : H' a = H a) : lk d od H' a = lk d od H a := by
  unfold lk
  rw [h]
theorem lk_nn : lk d od H a = none ↔ H a = none := by
  unfold lk
  split
  · split
    · rename_i q
      rw [q]
      constructor <;> intro z <;> cases z
    · exact Iff.rfl
  · exact Iff.rfl
theorem lk_some {o : HO} (h : lk d od H a = some o) : ∃ u, H a = some u := by
  cases e : H a with
  | none => rw [lk_nn.mpr e] at h; cases h
  | some u => exact ⟨u, rfl⟩
theorem lk_ex (e : Ex H H') : Ex (lk d od H) (lk d od H') := fun a o h => by
  obtain ⟨u, hu⟩ := lk_some h
  rw [lk_eq (H := H) (by rw [hu]; exact e a u hu)]
  exact h
theorem lk_rdx : RdX H (lk d od H) where
  dk := fun a vs h => by
    rcases h with h | ⟨o, h⟩
    · by_cases e : a = d
      · subst e; exact .inr ⟨od, lk_dk h⟩
      · exact .inl (by rw [lk_ne e]; exact h)
    · exact .inr ⟨o, lk_at h fun _ z => by cases z⟩
  tp := fun a xs h => h.imp (fun h => lk_at h fun _ z => by cases z) fun ⟨o, h⟩ => ⟨o, lk_at h fun _ z => by cases z⟩
  ls := fun a xs h => lk_at h fun _ z => by cases z
  lr := fun a xs h => h.imp (fun h => lk_at h fun _ z => by cases z) fun ⟨o, h⟩ => ⟨o, lk_at h fun _ z => by cases z⟩
  is := fun a C dx fs h => lk_at h fun _ z => by cases z
  xt := fun a φ h => lk_at h fun _ z => by cases z
theorem lk_upd {vs : List (Key × V)} (h : H d = some (.dK vs)) : lk d od H = upd H d (.frz od (.dK vs)) := by
  funext a
  by_cases e : a = d
  · subst e; rw [lk_dk h, upd_same]
  · rw [lk_ne e, upd_ne e]
theorem unlk_rdx {vs : List (Key × V)} (h : H d = some (.frz od (.dK vs))) : RdX H (upd H d (.dK vs)) where
  dk := fun a vs' q => by
    by_cases e : a = d
    · subst e
      rcases q with q | ⟨o, q⟩
      · rw [h] at q; cases q
      · rw [h] at q; cases q; exact .inl upd_same
    · exact q.imp (fun q => by rw [upd_ne e]; exact q) fun ⟨o, q⟩ => ⟨o, by rw [upd_ne e]; exact q⟩
  tp := fun a xs q => by
    have e : a ≠ d := fun e => by
      subst e
      rcases q with q | ⟨o, q⟩ <;> rw [h] at q <;> cases q
    exact q.imp (fun q => by rw [upd_ne e]; exact q) fun ⟨o, q⟩ => ⟨o, by rw [upd_ne e]; exact q⟩
  ls := fun a xs q => by rw [upd_ne (fun e => by subst e; rw [h] at q; cases q)]; exact q
  lr := fun a xs q => by
    have e : a ≠ d := fun e => by
      subst e
      rcases q with q | ⟨o, q⟩ <;> rw [h] at q <;> cases q
    exact q.imp (fun q => by rw [upd_ne e]; exact q) fun ⟨o, q⟩ => ⟨o, by rw [upd_ne e]; exact q⟩
  is := fun a C dx fs q => by rw [upd_ne (fun e => by subst e; rw [h] at q; cases q)]; exact q
  xt := fun a φ q => by rw [upd_ne (fun e => by subst e; rw [h] at q; cases q)]; exact q
end
section
variable {X : Cx} {W : WX} {B : Bs} {bs : Hp × Hp} {Hs Hf H : Hp} {ρ : Env} {S : Dr} {σ : L2.St} {d : Addr} {od : Obj} {kvs : List (Key × Dn.D)} {vs : List (Key × V)}
theorem R.lk (r : R B bs Hf ρ S σ H) (hf : Hf d = some (.dK vs)) : R B (lk d od bs.1, lk d od bs.2) (lk d od Hf) ρ S σ (lk d od H) where
  ex := lk_ex r.ex
  exb := lk_ex r.exb
  fr := fun a o h => by
    obtain ⟨u, hu⟩ := lk_some h
    rcases r.fr a u hu with q | q
    · left
      show Dn.lk d od bs.1 a = some o
      rw [lk_eq (H := Hf) (by rw [hu]; exact q)]
      exact h
    · exact .inr (lk_nn.mpr q)
  nd := ⟨lk_nn.mpr r.nd.1, lk_nn.mpr r.nd.2⟩
  go := fun a o h n1 n2 => by
    obtain ⟨u, hu⟩ := lk_some h
    rw [lk_eq (H := bs.2) (by rw [hu]; exact r.go a u hu n1 n2)]
    exact h
  h0 := by
    obtain ⟨⟨o1, h1⟩, o2, h2⟩ := r.h0
    have f : ∀ {a o}, bs.2 a = some o → ∃ o', Dn.lk d od bs.2 a = some o' := fun {a o} h => by
      cases e : Dn.lk d od bs.2 a with
      | none => rw [lk_nn.mp e] at h; cases h
      | some o' => exact ⟨o', rfl⟩
    exact ⟨f h1, f h2⟩
  drw := ⟨lk_lst r.drw.dr, lk_lst r.drw.cl, lk_lst r.drw.rs, r.drw.ne⟩
  len := r.len
  sl := fun i o h => by
    obtain ⟨v, e, s⟩ := r.sl i o h
    refine ⟨v, e, ?_⟩
    have x : RdX Hf (Dn.lk d od Hf) := lk_rdx
    cases o with
    | v d' => exact Rep.mono2 x s
    | l ds => obtain ⟨a, vs, rfl, h1, h2, h3, h4⟩ := s; exact ⟨a, vs, rfl, lk_lst h1, h2.mono2 x, lk_nn.mpr h3, lk_nn.mpr h4⟩
    | d ds =>
      obtain ⟨a, vs', rfl, h1, h2, h3, h4⟩ := s
      exact ⟨a, vs', rfl, by rw [lk_ne (fun e => by rw [e, hf] at h3; cases h3)]; exact h1, h2.mono2 x, lk_nn.mpr h3, lk_nn.mpr h4⟩
    | lt ds => obtain ⟨a, vs, rfl, h1, h2, h3, h4⟩ := s; exact ⟨a, vs, rfl, lk_lst h1, h2, h3, h4.mono2 x⟩
    | ld ds => obtain ⟨a, vs, rfl, h1, h2, h3, h4⟩ := s; exact ⟨a, vs, rfl, lk_rdx.dk _ _ h1, h2, h3, h4.mono2 x⟩
    | x C fs => obtain ⟨h1, h2, h3, h4, fv, h5, h6⟩ := s; exact ⟨h1, h2, h3, h4, fv, lk_xd h5, h6.mono2 x⟩
    | ob C fs => obtain ⟨rfl, dx, vs, h1, h2, h3, h4⟩ := s; exact ⟨rfl, dx, vs, lk_ins h1, h2.mono2 x, lk_nn.mpr h3, lk_nn.mpr h4⟩
  inj := r.inj
theorem EPost.lk {o : Out E} {Q : VK} (r : R B bs Hf ρ S σ H) (hf : Hf d = some (.dK vs)) (ho : ∀ C fs S1, o ≠ .exc C fs S1) (h : EPost B W Hf σ H (erel B) o Q) :
    EPost B W (lk d od Hf) σ (lk d od H) (erel B) o (fun v H1 => H1 d = some (.frz od (.dK vs)) ∧ Q v (upd H1 d (.dK vs))) := by
  cases o with
  | stk => exact h
  | exc C fs S1 => exact (ho C fs S1 rfl).elim
  | ok e S' =>
    intro v Hf1 H1 n dr z
    have f1 : Hf1 d = some (.frz od (.dK vs)) := n.ex _ _ (lk_dk hf)
    have g1 : H1 d = some (.frz od (.dK vs)) := n.exf _ _ f1
    have hd : H d = some (.dK vs) := r.ex _ _ hf
    have nd : d ≠ B.dr ∧ d ≠ B.rs := ⟨fun e => absurd r.nd.1 (by rw [← e, hf]; intro z; cases z), fun e => absurd r.nd.2 (by rw [← e, hf]; intro z; cases z)⟩
    have xf := unlk_rdx f1
    have xh := unlk_rdx g1
    refine ⟨g1, h v (upd Hf1 d (.dK vs)) (upd H1 d (.dK vs)) ⟨fun a o q => ?_, fun a o q => ?_, fun a o q => ?_, fun a o q n1 n2 => ?_, ?_, ?_⟩ ⟨?_, ?_, ?_, dr.ne⟩ ?_⟩
    · by_cases e : a = d
      · subst e; rw [hf] at q; cases q; exact upd_same
      · rw [upd_ne e]; exact n.ex a o (by rw [lk_ne e]; exact q)
    · by_cases e : a = d
      · subst e; rw [upd_same] at q ⊢; exact q
      · rw [upd_ne e] at q ⊢; exact n.exf a o q
    · by_cases e : a = d
      · subst e; rw [upd_same] at q; cases q; exact .inl hf
      · rw [upd_ne e] at q
        rcases n.fr a o q with q | q
        · rw [lk_ne e] at q; exact .inl q
        · exact .inr (lk_nn.mp q)
    · by_cases e : a = d
      · subst e; rw [hd] at q; cases q; exact upd_same
      · rw [upd_ne e]; exact n.go a o (by rw [lk_ne e]; exact q) n1 n2
    · rw [upd_ne (Ne.symm nd.1)]; exact n.nd.1
    · rw [upd_ne (Ne.symm nd.2)]; exact n.nd.2
    · rw [upd_ne (Ne.symm nd.1)]; exact dr.dr
    · exact xf.ls _ _ dr.cl
    · rw [upd_ne (Ne.symm nd.2)]; exact dr.rs
    · have nf : ∀ {a}, Hf1 a = none → upd Hf1 d (.dK vs) a = none := fun {a} q => by rw [upd_ne (fun e => by rw [e, f1] at q; cases q)]; exact q
      cases e with
      | v d' => exact Rep.mono2 xf z
      | b ds => obtain ⟨a, ws, rfl, h1, h2, h3, h4⟩ := z; exact ⟨a, ws, rfl, xh.ls _ _ h1, h2, h3, h4.mono2 xf⟩
      | bd ds => obtain ⟨a, ws, rfl, h1, h2, h3, h4⟩ := z; exact ⟨a, ws, rfl, xh.dk _ _ h1, h2, h3, h4.mono2 xf⟩
      | n ds => obtain ⟨a, ws, rfl, h1, h2, h3, h4, h5, h6⟩ := z; exact ⟨a, ws, rfl, xh.ls _ _ h1, h2, h3, h4.mono2 xf, nf h5, lk_nn.mp h6⟩
      | nd ds =>
        obtain ⟨a, ws, rfl, h1, h2, h3, h4, h5, h6⟩ := z
        exact ⟨a, ws, rfl, by rw [upd_ne (fun e => by rw [e, g1] at h1; cases h1)]; exact h1, h2, h3, h4.mono2 xf, nf h5, lk_nn.mp h6⟩
/-- the keys of the dict that the local holds -/
def fItK (i : Nat) : Env → Dr → Out (List Dn.D) := fun ρ S => match ρ[i]? with
  | some (some (.v (.dct kvs))) => .ok ((kvs.map (·.1)).map keyD) S
  | _ => .stk
theorem repk_get : ∀ {vs : List (Key × V)} {ds : List (Key × Dn.D)} {i : Nat} {k : Key} {v : V}, RepK B.K B.dr Hf vs ds → vs[i]? = some (k, v) → ((ds.map (·.1)).map keyD)[i]? = some (keyD k)
  | _, _, _, _, _, .nil, e => by simp at e
  | _, _, 0, _, _, .cons h _, e => by simp at e; obtain ⟨rfl, _⟩ := e; rfl
  | _, _, i + 1, _, _, .cons _ l, e => by
    have := repk_get (i := i) l (by simpa using e)
    simpa using this
theorem keys_run {i : Nat} {P : It → Hp → Prop} (r : R B bs Hf ρ S σ H) (hi : σ[i]? = some (some (V.ref d))) (hd : Hf d = some (.frz od (.dK vs))) (l : RepK B.K B.dr Hf vs kvs) (hρ : ρ[i]? = some (some (.v (.dct kvs)))) (h : IPost B W bs true ρ σ Hf H (fItK i ρ S) P) : iKeys (tVar i) σ H P := by
  unfold fItK at h
  rw [hρ] at h
  have h : IPost B W bs true ρ σ Hf H (.ok ((kvs.map (·.1)).map keyD) S) P := h
  refine ⟨_, hi, d, od, rfl, .inl ⟨vs, r.ex _ _ hd, h _ H Hf r r.nx0 ⟨fun H => H d = some (.frz od (.dK vs)), fun i H x H' => H' = H ∧ ∃ k v, vs[i]? = some (k, v) ∧ x = kV k, ?_, fun Hf' H' ρ' S' σ' r' e _ => r'.ex _ _ (e _ _ hd), ?_⟩⟩⟩
  · have e : ((kvs.map (·.1)).map keyD).length = vs.length := by simp [l.length]
    rw [e]
    exact walk_keys
  · intro j Hf' H' ρ' S' σ' x H'' hj r' e _ y
    obtain ⟨rfl, k, v, hk, rfl⟩ := y
    exact ⟨keyD k, Hf', repk_get l hk, r'.nx0, r'.drw, rep_key k⟩
variable {scope : Scope} {fe : Env → Dr → Out E} {fc : Env → Dr → Out Bool}
theorem lcK_read {tg elt : Expr} {own : List (Str × Nat)} {i : Nat} {tgt : Dn.D → Env → Option Env} {t : TG} {ix : List Nat} {tt : TT}
    (qt : ∀ (bs : Hp × Hp) (σ : L2.St) (H : Hp) (ρ : Env) (S : Dr) (Hf : Hp) (Q : Bool → Hp → Prop), R B bs Hf ρ S σ H → EPost B W0 Hf σ H trel (fc ρ S) Q → tt σ H Q)
    (hg : ∀ (s : Shared) (H : Hp) (C : Addr) (cl : List (Str × Addr)) (fp : List Addr), JG (X.blk s H scope (compEnvC scope cl C X.env) fp) B tg t ix tgt) (he : JEB X scope B elt fe) (hix : ∀ i ∈ ix, i ∈ own.map (·.2))
    {Q : VK} (r : R B bs Hf ρ S σ H) (h : EPost B W Hf σ H (erel B) (fLc (fItK i) tgt fc fe (own.map (·.2)) ρ S) Q) :
    tLc (iKeys (tVar i)) t tt (tWB X scope elt) (own.map (·.2)) σ H Q ∨ ∃ d u, H d = some u ∧ Mut (some u) ∧ ∀ od, tLc (iKeys (tVar i)) t tt (tWB X scope elt) (own.map (·.2)) σ (upd H d (.frz od u)) fun v H' => H' d = some (.frz od u) ∧ Q v (upd H' d u) := by
  have ne : ∀ C fs S1, fLc (fItK i) tgt fc fe (own.map (·.2)) ρ S ≠ .exc C fs S1 := fun C fs S1 e => by
    unfold fLc at e
    cases q : fItK i ρ S with
    | stk => rw [q] at e; cases e
    | exc C' fs' S2 => unfold fItK at q; split at q <;> cases q
    | ok ds S2 =>
      rw [q] at e
      have e : (noExc (lcD tgt fc fe (wipeE ρ (own.map (·.2))) ds S2)).bind (fun xs S2 => if xs.length ≤ sizeLine then Out.ok (E.n xs) S2 else .stk) = .exc C fs S1 := e
      cases q2 : lcD tgt fc fe (wipeE ρ (own.map (·.2))) ds S2 with
      | stk => rw [q2] at e; cases e
      | exc C' fs' S3 => rw [q2] at e; cases e
      | ok xs S3 =>
        rw [q2] at e
        have e : (if xs.length ≤ sizeLine then Out.ok (E.n xs) S3 else .stk) = .exc C fs S1 := e
        split at e <;> cases e
  cases hρ : ρ[i]? with
  | none =>
    unfold fLc fItK at h
    rw [hρ] at h
    exact h.elim
  | some oo =>
    cases oo with
    | none =>
      unfold fLc fItK at h
      rw [hρ] at h
      exact h.elim
    | some o =>
      by_cases hk : ∃ kvs, o = .v (.dct kvs)
      · obtain ⟨kvs, rfl⟩ := hk
        obtain ⟨v, hσ, s⟩ := r.sl i _ hρ
        have s : Rep B.K B.dr Hf v (.dct kvs) := s
        cases s with
        | @dct d vs _ h1 l =>
          rcases h1 with h1 | ⟨od, h1⟩
          · refine .inr ⟨d, .dK vs, r.ex _ _ h1, trivial, fun od => ?_⟩
            rw [← lk_upd (r.ex _ _ h1)]
            have r' := r.lk (od := od) h1
            exact lc_read1 (fun P => keys_run (W := W) r' hσ (lk_dk h1) (l.mono2 lk_rdx) hρ) qt hg he hix r' (h.lk r h1 ne)
          · exact .inl (lc_read1 (fun P => keys_run (W := W) r hσ h1 l hρ) qt hg he hix r h)
      · unfold fLc fItK at h
        rw [hρ] at h
        exfalso
        split at h
        · rename_i q
          cases q
          exact hk ⟨_, rfl⟩
        · exact h
theorem je_lcK (i : Nat) {tg elt : Expr} {ifs : List Expr} {own : List (Str × Nat)} {pos p1 : Pos} {x : Str} {tgt : Dn.D → Env → Option Env} {t : TG} {ix : List Nat} (hc : X.calm = true) (hN : X.N.Nodup) (ok : BlkOk X.N X.env.scope scope own)
    (hg : ∀ (s : Shared) (H : Hp) (C : Addr) (cl : List (Str × Addr)) (fp : List Addr), JG (X.blk s H scope (compEnvC scope cl C X.env) fp) B tg t ix tgt) (ht : JTs X scope B ifs fc) (he : JEB X scope B elt fe) (hix : ∀ i ∈ ix, i ∈ own.map (·.2) := by decide)
    (hx : X.N[i]? = some x := by rfl) (hv : Vis X.env.scope x := by first | exact Or.inl rfl | exact Or.inr (Or.inl rfl) | exact Or.inr (Or.inr rfl)) (hd : (x == ("__debug__" : Str)) = false := by decide) (hcd : (x == ("__classdict__" : Str)) = false := by decide)
    (hs : ∀ z, foldedSetIterable (.Name x p1) X.env z = pure z := by intro _; rfl) : JE X W B (.ListComp elt [⟨tg, .Name x p1, ifs, 0⟩] scope pos) (fLc (fItK i) tgt fc fe (own.map (·.2))) := by
  obtain ⟨tt, pt, qt⟩ := ht
  have pe := pe_lc (te := tWB X scope elt) (pos := pos) hc hN (pi_keys (pe_var (pos := p1) hx hv hd hcd)) ok (fun s H C cl fp => (hg s H C cl fp).1) pt (fun s0 H0 C cl fp => ⟨fun pins s σ H Q I q => q s0 H0 C cl fp pins s I⟩) hs
  refine .of fun bs σ H ρ S Hf Q r h => ?_
  rcases lcK_read qt hg he hix r h with q | q
  · exact tW_of pe q
  · exact tW_of (pe_lock pe) q
theorem js_setLcK (i j : Nat) {y : Str} {py spos : Pos} {tg elt : Expr} {ifs : List Expr} {own : List (Str × Nat)} {pos p1 : Pos} {x : Str} {tgt : Dn.D → Env → Option Env} {t : TG} {ix : List Nat} (fz : Bool) (hc : X.calm = true) (hN : X.N.Nodup) (ok : BlkOk X.N X.env.scope scope own)
    (hg : ∀ (s : Shared) (H : Hp) (C : Addr) (cl : List (Str × Addr)) (fp : List Addr), JG (X.blk s H scope (compEnvC scope cl C X.env) fp) B tg t ix tgt) (ht : JTs X scope B ifs fc) (he : JEB X scope B elt fe) (hix : ∀ i ∈ ix, i ∈ own.map (·.2) := by decide)
    (hx : X.N[j]? = some x := by rfl) (hv : Vis X.env.scope x := by first | exact Or.inl rfl | exact Or.inr (Or.inl rfl) | exact Or.inr (Or.inr rfl)) (hd : (x == ("__debug__" : Str)) = false := by decide) (hcd : (x == ("__classdict__" : Str)) = false := by decide)
    (hy : X.N[i]? = some y := by rfl) (hyl : X.env.scope.names.lookup y = some .local := by rfl) (hsw : swapsWith (.ListComp elt [⟨tg, .Name x p1, ifs, 0⟩] scope pos) (some (.Name y py)) spos.line X.env = pure true := by exact sw_true rfl rfl rfl (by decide +kernel))
    (hs : ∀ z, foldedSetIterable (.Name x p1) X.env z = pure z := by intro _; rfl) : JS X W B (.Assign [.Name y py] (.ListComp elt [⟨tg, .Name x p1, ifs, 0⟩] scope pos) spos) (if fz then sSetF i (fLc (fItK j) tgt fc fe (own.map (·.2))) else sSet i (fLc (fItK j) tgt fc fe (own.map (·.2)))) := by
  obtain ⟨tt, pt, qt⟩ := ht
  have ps := ps_setLc (te := tWB X scope elt) hc hN hy hyl hsw (pi_keys (pe_var (pos := p1) hx hv hd hcd)) ok (fun s H C cl fp => (hg s H C cl fp).1) pt (fun s0 H0 C cl fp => ⟨fun pins s σ H Q I q => q s0 H0 C cl fp pins s I⟩) hs
  refine .of fun bs σ H ρ S Hf D r h => ?_
  have key : EPost B W Hf σ H (erel B) (fLc (fItK j) tgt fc fe (own.map (·.2)) ρ S) (fun x H1 => gName i x σ H1 D.nx) := by
    cases fz with
    | true =>
      have h : SPost B W bs D (sSetF i (fLc (fItK j) tgt fc fe (own.map (·.2))) ρ S) := h
      unfold sSetF at h
      split at h
      · rename_i hil
        cases q : fLc (fItK j) tgt fc fe (own.map (·.2)) ρ S with
        | stk => rw [q] at h; exact h.elim
        | exc C fs S1 => rw [q] at h; exact fun d Hf1 H1 n dr x => h σ d Hf1 H1 (r.next n dr) x
        | ok e S1 =>
          rw [q] at h
          intro v Hf1 H1 n d z
          have h : SPost B W bs D (match per e with
            | some d => .nx (ρ.set i (some (.v d))) S1
            | none => .stk) := h
          cases qp : per e with
          | none => rw [qp] at h; exact h.elim
          | some d' =>
            rw [qp] at h
            obtain ⟨Hf2, n2, x2, d2, z2⟩ := per_ok (r.next n d) n z qp
            exact h _ Hf2 H1 ((r.next n2 d2).store hil z2 fun w => by cases w)
      · exact h.elim
    | false =>
      have h : SPost B W bs D (sSet i (fLc (fItK j) tgt fc fe (own.map (·.2))) ρ S) := h
      unfold sSet at h
      split at h
      · rename_i hil
        cases q : fLc (fItK j) tgt fc fe (own.map (·.2)) ρ S with
        | stk => rw [q] at h; exact h.elim
        | exc C fs S1 => rw [q] at h; exact fun d Hf1 H1 n dr x => h σ d Hf1 H1 (r.next n dr) x
        | ok e S1 =>
          rw [q] at h
          intro v Hf1 H1 n d z
          have h : SPost B W bs D (match stO e with
            | some o => .nx (ρ.set i (some o)) S1
            | none => .stk) := h
          cases qp : stO e with
          | none => rw [qp] at h; exact h.elim
          | some o =>
            rw [qp] at h
            exact h _ Hf1 H1 (stO_ok r (r.next n d) hil z qp)
      · exact h.elim
  rcases lcK_read qt hg he hix r key with q | q
  · exact tWS_of ps q
  · exact tWS_of (ps_lock ps) q
end
end Dn

set_option Elab.async false
set_option linter.all false
set_option maxRecDepth 100000
set_option maxHeartbeats 4000000
namespace PySem.W
open PySem PySem.Spec PySem.Calls PyProof.Rows
section
variable {prog : Program} {w : World} {A : Around} {E : Value → Shared → Prop} {s : Shared} {K : Frag} {x y C D f L : Addr} {h₀ : Heap} {m : Str → Option Value} {ox oy : Obj} {od od2 : Option Obj} {b tb : Value}
theorem dn_neBound {M : Model} {args : List Value} {Q : Option Value → Shared → Prop} (X : K.In s.heap) (I : InstAt s.heap x ox C od) (hs : findIn K (.ref C) "__ne__" = some (some (.builtin "object.__ne__")))
    (h : wpAny M A (call (.builtin "object.__ne__") (.ref x :: args)) (fun v => Q (some v)) E s) : wpAny M A (callSpecialIfBound? (.ref x) "__ne__" args) Q E s := by
  simp only [callSpecialIfBound?, bindSpecialIfBound?]
  refine wpAny_holding (wpAny_bind (wpAny_bind (wpAny_bind (I.type.here ((looks_findIn X hs).here ?_)))))
  refine wpAny_bind (wpAny_askSetting (wpAny_ite ?_))
  have fin : wpAny M A (call (.builtin "object.__ne__") ([.ref x] ++ args) >>= fun v => pure (some v)) Q E s := wpAny_bind (wpAny_mono h (fun v s' h' => wpAny_pure h') fun _ _ h' => h')
  split
  · exact wpAny_bind (wpAny_of_eq (F.cmp_object.ne.bind _) (wpAny_pure (by exact fin)))
  · exact wpAny_tryCatch (wpAny_bind (wpAny_of_eq (F.cmp_object.ne.bind _) (wpAny_pure (by exact fin))))
theorem dn_neBody {Q : Fin → Shared → Prop} (hu : A.units < cLine) (X : K.In s.heap) (I : InstAt s.heap x ox C od) (hs : findIn K (.ref C) "__eq__" = some (some (.ref f))) (hf : isFn K (.ref f) = true)
    (h : wpAny (model prog w) A (call (.ref f) [.ref x, b]) (fun v s' => ∃ c, v = .bool c ∧ Q (.done (.ret (.bool (!c)))) s') E s) : wpAny (model prog w) A (Builtin.«object.__ne__» ⟨[.ref x, b], []⟩) Q E s := by
  unfold Builtin.«object.__ne__»
  repeat (first
    | with_reducible refine wpAny_cRoomFor hu ?_
    | (refine wpAny_bind (m := callSpecialIfBound? (.ref x) (Str.ofString "__eq__") [b])
        (ifBound_K X I hs hf (wpAny_mono h (fun r s' hr => by
          obtain ⟨c, rfl, hq⟩ := hr
          repeat (first | exact hq | exact wpAny_pure hq | exact wpAny_truthy_bool hq | (refine wpAny_bind (m := truthy (.bool _)) (wpAny_truthy_bool ?_)) | wp_step)) fun _ _ e => e)))
    | wp_step)
theorem dn_neTry {Q : Value → Shared → Prop} (hu : A.units + 1 < cLine) (X : K.In s.heap) (I : InstAt s.heap x ox C od) (hm : mroIn K C (.type "object") = some true) (hne : findIn K (.ref C) "__ne__" = some (some (.builtin "object.__ne__"))) (hs : findIn K (.ref C) "__eq__" = some (some (.ref f))) (hf : isFn K (.ref f) = true)
    (h : wpAny (model prog w) A.in1 (call (.ref f) [.ref x, b]) (fun v s' => ∃ c, v = .bool c ∧ Q (.bool (!c)) s') E s) : wpAny (model prog w) A (tryCompare (.ref x) "__ne__" b) (fun r s' => ∃ v, r = some v ∧ Q v s') E s := by
  unfold tryCompare
  refine wpAny_bind (dn_neBound X I hne (wpAny_call (codeAny_call_builtin F.cmp_object.ne.plain F.cmpEntry_ne (check_slot F.cmpKind_ne F.cmpSplit_ne (I.type.andThen (looks_mroIn X hm)) (F.cmpArgs_ne _ _)
    (dn_neBody (A := A.in1) hu X I hs hf (wpAny_mono h (fun v s' hv => ?_) fun _ _ e => e))))))
  obtain ⟨c, rfl, hq⟩ := hv
  first | exact ⟨c, rfl, wpAny_pure ⟨_, rfl, hq⟩⟩ | exact ⟨c, rfl, wpAny_pure (wpAny_pure ⟨_, rfl, hq⟩)⟩ | exact ⟨c, rfl, _, rfl, hq⟩
theorem dn_neK {Q : Value → Shared → Prop} (hu : A.units + 1 < cLine) (X : K.In s.heap) (I : InstAt s.heap x ox C od) (hb : Looks (model prog w) s.heap (typeOf b) tb) (hn : notFirst K C tb = true) (hm : mroIn K C (.type "object") = some true) (hne : findIn K (.ref C) "__ne__" = some (some (.builtin "object.__ne__"))) (hs : findIn K (.ref C) "__eq__" = some (some (.ref f))) (hf : isFn K (.ref f) = true)
    (h : wpAny (model prog w) A.in1 (call (.ref f) [.ref x, b]) (fun v s' => ∃ c, v = .bool c ∧ Q (.bool (!c)) s') E s) : wpAny (model prog w) A (richCompare .NotEq (.ref x) b) Q E s := by
  have one := dn_neTry (Q := Q) hu X I hm hne hs hf h
  unfold richCompare
  simp only [oneThing_ref]
  refine wpAny_holding (wpAny_bind (wpAny_cRoomFor (Nat.lt_of_succ_lt hu) ?_))
  refine wpAny_bind (I.type.here (wpAny_bind (hb.here ?_)))
  split
  · rename_i q
    have e : subIn K tb (.ref C) = some false := by
      rcases Bool.or_eq_true_iff.mp hn with e | e
      · rw [beq_iff_eq.mp e] at q; simp at q
      · exact beq_iff_eq.mp e
    refine wpAny_bind ((looks_subIn X e).here ?_)
    simp only [Bool.false_eq_true, if_false]
    refine wpAny_bind (wpAny_mono one (fun r s' z => ?_) fun _ _ e => e)
    obtain ⟨v, rfl, hq⟩ := z
    exact wpAny_pure hq
  · refine wpAny_bind (wpAny_pure ?_)
    simp only [Bool.false_eq_true, if_false]
    refine wpAny_bind (wpAny_mono one (fun r s' z => ?_) fun _ _ e => e)
    obtain ⟨v, rfl, hq⟩ := z
    exact wpAny_pure hq
theorem dn_neKR {Q : Value → Shared → Prop} (hu : A.units + 1 < cLine) (X : K.In s.heap) (I : InstAt s.heap x ox C od) (J : InstAt s.heap y oy D od2) (hne' : D ≠ C) (hsub : subIn K (.ref D) (.ref C) = some true) (hm : mroIn K D (.type "object") = some true) (hne : findIn K (.ref D) "__ne__" = some (some (.builtin "object.__ne__"))) (hs : findIn K (.ref D) "__eq__" = some (some (.ref f))) (hf : isFn K (.ref f) = true)
    (h : wpAny (model prog w) A.in1 (call (.ref f) [.ref y, .ref x]) (fun v s' => ∃ c, v = .bool c ∧ Q (.bool (!c)) s') E s) : wpAny (model prog w) A (richCompare .NotEq (.ref x) (.ref y)) Q E s := by
  have one := dn_neTry (Q := Q) hu X J hm hne hs hf h
  unfold richCompare
  simp only [oneThing_ref]
  refine wpAny_holding (wpAny_bind (wpAny_cRoomFor (Nat.lt_of_succ_lt hu) ?_))
  refine wpAny_bind (I.type.here (wpAny_bind (J.type.here ?_)))
  rw [if_pos (by simpa using fun e => hne' e.symm)]
  refine wpAny_bind ((looks_subIn X hsub).here ?_)
  simp only [if_true]
  refine wpAny_bind (wpAny_mono one (fun r s' z => ?_) fun _ _ e => e)
  obtain ⟨v, rfl, hq⟩ := z
  exact wpAny_bind (wpAny_rule (wpAny_pure hq))
end
end PySem.W
namespace Dn
open PySem PySem.Spec PyProof.Rows L2

/-! ### != of objects with an own == -/
structure NeC (X : Cx) (B : Bs) (C : Addr) (F : List O → Dr → Out E) : Prop where
  ic : InsC X.K C
  nb : NoBlt X.K C
  ne : PySem.W.findIn X.K (.ref C) "__ne__" = some (some (.builtin "object.__ne__"))
  ex : ∃ (k : Nat) (f : Addr) (fd : FuncData) (ps : List Str), Meth X.K C "__eq__" f ∧ FnOk X.prog X.w X.K X.mg X.base (L2.CX X.prog X.w) k f fd ps (spF B 2 F) ∧ Room (k + 1) X.A ∧ Binds X.K fd ps []
def ansN (Q : VK) : VK := fun v H => ∃ b, v = .bl b ∧ Q (.bl (!b)) H
def rOwnN (X : Cx) (B : Bs) : R2 := fun x y H Q =>
  (∃ a C dx fs F tb, x = .ref a ∧ H a = some (.ins C dx fs) ∧ NeC X B C F ∧ TyX X.K H y tb ∧ PySem.W.notFirst X.K C tb = true ∧ spF B 2 F [x, y] H (ansN Q) noE) ∨
  (∃ a C dx fs b D dy gs F, x = .ref a ∧ H a = some (.ins C dx fs) ∧ y = .ref b ∧ H b = some (.ins D dy gs) ∧ D ≠ C ∧ PySem.W.subIn X.K (.ref D) (.ref C) = some true ∧ NeC X B D F ∧ spF B 2 F [y, x] H (ansN Q) noE)
section
variable {X : Cx} {B : Bs}
theorem own_callN {F : List O → Dr → Out E} {k : Nat} {f : Addr} {fd : FuncData} {ps : List Str} (G : FnOk X.prog X.w X.K X.mg X.base (L2.CX X.prog X.w) k f fd ps (spF B 2 F)) (hr : Room (k + 1) X.A) (hb : Binds X.K fd ps []) {pins : List (Addr × Obj)} {s : Shared} {σ : L2.St} {H : Hp} {x y : V} {u v : Value} {Q : VK}
    (I : Inv X pins σ H s) (rx : RelV x u) (ry : RelV y v) (h : spF B 2 F [x, y] H (ansN Q) noE) : wpAny (model X.prog X.w) X.A.in1 (call (.ref f) [u, v]) (fun r s' => ∃ c, r = .bool c ∧ EP X pins σ Q (.bool (!c)) s') X.xe s := by
  have hl := G.len _ _ _ _ h
  refine wpAny_call (codeAny_mono (G.run X.A.in1 X.stack s H ⟨[u, v], []⟩ [u, v] [x, y] _ noE hr.in1 I.env0.in1 (by
    have := hb s [u, v] I.kIn (by simpa using hl)
    simpa using this) (.cons rx (.cons ry .nil)) h) fun r s' hq => ?_)
  cases r with
  | error e => exact passes_call (W := fun _ _ _ _ => False) (takes0 (X := X)) (fun _ _ _ _ z => z) pins σ H s e s' I hq
  | ok fl =>
    cases fl with
    | ret w =>
      obtain ⟨z, H', I', rz, ⟨b, ez, q⟩⟩ := I.after hq
      subst ez
      obtain rfl : w = Value.bool b := rz
      exact ⟨b, rfl, .bl (!b), H', I', rfl, q⟩
    | next => exact False.elim hq
    | brk => exact False.elim hq
    | cont => exact False.elim hq
theorem op_ownN (hu : X.A.units + 1 < cLine) : OpR X (compareOp .NotEq) (rOwnN X B) := by
  intro pins s σ H x y v u Q I rx ry h
  show wpAny (model X.prog X.w) X.A (richCompare .NotEq v u) (EP X pins σ Q) X.xe s
  rcases h with ⟨a, C, dx, fs, F, tb, rfl, ha, e, ty, nf, h⟩ | ⟨a, C, dx, fs, b, D, dy, gs, F, rfl, ha, rfl, hb, ne, sb, e, h⟩
  · obtain ⟨k, f, fd, ps, M, G, hr, hb⟩ := e.ex
    obtain ⟨o, od, J⟩ := ins_at I ha
    obtain ⟨P, Z, hP, _⟩ := kit_of I ry ty
    obtain rfl : v = Value.ref a := rx
    exact PySem.W.dn_neK (tb := tb) hu I.kIn J (Z.ty _ _ I.kIn hP) nf e.ic.hm e.ne M.at_ M.fn (own_callN (x := .ref a) G hr hb I rfl ry h)
  · obtain ⟨k, f, fd, ps, M, G, hr, hb'⟩ := e.ex
    obtain ⟨o, od, J⟩ := ins_at I ha
    obtain ⟨o', od', J'⟩ := ins_at I hb
    obtain rfl : v = Value.ref a := rx
    obtain rfl : u = Value.ref b := ry
    exact PySem.W.dn_neKR hu I.kIn J J' ne sb e.ic.hm e.ne M.at_ M.fn (own_callN (x := .ref b) (y := .ref a) G hr hb' I rfl rfl h)
def gNeO (tab : MTab) : E → E → Dr → Option (Bool × Dr) := fun x y S => (gEqO tab x y S).map fun p => (!p.1, p.2)
theorem oj_ownN {tab : MTab} (T : ∀ C F, tab C = some F → NeC X B C F) (hK : X.K = B.K) (T2 : ∀ C D F G, tab C = some F → tab D = some G → C = D ∨ ∃ b, PySem.W.subIn X.K (.ref D) (.ref C) = some b) : OpX B (rOwnN X B) (gNeO tab) := fun bs σ H ρ S Hf Hs1 Hs2 x y e1 e2 b0 S' Q r h1 h2 q0 k => by
  unfold gNeO at q0
  rw [Option.map_eq_some_iff] at q0
  obtain ⟨⟨b, S1⟩, q, e0⟩ := q0
  obtain ⟨rfl, rfl⟩ : (!b) = b0 ∧ S1 = S' := by cases e0; exact ⟨rfl, rfl⟩
  unfold gEqO at q
  split at q
  · rename_i C fs
    split at q
    · rename_i F hF
      obtain ⟨a, dx, fv, rfl, ha, _⟩ := rep_obj r.ex h1.v_ok
      have fin : ∀ {x y : V} {d1 d2 : D} {F : List O → Dr → Out E}, ArR B Hf H x (.v d1) → ArR B Hf H y (.v d2) → F [.v d1, .v d2] S = .ok (.v (.bl b)) S1 → spF B 2 F [x, y] H (ansN Q) noE := fun a1 a2 e => by
        refine ⟨rfl, [.v _, .v _], S, Hf, r.ex, r.nd, r.drw, .cons a1 (.cons a2 .nil), ?_⟩
        rw [e]
        exact fun v Hf' H' n d z => ⟨b, z.bl rfl, k _ Hf' H' n d (Rep.bl _)⟩
      have a1 : ArR B Hf H (.ref a) (.v (.obj C fs)) := h1.v_ok
      split at q
      · rename_i D gs
        split at q
        · rename_i G hG
          obtain ⟨q1, q2⟩ := both_some q
          obtain ⟨b', dy, gv, rfl, hb, _⟩ := rep_obj r.ex h2.v_ok
          have a2 : ArR B Hf H (.ref b') (.v (.obj D gs)) := h2.v_ok
          have ty : TyX X.K H (.ref b') (.ref D) := by
            have ic := (T D G hG).ic
            rw [hK] at ic ⊢
            exact ty_obj r ic h2.v_ok
          by_cases e : C = D
          · subst e
            exact .inl ⟨a, C, dx, fv, F, _, rfl, ha, T C F hF, ty, by simp [PySem.W.notFirst], fin a1 a2 q1⟩
          · rcases T2 C D F G hF hG with e' | ⟨sb, hs⟩
            · exact (e e').elim
            · cases sb with
              | false => exact .inl ⟨a, C, dx, fv, F, _, rfl, ha, T C F hF, ty, by simp [PySem.W.notFirst, hs], fin a1 a2 q1⟩
              | true => exact .inr ⟨a, C, dx, fv, b', D, dy, gv, G, rfl, ha, rfl, hb, fun z => e z.symm, hs, T D G hG, fin a2 a1 q2⟩
        · cases q
      · rename_i d hd
        split at q
        · rename_i t ht
          have ty : TyX X.K H y (.type t) := by rw [hK]; exact tyE_ok r h2 ht
          exact .inl ⟨a, C, dx, fv, F, _, rfl, ha, T C F hF, ty, by simp [PySem.W.notFirst, (T C F hF).nb t (tyE_mem ht)], fin a1 (show ArR B Hf H y (.v d) from h2.v_ok) (outB_some q)⟩
        · cases q
      · cases q
    · cases q
  · cases q
end
section
variable {X : Cx} {W : WX} {B : Bs} {a b : Expr} {fa fb : Env → Dr → Out E} {pos : Pos} {tab : MTab}
theorem je_neO (hu : X.A.units + 1 < cLine) (T : ∀ C F, tab C = some F → NeC X B C F) (hK : X.K = B.K) (T2 : ∀ C D F G, tab C = some F → tab D = some G → C = D ∨ ∃ b, PySem.W.subIn X.K (.ref D) (.ref C) = some b) (ha : JE X W B a fa) (hb : JE X W B b fb) : JE X W B (.Compare a [.NotEq] [b] pos) (fOpX (gNeO tab) fa fb) := je_cmpX (op_ownN hu) (oj_ownN T hK T2) ha hb
theorem jt_neO (hu : X.A.units + 1 < cLine) (T : ∀ C F, tab C = some F → NeC X B C F) (hK : X.K = B.K) (T2 : ∀ C D F G, tab C = some F → tab D = some G → C = D ∨ ∃ b, PySem.W.subIn X.K (.ref D) (.ref C) = some b) (ha : JE X W B a fa) (hb : JE X W B b fb) : JT X W B (.Compare a [.NotEq] [b] pos) (fTst (fOpX (gNeO tab) fa fb)) := jt_cmpX (op_ownN hu) (oj_ownN T hK T2) ha hb
end

/-! ### xs.extend(e) -/
def sExt (i : Nat) (fa : Env → Dr → Out E) : Env → Dr → SO := fun ρ S => match ρ[i]? with
  | some (some (.l ds)) => (fa ρ S).so ρ fun e S1 => match e.ls with
    | some es => if ds.length + es.length ≤ sizeLine then .nx (ρ.set i (some (.l (ds ++ es)))) S1 else .stk
    | none => .stk
  | _ => .stk
section
variable {X : Cx} {W : WX} {B : Bs} {bs : Hp × Hp} {Hs Hf H : Hp} {ρ : Env} {S : Dr} {σ : L2.St} {a : Expr} {fa : Env → Dr → Out E} {pos : Pos}
theorem js_ext (i : Nat) {x : Str} {p pp cpos : Pos} (ha : JE X W B a fa) (hN : X.N[i]? = some x := by rfl) (hv : Vis X.env.scope x := by first | exact Or.inl rfl | exact Or.inr (Or.inl rfl) | exact Or.inr (Or.inr rfl)) (hd : (x == ("__debug__" : Str)) = false := by decide)
    (hcd : (x == ("__classdict__" : Str)) = false := by decide)
    (hbase : attributeBase (.Name x p) "extend" X.env (eval (.Name x p) X.env) = eval (.Name x p) X.env := by rfl)
    (hfew : ((backTo cpos (starEach [a] X.env)).all (fun x => !x.1) && (backToKw cpos (keywordEach [] X.env)).all (fun x => x.1.isSome)
      && decide (([a] : List Expr).length + ([] : List Keyword).length + (if ([] : List Keyword).isEmpty then 0 else 1) < 30)) = true := by rfl)
    (hline : (pp.endLine == cpos.line) = true := by rfl) (hs : starEach [a] X.env = (false, eval a X.env) :: starEach [] X.env := by exact star_c rfl) (hplain : (backTo cpos (starEach [] X.env)).any (·.1) = false := by exact star_any rfl)
    (hsw : swapsWith (.Call (.Attribute (.Name x p) "extend" pp) [a] [] cpos) none pos.line X.env = pure false := by rfl) :
    JS X W B (.Expr (.Call (.Attribute (.Name x p) "extend" pp) [a] [] cpos) pos) (sExt i fa) :=
  JS.mk (ps_expr (pe_bm PySem.F.plainAttrs_list PySem.F.slot_list_extend PySem.F.type_list_extend mt_extend (pe_var hN hv hd hcd) (pa_cons pe_W pa_nil hs) hbase hfew hline hs hplain) hsw) fun bs σ H ρ S Hf D r h => by
    unfold sExt at h
    split at h
    · rename_i ds e
      obtain ⟨v, e2, s⟩ := r.sl i _ e
      obtain ⟨l, vs, rfl, h1, h2, h3, h4⟩ := s
      obtain ⟨n1, n2⟩ := r.ne0 l h4
      refine ⟨_, e2, .inl ⟨rfl, _, .inl (.inl h1)⟩, ?_⟩
      show tW X a σ H fun y H1 => _
      refine ha.so r h fun e1 S1 y H1 Hf1 r1 m1 z1 q => ?_
      cases qp : e1.ls with
      | none => rw [qp] at q; exact q.elim
      | some es =>
        rw [qp] at q
        dsimp only at q
        split at q
        · rename_i hl
          obtain ⟨b, ws, rfl, hb, z2⟩ := z1.ls r1 qp
          obtain ⟨v', e3, s'⟩ := r1.sl i _ e
          rw [e2] at e3
          cases e3
          obtain ⟨l', vs', el, k1, k2, k3, k4⟩ := s'
          cases el
          refine ⟨l, b, vs', ws, rfl, rfl, k1, hb, by rw [k2.length, z2.length]; exact hl, ?_⟩
          exact q _ Hf1 _ (r1.mut e rfl e2 ⟨l, _, rfl, upd_same, k2.append z2, k3, k4⟩ rfl)
        · exact q.elim
    · exact h.elim
@[simp] theorem w_opX {g : E → E → Dr → Option (Bool × Dr)} {fb : Env → Dr → Out E} {P : E → Dr → Prop} {X : PX} : (fOpX g fa fb ρ S).w P X = (fa ρ S).w (fun x S1 => (fb ρ S1).w (fun y S2 => ∃ b S3, g x y S2 = some (b, S3) ∧ P (.v (.bl b)) S3) X) X := by
  unfold fOpX
  rw [w_bind]
  congr 1
  funext x S1
  rw [w_bind]
  congr 1
  funext y S2
  cases g x y S2 with
  | none => exact propext ⟨fun h => h.elim, fun ⟨_, _, h, _⟩ => by cases h⟩
  | some q =>
    obtain ⟨b, S3⟩ := q
    exact propext ⟨fun h => ⟨b, S3, rfl, h⟩, fun ⟨_, _, e, h⟩ => by cases e; exact h⟩
theorem w_ext {K : Kt} {i : Nat} {ds : List Dn.D} (h : ρ[i]? = some (some (.l ds))) : (sExt i fa ρ S).w K = (fa ρ S).w (fun e S1 => ∃ es, e.ls = some es ∧ ds.length + es.length ≤ sizeLine ∧ K.nx (ρ.set i (some (.l (ds ++ es)))) S1) (fun C fs S1 => K.ex C fs ρ S1) := by
  unfold sExt
  rw [h]
  dsimp only
  rw [w_so]
  congr 1
  funext e S1
  cases q : e.ls with
  | none => exact propext ⟨fun h => h.elim, fun ⟨_, h, _⟩ => by cases h⟩
  | some es =>
    dsimp only
    by_cases hl : ds.length + es.length ≤ sizeLine
    · rw [if_pos hl]
      exact propext ⟨fun h => ⟨es, rfl, hl, h⟩, fun ⟨_, e, _, h⟩ => by cases e; exact h⟩
    · rw [if_neg hl]
      exact propext ⟨fun h => h.elim, fun ⟨_, e, h, _⟩ => by cases e; exact (hl h).elim⟩
end
end Dn

set_option Elab.async false
set_option linter.all false
set_option maxRecDepth 100000
set_option maxHeartbeats 4000000
namespace Dn
open PySem PySem.Spec PyProof.Rows L2

/-! ### f-texts of texts and ints -/
def gFmt : E → Option E
  | .v (.str y) => if y.length ≤ sizeLine then some (.v (.str y)) else none
  | .v (.int i) => if i.natAbs.log2 < 1920 then some (.v (.str (toString i))) else none
  | _ => none
def fFmt (fa : Env → Dr → Out E) : Env → Dr → Out E := fun ρ S => (fa ρ S).bind fun e S1 => Out.of (gFmt e) S1
def fJoin : List (Env → Dr → Out E) → Str → Env → Dr → Out E
  | [], acc => fun _ S => .ok (.v (.str acc)) S
  | f :: fs, acc => fun ρ S => (f ρ S).bind fun e S1 => match e with
    | .v (.str y) => if (acc ++ y).length ≤ sizeLine then fJoin fs (acc ++ y) ρ S1 else .stk
    | _ => .stk
section
variable {X : Cx} {W : WX} {B : Bs} {bs : Hp × Hp} {Hs Hf H : Hp} {ρ : Env} {S : Dr} {σ : L2.St} {a : Expr} {fa : Env → Dr → Out E} {pos : Pos}
theorem je_fmt (ha : JE X W B a fa) : JE X W B (.FormattedValue a (-1) none pos) (fFmt fa) :=
  JE.mk (pe_fmt pe_W) fun bs σ H ρ S Hf Q r h => by
    show tW X a σ H fun x H1 => _
    refine ha.bind r h back_e fun e1 S1 v H1 Hf1 r1 n1 z1 h1 => ?_
    cases q : gFmt e1 with
    | none => rw [q] at h1; exact h1.elim
    | some e =>
      rw [q] at h1
      unfold gFmt at q
      split at q
      · rename_i y
        split at q
        · rename_i hl
          cases q
          cases z1.v_ok
          exact .inl ⟨y, rfl, hl, EPost.now r1 h1 (Rep.str _)⟩
        · cases q
      · rename_i i
        split at q
        · rename_i hl
          cases q
          cases z1.v_ok
          exact .inr ⟨i, rfl, hl, EPost.now r1 h1 (Rep.str _)⟩
        · cases q
      · cases q
/-- the parts of an f-text -/
inductive JFs (X : Cx) (W : WX) (B : Bs) : List Expr → List (Env → Dr → Out E) → Prop where
  | nil : JFs X W B [] []
  | cons {e : Expr} {f : Env → Dr → Out E} {es : List Expr} {fs : List (Env → Dr → Out E)} (h : JE X W B e f) (r : JFs X W B es fs) : JFs X W B (e :: es) (f :: fs)
theorem jfs_pj {es : List Expr} {fs : List (Env → Dr → Out E)} (h : JFs X W B es fs) : PJ X es (es.map (tW X)) := by
  induction h with
  | nil => exact .nil
  | cons h r ih => exact .cons pe_W ih
theorem jfs_run {es : List Expr} {fs : List (Env → Dr → Out E)} (hj : JFs X W B es fs) : ∀ {H : Hp} {S : Dr} {Hf : Hp} (acc : Str) {Q : VK}, R B bs Hf ρ S σ H → EPost B W Hf σ H (erel B) (fJoin fs acc ρ S) Q → tJs (es.map (tW X)) acc σ H fun out H1 => Q (.str out) H1 := by
  induction hj with
  | nil =>
    intro H S Hf acc Q r h
    exact EPost.now r h (Rep.str _)
  | @cons e f es fs h0 hr ih =>
    intro H S Hf acc Q r h
    show tW X e σ H fun x H1 => _
    refine h0.bind r h back_e fun e1 S1 v H1 Hf1 r1 n1 z1 h1 => ?_
    split at h1
    · rename_i y
      split at h1
      · rename_i hl
        cases z1.v_ok
        exact ⟨y, rfl, hl, ih (acc ++ y) r1 h1⟩
      · exact h1.elim
    · exact h1.elim
theorem je_joined {v1 v2 : Expr} {rest : List Expr} {fs : List (Env → Dr → Out E)} (h : JFs X W B (v1 :: v2 :: rest) fs) : JE X W B (.JoinedStr (v1 :: v2 :: rest) pos) (fJoin fs Str.empty) :=
  JE.mk (pe_joined (jfs_pj h)) fun bs σ H ρ S Hf Q r q => jfs_run h Str.empty r q
theorem je_joined1 {e : Expr} {f : Env → Dr → Out E} (h : JE X W B e f) : JE X W B (.JoinedStr [e] pos) f :=
  JE.mk (pe_joined1 pe_W) fun bs σ H ρ S Hf Q r q => h.go bs σ H ρ S Hf Q r q
@[simp] theorem w_fmt {P : E → Dr → Prop} {X : PX} : (fFmt fa ρ S).w P X = (fa ρ S).w (fun e S1 => ∃ z, gFmt e = some z ∧ P z S1) X := by
  unfold fFmt
  rw [w_bind]
  congr 1
  funext e S1
  rw [w_of]
@[simp] theorem w_join0 {acc : Str} {P : E → Dr → Prop} {X : PX} : (fJoin [] acc ρ S).w P X = P (.v (.str acc)) S := rfl
theorem w_join {f : Env → Dr → Out E} {fs : List (Env → Dr → Out E)} {acc : Str} {P : E → Dr → Prop} {X : PX} : (fJoin (f :: fs) acc ρ S).w P X = (f ρ S).w (fun e S1 => ∃ y, e = .v (.str y) ∧ (acc ++ y).length ≤ sizeLine ∧ (fJoin fs (acc ++ y) ρ S1).w P X) X := by
  rw [fJoin, w_bind]
  congr 1
  funext e S1
  split
  · rename_i y
    by_cases hl : (acc ++ y).length ≤ sizeLine
    · rw [if_pos hl]
      exact propext ⟨fun h => ⟨y, rfl, hl, h⟩, fun ⟨_, e, _, h⟩ => by cases e; exact h⟩
    · rw [if_neg hl]
      exact propext ⟨fun h => h.elim, fun ⟨_, e, h, _⟩ => by cases e; exact (hl h).elim⟩
  · rename_i hn
    exact propext ⟨fun h => h.elim, fun ⟨y, e, _⟩ => (hn y e).elim⟩
end
end Dn

set_option Elab.async false
set_option linter.all false
set_option maxRecDepth 100000
set_option maxHeartbeats 4000000
namespace Dn
open PySem PySem.Spec PyProof.Rows L2

/-! ### str(x), x an object with an own __str__ -/
structure StrC (X : Cx) (B : Bs) (C : Addr) (F : List O → Dr → Out E) : Prop where
  ex : ∃ (k : Nat) (f : Addr) (fd : FuncData) (ps : List Str), Meth X.K C "__str__" f ∧ FnOk X.prog X.w X.K X.mg X.base (L2.CX X.prog X.w) k f fd ps (spF B 1 F) ∧ Room (k + 2) X.A ∧ Binds X.K fd ps []
def ansS (Q : VK) : VK := fun v H => ∃ y, v = .str y ∧ Q (.str y) H
section
variable {X : Cx} {W : WX} {B : Bs} {bs : Hp × Hp} {Hs Hf H : Hp} {ρ : Env} {S : Dr} {σ : L2.St} {a : Expr} {fa : Env → Dr → Out E} {p pos : Pos}
theorem call_strO : CallR X (.type "str") (fun xs H Q => ∃ a C dx fs F, xs = [.ref a] ∧ H a = some (.ins C dx fs) ∧ StrC X B C F ∧ spF B 1 F [.ref a] H (ansS Q) noE) := by
  intro pins s σ H xs us Q I r q
  obtain ⟨a, C, dx, fs, F, rfl, ha, e, h⟩ := q
  obtain ⟨u, rfl, ru⟩ := r.one
  obtain rfl : u = Value.ref a := ru
  obtain ⟨k, f, fd, ps, M, G, hr, hb⟩ := e.ex
  obtain ⟨o, od, J⟩ := ins_at I ha
  have hl := G.len _ _ _ _ h
  refine PySem.W.kso_call hr.in1.in1.units0 I.kIn J M.at_ M.fn (wpAny_call (codeAny_mono (G.run X.A.in1.in1 X.stack s H ⟨[.ref a], []⟩ [.ref a] [.ref a] _ noE hr.in1.in1 I.env0.in1.in1 (by
    have := hb s [.ref a] I.kIn (by simpa using hl)
    simpa using this) (.cons rfl .nil) h) fun r s' hq => ?_))
  cases r with
  | error e => exact passes_call (W := fun _ _ _ _ => False) (takes0 (X := X)) (fun _ _ _ _ z => z) pins σ H s e s' I hq
  | ok fl =>
    cases fl with
    | ret w =>
      obtain ⟨z, H', I', rz, y, ez, q⟩ := I.after hq
      subst ez
      obtain ⟨t, rfl⟩ := (show ∃ t, w = Value.str y t from rz)
      exact ⟨.str y, H', I', ⟨t, rfl⟩, q⟩
    | next => exact False.elim hq
    | brk => exact False.elim hq
    | cont => exact False.elim hq
def outS : Out E → Out E
  | .ok (.v (.str y)) S => .ok (.v (.str y)) S
  | _ => .stk
def fStrO (tab : MTab) (fa : Env → Dr → Out E) : Env → Dr → Out E := fun ρ S => (fa ρ S).bind fun e S1 => match e with
  | .v (.obj C fs) => match tab C with
    | some F => outS (F [.v (.obj C fs)] S1)
    | none => .stk
  | _ => .stk
theorem je_strO {tab : MTab} (T : ∀ C F, tab C = some F → StrC X B C F) (hm : X.mg "str" = none) (ha : JE X W B a fa) (hg : Gl X "str" := by rfl) (he : starEach [a] X.env = (false, eval a X.env) :: starEach [] X.env := by exact star_c rfl) (hpl : (backTo pos (starEach [] X.env)).any (·.1) = false := by exact star_any rfl) :
    JE X W B (.Call (.Name "str" p) [a] [] pos) (fStrO tab fa) :=
  JE.mk (pe_callTy (call_strO (B := B)) hg hm (by decide +kernel) (pa_cons pe_W pa_nil he) (by decide) (by decide) he hpl) fun bs σ H ρ S Hf Q r h => by
    show tW X a σ H fun x H1 => _
    refine ha.bind r h back_e fun e1 S1 v H1 Hf1 r1 n1 z1 h1 => ?_
    split at h1
    · rename_i C fs
      split at h1
      · rename_i F hF
        obtain ⟨b, dx, fv, rfl, hb, _⟩ := rep_obj r1.ex z1.v_ok
        refine ⟨b, C, dx, fv, F, rfl, hb, T C F hF, rfl, [.v (.obj C fs)], S1, Hf1, r1.ex, r1.nd, r1.drw, .cons (show ArR B Hf1 H1 (.ref b) (.v (.obj C fs)) from z1.v_ok) .nil, ?_⟩
        unfold outS at h1
        split at h1
        · rename_i y S2 q
          rw [q]
          intro v Hf' H' n d z
          cases z.v_ok
          exact ⟨y, rfl, h1 _ Hf' H' n d (Rep.str y)⟩
        · exact h1.elim
      · exact h1.elim
    · exact h1.elim
end
end Dn

set_option Elab.async false
set_option linter.all false
set_option maxRecDepth 100000
set_option maxHeartbeats 4000000
namespace Dn
open PySem PySem.Spec PyProof.Rows L2

/-! ### a written dict of defs by texts: x in NAME, NAME[x] -/
def KDs (P : Params) : List DictEntry → List (Str × Addr) → Prop
  | [], [] => True
  | e :: r, (x, a) :: s => (∃ t, e.key = .str x t ∧ e.hash = PyData.keyHash P x) ∧ e.val = .ref a ∧ KDs P r s
  | _, _ => False
theorem KDs.lit {P : Params} : ∀ {l : List DictEntry} {s : List (Str × Addr)}, KDs P l s → PySem.W.KeysLit P l
  | [], [], _ => trivial
  | e :: r, (x, a) :: s, ⟨⟨t, h1, h2⟩, _, h⟩ => ⟨⟨x, t, h1, h2⟩, h.lit⟩
theorem KDs.norefs {P : Params} : ∀ {l : List DictEntry} {s : List (Str × Addr)}, KDs P l s → l.any (·.refKey) = false
  | [], [], _ => rfl
  | e :: r, (x, a) :: s, ⟨⟨t, h1, h2⟩, _, h⟩ => by
    rw [List.any_cons, h.norefs]
    cases e
    cases h1
    rfl
theorem KDs.find {P : Params} (z : Str) : ∀ {l : List DictEntry} {s : List (Str × Addr)}, KDs P l s → (l.find? (·.key.isStr z)).map (·.val) = (s.lookup z).map Value.ref
  | [], [], _ => rfl
  | ⟨hh, k, v⟩ :: r, (x, a) :: s, ⟨⟨t, h1, h2⟩, h3, h⟩ => by
    cases h1
    cases h3
    rw [List.find?_cons, List.lookup_cons]
    have e : (Value.str x t).isStr z = (z == x) := by
      show (x == z) = (z == x)
      by_cases q : x = z
      · subst q; rfl
      · rw [beq_eq_false_iff_ne.mpr q, beq_eq_false_iff_ne.mpr (Ne.symm q)]
    show (match (Value.str x t).isStr z with | true => _ | false => _ : Option DictEntry).map _ = _
    rw [e]
    cases z == x
    · exact h.find z
    · rfl
structure KTab (K : PySem.W.Frag) (w : World) (d : Addr) (kvs : List (Str × Addr)) : Prop where
  low : (d == sysModules) = false
  ex : ∃ es n, K.lookup d = some ⟨.type "dict", none, .dict es n, #[]⟩ ∧ KDs w.params es.toList kvs
theorem KTab.at_ {K : PySem.W.Frag} {w : World} {d : Addr} {kvs : List (Str × Addr)} (T : KTab K w d kvs) : ∃ es n, KDict K w d es n ∧ ∀ z, PySem.W.nsIn K d z = some ((kvs.lookup z).map Value.ref) := by
  obtain ⟨es, n, h1, h2⟩ := T.ex
  refine ⟨es, n, ⟨h1, h2.lit, T.low⟩, fun z => ?_⟩
  have q := h2.find z
  unfold PySem.W.nsIn
  rw [h1]
  dsimp only
  rw [h2.norefs]
  cases e : es.toList.find? (·.key.isStr z) with
  | none => rw [e] at q; rw [← q]; rfl
  | some u => rw [e] at q; rw [← q]; rfl
def gInW (neg : Bool) (d : Addr) (kvs : List (Str × Addr)) : E → E → Option E
  | .v (.str z), .v (.ref a) => if a = d then some (.v (.bl (if neg then !(kvs.lookup z).isSome else (kvs.lookup z).isSome))) else none
  | _, _ => none
def gIxW (d : Addr) (kvs : List (Str × Addr)) : E → E → Option E
  | .v (.ref a), .v (.str z) => if a = d then (kvs.lookup z).map fun f => .v (.ref f) else none
  | _, _ => none
section
variable {X : Cx} {W : WX} {B : Bs} {a b : Expr} {fa fb : Env → Dr → Out E} {pos : Pos} {d : Addr} {kvs : List (Str × Addr)}
def rInW (neg : Bool) (d : Addr) (kvs : List (Str × Addr)) : R2 := fun x y H Q => ∃ z, x = .str z ∧ y = .ref d ∧ Q (.bl (if neg then !(kvs.lookup z).isSome else (kvs.lookup z).isSome)) H
theorem op_inW (T : KTab X.K X.w d kvs) : OpR X (compareOp .In) (rInW false d kvs) := by
  intro pins s σ H x y v u Q I rx ry h
  obtain ⟨z, rfl, rfl, q⟩ := h
  obtain ⟨es, n, D, hn⟩ := T.at_
  exact op_in_kd D pins s σ H _ _ v u Q I rx ry ⟨z, _, rfl, rfl, hn z, by rw [Option.isSome_map]; exact q⟩
theorem op_notInW (T : KTab X.K X.w d kvs) : OpR X (compareOp .NotIn) (rInW true d kvs) := by
  intro pins s σ H x y v u Q I rx ry h
  obtain ⟨z, rfl, rfl, q⟩ := h
  obtain ⟨es, n, D, hn⟩ := T.at_
  exact op_notIn_kd D pins s σ H _ _ v u Q I rx ry ⟨z, _, rfl, rfl, hn z, by rw [Option.isSome_map]; exact q⟩
theorem oj_inW {neg : Bool} : OpJ B (rInW neg d kvs) (gInW neg d kvs) := fun bs σ H ρ S Hf Hs1 Hs2 x y e1 e2 e Q r h1 h2 q k => by
  unfold gInW at q
  split at q
  · rename_i z a
    split at q
    · rename_i e; subst e
      cases q
      cases h1.v_ok
      cases h2.v_ok
      exact ⟨z, rfl, rfl, k _ Hf H r.nx0 r.drw (Rep.bl _)⟩
    · cases q
  · cases q
def rIxW (d : Addr) (kvs : List (Str × Addr)) : R2 := fun x y H Q => ∃ z f, x = .ref d ∧ y = .str z ∧ kvs.lookup z = some f ∧ Q (.ref f) H
theorem ix_W (T : KTab X.K X.w d kvs) : IxR X (rIxW d kvs) := by
  intro value slice pins s σ H x y v u Q I rx ry h hs
  obtain ⟨z, f, rfl, rfl, e, q⟩ := h
  obtain ⟨es, n, D, hn⟩ := T.at_
  exact ix_kdict value slice pins s σ H (.ref d) (.str z) v u Q I rx ry ⟨d, z, .ref f, rfl, rfl, ⟨es, n, .ref f, D.at_, D.lit, by rw [hn z, e]; rfl, rfl⟩, q⟩ hs
theorem oj_ixW : OpJ B (rIxW d kvs) (gIxW d kvs) := fun bs σ H ρ S Hf Hs1 Hs2 x y e1 e2 e Q r h1 h2 q k => by
  unfold gIxW at q
  split at q
  · rename_i a z
    split at q
    · rename_i e; subst e
      rw [Option.map_eq_some_iff] at q
      obtain ⟨f, q1, rfl⟩ := q
      cases h1.v_ok
      cases h2.v_ok
      exact ⟨z, f, rfl, rfl, q1, k _ Hf H r.nx0 r.drw (Rep.ref _)⟩
    · cases q
  · cases q
theorem je_ixW (T : KTab X.K X.w d kvs) (ha : JE X W B a fa) (hb : JE X W B b fb) (hs : PlainIx b := by exact fun _ _ => rfl) : JE X W B (.Subscript a b pos) (fOp (gIxW d kvs) fa fb) :=
  JE.mk (pe_ix (ix_W T) pe_W pe_W hs) fun bs σ H ρ S Hf Q r h => op2 oj_ixW ha hb r h
end
end Dn

set_option Elab.async false
set_option linter.all false
set_option maxRecDepth 100000
set_option maxHeartbeats 4000000
namespace Dn
open PySem PySem.Spec PyProof.Rows L2

/-! ### return e if c else xs, xs an own list or dict -/
section
variable {X : Cx} {W : WX} {B : Bs} {bs : Hp × Hp} {Hs Hf H : Hp} {ρ : Env} {S : Dr} {σ : L2.St} {a c : Expr} {fa : Env → Dr → Out E} {fc : Env → Dr → Out Bool} {p1 pos : Pos} {D : Ends}
theorem ret_at (r : R B bs Hf ρ S σ H) {i : Nat} (h : SPost B W bs D (sRetV i ρ S)) : ∃ v, σ[i]? = some (some v) ∧ D.rt v H := by
  unfold sRetV at h
  split at h
  · rename_i o e
    obtain ⟨v, e2, s⟩ := r.sl i o e
    refine ⟨v, e2, ?_⟩
    cases o with
    | v d => exact h v Hf H r.whole r.drw s
    | l ds =>
      obtain ⟨a, vs, rfl, h1, h2, h3, h4⟩ := s
      exact h _ Hf H r.whole r.drw ⟨a, vs, rfl, h1, (r.ne0 a h4).1, (r.ne0 a h4).2, h2, h3, h4⟩
    | d ds =>
      obtain ⟨a, vs, rfl, h1, h2, h3, h4⟩ := s
      exact h _ Hf H r.whole r.drw ⟨a, vs, rfl, h1, (r.ne0 a h4).1, (r.ne0 a h4).2, h2, h3, h4⟩
    | lt ds => exact h.elim
    | ld ds => exact h.elim
    | x C fs => exact h.elim
    | ob C fs => exact h.elim
  · exact h.elim
theorem ret_e (ha : JE X W B a fa) (r : R B bs Hf ρ S σ H) (h : SPost B W bs D (sRet fa ρ S)) : tW X a σ H D.rt := by
  refine ha.so r h fun e1 S1 v H1 Hf1 r1 n1 z1 h1 => ?_
  have z2 := ER.fromStart r z1
  cases e1 with
  | v d => exact h1 v Hf1 H1 r1.whole r1.drw z2
  | n d => exact h1 v Hf1 H1 r1.whole r1.drw z2
  | nd d => exact h1 v Hf1 H1 r1.whole r1.drw z2
  | b d => exact h1.elim
  | bd d => exact h1.elim
theorem js_retElse (i : Nat) {x : Str} {p : Pos} (hc : JT X W B c fc) (ha : JE X W B a fa) (hN : X.N[i]? = some x := by rfl) (hv : Vis X.env.scope x := by first | exact Or.inl rfl | exact Or.inr (Or.inl rfl) | exact Or.inr (Or.inr rfl)) (hd : (x == ("__debug__" : Str)) = false := by decide)
    (hcd : (x == ("__classdict__" : Str)) = false := by decide) : JS X W B (.Return (some (.IfExp c a (.Name x p) p1)) pos) (sIf fc (sRet fa) (sRetV i)) :=
  JS.mk (ps_ret (pe_ifExp pt_W pe_W (pe_var hN hv hd hcd))) fun bs σ H ρ S Hf D r h => by
    show tWT X c σ H fun d H1 => if d = true then tW X a σ H1 D.rt else ∃ v, σ[i]? = some (some v) ∧ D.rt v H1
    refine hc.so r h fun d S1 H1 Hf1 r1 n1 q => ?_
    cases d with
    | true => exact iteT (ret_e ha r1 q)
    | false => exact iteF (ret_at r1 q)
theorem js_retThen (i : Nat) {x : Str} {p : Pos} (hc : JT X W B c fc) (ha : JE X W B a fa) (hN : X.N[i]? = some x := by rfl) (hv : Vis X.env.scope x := by first | exact Or.inl rfl | exact Or.inr (Or.inl rfl) | exact Or.inr (Or.inr rfl)) (hd : (x == ("__debug__" : Str)) = false := by decide)
    (hcd : (x == ("__classdict__" : Str)) = false := by decide) : JS X W B (.Return (some (.IfExp c (.Name x p) a p1)) pos) (sIf fc (sRetV i) (sRet fa)) :=
  JS.mk (ps_ret (pe_ifExp pt_W (pe_var hN hv hd hcd) pe_W)) fun bs σ H ρ S Hf D r h => by
    show tWT X c σ H fun d H1 => if d = true then (∃ v, σ[i]? = some (some v) ∧ D.rt v H1) else tW X a σ H1 D.rt
    refine hc.so r h fun d S1 H1 Hf1 r1 n1 q => ?_
    cases d with
    | true => exact iteT (ret_at r1 q)
    | false => exact iteF (ret_e ha r1 q)
end
end Dn

set_option Elab.async false
set_option linter.all false
set_option maxRecDepth 100000
set_option maxHeartbeats 4000000
namespace Dn
open PySem PySem.Spec PyProof.Rows L2

/-! ### str(x), x an int, None or a text -/
theorem call_str_non {X : Cx} : CallR X (.type "str") (fun xs H Q => xs = [.non] ∧ Q (.str "None") H) := by
  intro pins s σ H xs us Q I r h
  obtain ⟨rfl, q⟩ := h
  obtain ⟨u, rfl, rfl⟩ := vals1 r
  exact PySem.P.str_of_none ⟨.str _, H, I.tok _, ⟨_, rfl⟩, q⟩
def gStrN : List O → Option E
  | [.v .non] => some (.v (.str "None"))
  | _ => none
def gStrS : List O → Option E
  | [.v (.str x)] => some (.v (.str x))
  | _ => none
section
variable {B : Bs} {bs : Hp × Hp} {Hf H : Hp} {ρ : Env} {S : Dr} {σ : L2.St}
theorem cj_strN : CallJ B (fun xs H Q => xs = [.non] ∧ Q (.str "None") H) gStrN := fun bs σ H ρ S Hf vs os e Q r z q k => by
  unfold gStrN at q
  split at q
  · cases q
    obtain ⟨v, rfl, h⟩ := as1 z
    cases (show Rep B.K B.dr Hf v .non from h)
    exact ⟨rfl, VP.now r k (Rep.str _)⟩
  · cases q
theorem cj_strS : CallJ B (fun xs H Q => ∃ a, xs = [.str a] ∧ Q (.str a) H) gStrS := fun bs σ H ρ S Hf vs os e Q r z q k => by
  unfold gStrS at q
  split at q
  · rename_i x
    cases q
    obtain ⟨v, rfl, h⟩ := as1 z
    cases (show Rep B.K B.dr Hf v (.str x) from h)
    exact ⟨x, rfl, VP.now r k (Rep.str _)⟩
  · cases q
end
def gStrA (os : List O) : Option E := match (match gStrOf os with
    | some e => some e
    | none => gStrN os) with
  | some e => some e
  | none => gStrS os
theorem call_strA {X : Cx} : CallR X (.type "str") (fun xs H Q => ((∃ i : Int, xs = [.int i] ∧ i.natAbs.log2 < 1920 ∧ Q (.str (toString i)) H) ∨ xs = [.non] ∧ Q (.str "None") H) ∨ ∃ a, xs = [.str a] ∧ Q (.str a) H) := CallR.or (CallR.or call_str_int call_str_non) SkE.call_str_str
theorem cj_strA {B : Bs} : CallJ B (fun xs H Q => ((∃ i : Int, xs = [.int i] ∧ i.natAbs.log2 < 1920 ∧ Q (.str (toString i)) H) ∨ xs = [.non] ∧ Q (.str "None") H) ∨ ∃ a, xs = [.str a] ∧ Q (.str a) H) gStrA := CallJ.or (CallJ.or cj_str cj_strN) cj_strS
theorem gStrA_of {os : List O} {e : E} (h : gStrOf os = some e) : gStrA os = some e := by unfold gStrA; rw [h]
@[simp] theorem gStrA_non : gStrA [.v .non] = some (.v (.str "None")) := rfl
@[simp] theorem gStrA_str {x : Str} : gStrA [.v (.str x)] = some (.v (.str x)) := rfl
end Dn

set_option Elab.async false
set_option linter.all false
set_option maxRecDepth 100000
set_option maxHeartbeats 4000000
namespace PySem.HandSPX
open PySem.W PySem.Calls PyProof.Rows Builtin Builtin.ObjectAttr
/-- own classes, then a base's mro -/
def refsG (tl : List Value) : List Value → Bool
  | .ref _ :: r => refsG tl r
  | l => l == tl
theorem refsG_cases {tl : List Value} (l : List Value) (e : refsG tl l = true) : (∃ c r, l = .ref c :: r ∧ refsG tl r = true) ∨ l = tl := by
  cases l with
  | nil => exact .inr (beq_iff_eq.mp e)
  | cons a r =>
    cases a with
    | ref c => exact .inl ⟨c, r, rfl, e⟩
    | _ => exact .inr (beq_iff_eq.mp e)
theorem refsG_pass {tl : List Value} (self : Value) (P : refuseLoop self "__setattr__" tl = pure ()) : ∀ l : List Value, refsG tl l = true → refuseLoop self "__setattr__" l = pure () := by
  intro l
  induction l with
  | nil =>
    intro e
    rcases refsG_cases _ e with ⟨_, _, q, _⟩ | q
    · cases q
    · rw [q]; exact P
  | cons a r ih =>
    intro e
    rcases refsG_cases _ e with ⟨c, r', q, h⟩ | q
    · obtain ⟨rfl, rfl⟩ := List.cons.inj q
      rw [refuseLoop_ref]; exact ih h
    · rw [q]; exact P
theorem refsG_contains {tl : List Value} (X : String) : ∀ l : List Value, refsG tl l = true → l.contains (.type X) = tl.contains (.type X) := by
  intro l
  induction l with
  | nil =>
    intro e
    rcases refsG_cases _ e with ⟨_, _, q, _⟩ | q
    · cases q
    · rw [q]
  | cons a r ih =>
    intro e
    rcases refsG_cases _ e with ⟨c, r', q, h⟩ | q
    · obtain ⟨rfl, rfl⟩ := List.cons.inj q
      rw [List.contains_cons, ih h]; rfl
    · rw [q]
theorem refsG_of_VE : ∀ {l : List Value}, refsVE l = true → refsG veTail l = true := by
  intro l
  induction l with
  | nil => intro e; exact absurd e (by decide)
  | cons a r ih =>
    intro e
    rcases refsVE_cases (a :: r) e with ⟨c, r', q, h⟩ | q
    · obtain ⟨rfl, rfl⟩ := List.cons.inj q
      exact ih h
    · rw [q]; rfl
section
variable {prog : Program} {w : World} {A : Around} {E : Value → Shared → Prop} {R : Result → Shared → Prop} {hp : Heap} {g : Array GenState} {d : Drawn} {t : Nat} {os : OsState}
/-- the first field of an exception, over any base -/
theorem excG_osa {K : W.Frag} {name : Str} {tk : Tok} {v : Value} {x C : Addr} {fv : Array Value} {cd : ClassData}
    (X : K.In hp) (hx : hp.get? x = some { cls := .ref C, data := .fields fv }) (hcd : W.clsIn K C = some cd) (hne : cd.mro.isEmpty = false) (hob : cd.mro.contains (.type "object") = true) (hps : ∀ s, refuseLoop s "__setattr__" cd.mro = pure ()) (hh : cd.hasDict = true) (ha : W.findIn K (.ref C) name = some none)
    (hq : ∀ h' tk' dx, (∀ b o, b ≠ x → hp.get? b = some o → h'.get? b = some o) → hp.objs.size ≤ dx → dx ≠ x → h'.get? x = some { cls := .ref C, dict := some dx, data := .fields fv } →
      h'.Ns1 dx (fun y => if y = name then some v else none) → R (.ok (.ret .none)) ⟨h', g, d, tk', os⟩) :
    codeAny (model prog w) A (.call (.builtin "object.__setattr__") ⟨[.ref x, .str name tk, v], []⟩) R ⟨hp, g, d, t, os⟩ := by
  have I : W.InstAt hp x { cls := .ref C, data := .fields fv } C none := ⟨hx, rfl, rfl, trivial⟩
  have SF := F.store_object
  have nxs : x ≠ hp.objs.size := Nat.ne_of_lt (Heap.lt_size hx)
  have sub : W.Looks (model prog w) hp (isInstance (.ref x) (.type "object")) true := I.type.andThen (W.looks_mroIn X (by unfold W.mroIn; rw [hcd, Option.bind_some, if_neg (by rw [hne]; decide), hob]))
  refine codeAny_call_builtin SF.slot.plain SF.entry (@W.check_slot (model prog w) _ _ ⟨hp, g, d, t, os⟩ "object.__setattr__" "object" "__setattr__" (.ref x) [.str name tk, v] [] _ SF.kind SF.split sub (SF.args (.ref x) (.str name tk) v) ?_)
  have hmr : W.Looks (model prog w) hp (mroOf (.ref C)) cd.mro := (W.looks_clsIn X hcd).andThen .now
  have L3 : W.Looks (model prog w) hp (storeTaker? none) none := .now
  have hcls : W.Looks (model prog w) hp (classData C) cd := W.looks_clsIn X hcd
  rw [W.osa_eq, refuse_eq]
  refine wpAny_bind (wpAny_bind (I.type.at (wpAny_bind (hmr.at ?_))))
  rw [hps]
  refine wpAny_pure (wpAny_bind (I.type.at (wpAny_bind ((W.looks_findIn X ha).at (wpAny_bind (L3.at ?_))))))
  show wpAny _ _ (storeInOwnDict (.ref x) (.ref C) (.str name tk) name v false) _ _ _
  obtain ⟨nm, bs, mro, ns, qn, hd, sn, sb, ab, col, del⟩ := cd
  dsimp only at hh
  subst hh
  unfold storeInOwnDict ownDictForStores
  repeat (first | with_reducible refine store_in_new ?_ ?_ | with_reducible refine wpAny_loadPart_at hx ?_ | with_reducible refine hcls.at ?_ | wp_step)
  · exact ⟨_, #[], _, (Heap.get?_update_ne _ _ _ _ nxs.symm).trans (Heap.get?_push_at rfl rfl), rfl, fun e he => absurd he (by simp), fun _ => rfl⟩
  · intro h' tk' hn' hs
    have hx1 : (hp.push { cls := .type "dict", data := .dict #[] }).get? x = some { cls := .ref C, data := .fields fv } := Heap.get?_push_of_some _ hx
    refine hq h' tk' hp.objs.size (fun b o hb ho => ?_) (Nat.le_refl _) nxs.symm ?_ hn'
    · exact (hs.2 b (Nat.ne_of_lt (Heap.lt_size ho))).trans ((Heap.get?_update_ne _ _ _ _ hb).trans (Heap.get?_push_of_some _ ho))
    · exact (hs.2 x nxs).trans (Heap.get?_update_self _ hx1 rfl)
end
end PySem.HandSPX

namespace Dn
open PySem PySem.Spec PyProof.Rows L2
/-! ### exceptions as values -/
/-- what the written part says of an exception's class, over any base -/
structure GexC (K : PySem.W.Frag) (C : Addr) : Prop where
  cls : ∃ nm q N bs bm sn sub ab col dd k0 k1 k2 k3 k5 B newId initId bmB, K.lookup C = some (excClassObj nm q C N bs bm true sn sub ab col dd k0 k1 k2 k3 k5 newId) ∧ ExcBaseFacts B newId initId bmB ∧ PySem.HandSPX.refsG bmB bm = true ∧
    bmB.contains (.type "object") = true ∧ ∀ s, refuseLoop s "__setattr__" bmB = pure ()
  sa : PySem.W.findIn K (.ref C) "__setattr__" = some (some (.builtin "object.__setattr__"))
  kC : PySem.W.keepIn K (.ref C) = true
theorem OexC.g {K : PySem.W.Frag} {C : Addr} (T : OexC K C) : GexC K C := by
  obtain ⟨nm, q, N, bs, bm, sn, sub, ab, col, dd, k0, k1, k2, k3, k5, hC, hbm⟩ := T.cls
  exact ⟨⟨nm, q, N, bs, bm, sn, sub, ab, col, dd, k0, k1, k2, k3, k5, _, _, _, _, hC, PySem.F.excBase_ValueError, PySem.HandSPX.refsG_of_VE hbm, by decide +kernel, fun s => PySem.F.store_ValueError.passes s⟩, T.sa, T.kC⟩
theorem gex_LE {K : PySem.W.Frag} {C : Addr} {nm q : Str} {N : Addr} {bs bm sub : List Value} {sn : List Str} {ab : Bool} {col : Option Bool} {dd : Option Addr} {k0 k1 k2 k3 k5 : Option Value}
    (h : K.lookup C = some (excClassObj nm q C N bs bm true sn sub ab col dd k0 k1 k2 k3 k5 "LookupError.__new__")) (hb : PySem.HandSPX.refsG [.type "LookupError", .type "Exception", .type "BaseException", .type "object"] bm = true)
    (sa : PySem.W.findIn K (.ref C) "__setattr__" = some (some (.builtin "object.__setattr__"))) (kC : PySem.W.keepIn K (.ref C) = true) : GexC K C :=
  ⟨⟨nm, q, N, bs, bm, sn, sub, ab, col, dd, k0, k1, k2, k3, k5, _, _, _, _, h, PySem.F.excBase_LookupError, hb, by decide +kernel, fun s => PySem.F.store_LookupError.passes s⟩, sa, kC⟩
section
variable {X : Cx} {pins : List (Addr × Obj)} {σ : L2.St} {H : Hp} {s : Shared} {a C dx : Addr} {f : Str} {y : V} {u : Value} {fs : List (Str × V)} {Q : Unit → Shared → Prop} {E : Value → Shared → Prop} {A : Around}
theorem ostG_new (T : GexC X.K C) (I : Inv X pins σ H s) (e : H a = some (exo a C none)) (hno : PySem.W.findIn X.K (.ref C) f = some none) (ry : RelV y u)
    (h : ∀ dx s', H dx = none → dx ≠ a → Inv X pins σ (upd (upd H dx (exd dx [(f, y)])) a (exo a C (some dx))) s' → Q () s') : wpAny (model X.prog X.w) A (setAttr (.ref a) f u) Q E s := by
  obtain ⟨nm, q, N, bs, bm, sn, sub, ab, col, dd, k0, k1, k2, k3, k5, B, newId, initId, bmB, hC, FB, hbm, hob, hps⟩ := T.cls
  have hcl : PySem.W.clsIn X.K C = some { name := nm, bases := bs, mro := .ref C :: bm, ns := N, qualname := q, hasDict := true, slotNames := sn, subclasses := sub, abstract := ab, collection := col, hasDel := false } := by unfold PySem.W.clsIn; rw [hC] <;> rfl
  obtain ⟨t1, ho⟩ := exo_at I.hok e
  obtain ⟨hp, g, d, t, os⟩ := s
  refine PySem.W.set_plain I.kIn (ox := { cls := .ref C, dict := none, data := .fields #[.ref t1, .none, .none, .none, .bool false, .none] }) (od := none) ⟨ho, rfl, rfl, trivial⟩ T.sa ?_
  refine PySem.HandSPX.excG_osa I.kIn ho hcl rfl (by show (Value.ref C :: bm).contains _ = true; rw [PySem.HandSPX.refsG_contains (tl := bmB) "object" (.ref C :: bm) hbm]; exact hob) (fun s => PySem.HandSPX.refsG_pass s (hps s) (.ref C :: bm) hbm) rfl hno (fun h' tk' dx k dn dne hx hn => ?_)
  have hnd : H dx = none := I.hok.fresh dn
  have nd : ∀ {b : Addr} {o : Obj}, hp.get? b = some o → b ≠ dx := fun {b o} q => Nat.ne_of_lt (Nat.lt_of_lt_of_le (Heap.lt_size q) dn)
  have na : ∀ {b : Addr}, H b = none → b ≠ a := fun {b} n => (ne_of_none e n).symm
  have Un1 : Un X.fs [] H (upd (upd H dx (exd dx [(f, y)])) a (exo a C (some dx))) hp h' := {
    keep := fun b o q n _ _ => k b o (na n) q
    slot := fun b o q n _ _ => ⟨o.slots, k b o (na n) q⟩
    free := fun b o q n _ => by rw [upd_ne (na n), upd_ne (nd q)]; exact n
    there := fun b o q _ => by
      by_cases hb : b = a
      · exact ⟨_, by rw [hb]; exact hx⟩
      · exact ⟨o, k b o hb q⟩
    tups := fun b xs q => by rw [upd_ne (at_ne e q exo_tup), upd_ne (ne_of_none q hnd)]; exact q
    frzs := fun b o v q => by rw [upd_ne (at_ne e q exo_frz), upd_ne (ne_of_none q hnd)]; exact q
    tbls := fun b ps q => ⟨#[], by rw [upd_ne (at_ne e q exo_tbl), upd_ne (ne_of_none q hnd), q]; simp⟩ }
  refine h dx _ hnd dne (I.un (t' := tk') Un1 fun b o q => ?_)
  by_cases hb : b = a
  · subst hb
    rw [upd_same] at q
    cases q
    exact exo_ok hx
  · rw [upd_ne hb] at q
    by_cases hd : b = dx
    · subst hd
      rw [upd_same] at q
      cases q
      exact exd_ok hn (relO_put (fs := []) ry fun g => True.intro)
    · rw [upd_ne hd] at q
      refine (I.hok b o q).stay (fun c v hc z => k c v ?_ z) (fun c hc => ?_) fun c xs hc => ?_
      · rcases hc with hc | hc
        · rw [hc]; exact hb
        · exact at_ne e hc exo_own
      · rw [upd_ne (at_ne e hc exo_own), upd_ne (ne_of_none hc hnd)]; exact hc
      · rw [upd_ne (at_ne e hc exo_tup), upd_ne (ne_of_none hc hnd)]; exact hc
end
/-- self.f = e, the first one -/
def tOsg (K : PySem.W.Frag) (f : Str) (to te : TE) : TS := fun D σ H => te σ H fun y H1 => to σ H1 fun x H2 => ∃ a C : Addr, x = .ref a ∧ GexC K C ∧ PySem.W.findIn K (.ref C) f = some none ∧
  H2 a = some (exo a C none) ∧ ∀ dx, H2 dx = none → dx ≠ a → D.nx σ (upd (upd H2 dx (exd dx [(f, y)])) a (exo a C (some dx)))
section
variable {X : Cx} {o e : Expr} {es : List Expr} {to te : TE} {ta : TA} {f : Str} {p p' p1 p2 pos : Pos}
theorem ps_osg (ho : PE X o to) (he : PE X e te) (hs : swapsWith e (some (.Attribute o f p')) pos.line X.env = pure false := by rfl) : PS X (.Assign [.Attribute o f p'] e pos) (tOsg X.K f to te) := by
  refine ⟨fun pins s σ H D I h => ?_⟩
  refine plainObj_wpAny_Assign_Attribute (thn (he.run pins s σ H _ I h) fun v s1 ⟨y, H1, I1, r1, q1⟩ => thn (ho.run pins s1 σ H1 _ I1 q1) fun u s2 ⟨x, H2, I2, r2, a, C, ex, T, hno, ea, q⟩ => ?_) hs
  subst ex
  obtain rfl : u = Value.ref a := r2
  exact ostG_new T I2 ea hno r1 fun dx s' n ne J => ⟨σ, _, J, q dx n ne⟩
def tExV (C : Addr) (sp : Sp) (ta : TA) : TE := fun σ H Q => ta σ H fun vs H1 => vs.length ≤ 1000 ∧ ∀ a, H1 a = none → sp (.ref a :: vs) (upd H1 a (exo a C none)) (fun v H2 => v = .non ∧ Q (.ref a) H2) (fun _ _ _ => False)
/-- C(e, ..) as a value, C with an own __init__ -/
theorem pe_exV {CX : CXT} {x : Str} {C fI : Addr} {k : Nat} {fd : FuncData} {ps : List Str} {sp : Sp} (T : GexC X.K C) (iC : PySem.W.findIn X.K (.ref C) "__init__" = some (some (.ref fI))) (tI : PySem.W.typeIn X.K (.ref fI) = some (.type "function"))
    (F1 : FnOk X.prog X.w X.K X.mg X.base CX k fI fd ps sp) (hr : Room (k + 1) X.A) (hb : Binds X.K fd ps []) (hx : Passes CX X (fun _ _ _ => False)) (hg : Gl X x) (hm : X.mg x = some (.ref C)) (ha : PA X (e :: es) ta)
    (hdb : (x == ("__debug__" : Str)) = false := by decide) (he : starEach (e :: es) X.env = (false, eval e X.env) :: starEach es X.env := by rfl) (hpl : (backTo pos (starEach es X.env)).any (·.1) = false := by rfl) :
    PE X (.Call (.Name x p) (e :: es) [] pos) (tExV C sp ta) := by
  refine ⟨fun pins s σ H Q I h => ?_⟩
  obtain ⟨nm, q, N, bs, bm, sn, sub, ab, col, dd, k0, k1, k2, k3, k5, B, newId, initId, bmB, hC, FB, hbm, _, _⟩ := T.cls
  refine wpAny_Call_Name_kw (ld_glob I hg hm ?_ hdb)
  refine PySem.W.callWith_K (h₀ := X.base) I.ok.mod.kin T.kC (thn (ha.run pos pins s σ H _ I h) fun us s1 ⟨vs, H1, I1, r1, hz, q1⟩ => ⟨I1.kIn, ?_⟩) he hpl
  show wpAny _ _ (call (.ref C) us) _ _ _
  obtain ⟨hp, g, dr, tk, os⟩ := s1
  have hsz : hp.objs.size ≤ hp.objs.size + 1 := Nat.le_succ _
  have hn : H1 (hp.objs.size + 1) = none := I1.hok.fresh hsz
  have hq := q1 (hp.objs.size + 1) hn
  have kk : ∀ b o, hp.get? b = some o → ((hp.push (PySem.W.kdv_tup us)).push (PySem.HandSPX.excO C hp.objs.size)).get? b = some o := fun b o e => Heap.get?_push_of_some _ (Heap.get?_push_of_some _ e)
  have hget : ((hp.push (PySem.W.kdv_tup us)).push (PySem.HandSPX.excO C hp.objs.size)).get? (hp.objs.size + 1) = some (PySem.HandSPX.excO C hp.objs.size) := by heap_get
  have I2 : Inv X pins σ (upd H1 (hp.objs.size + 1) (exo (hp.objs.size + 1) C none)) ⟨(hp.push (PySem.W.kdv_tup us)).push (PySem.HandSPX.excO C hp.objs.size), g, dr, tk, os⟩ :=
    I1.laid (t' := tk) (a := hp.objs.size + 1) (o := exo (hp.objs.size + 1) C none) (h' := (hp.push (PySem.W.kdv_tup us)).push (PySem.HandSPX.excO C hp.objs.size)) kk hsz (exo_ok hget)
  have r2 : Vals (V.ref (hp.objs.size + 1) :: vs) (Value.ref (hp.objs.size + 1) :: us) := .cons rfl r1
  have hl : (Value.ref (hp.objs.size + 1) :: us ++ []).length = ps.length := by
    have e := r2.length
    rw [F1.len _ _ _ _ hq] at e
    rw [List.append_nil]
    exact e.symm
  have hus : us.length ≤ sizeLine := by
    rw [← Paired.length r1, sizeLine_eq]
    omega
  have hb2 := hb ⟨(hp.push (PySem.W.kdv_tup us)).push (PySem.HandSPX.excO C hp.objs.size), g, dr, tk, os⟩ (Value.ref (hp.objs.size + 1) :: us) I2.kIn hl
  rw [List.append_nil] at hb2
  refine wpAny_call (PySem.HandSPX.call_own FB (fun Y => PySem.HandSPX.refsG_contains Y bm hbm) (I1.kIn _ _ hC) (PySem.W.looks_findIn I1.kIn iC) (fun self => PySem.W.bind_fn I1.kIn self tI) hus
    (codeAny_mono (F1.run _ X.stack _ _ ⟨Value.ref (hp.objs.size + 1) :: us, []⟩ (Value.ref (hp.objs.size + 1) :: us) _ _ (fun _ _ _ => False) (hr.make C us []) (I2.env0.make C us []) hb2 r2 hq) fun r s' hq' => ?_))
  cases r with
  | error er => exact hx pins σ _ _ er s' I2 hq'
  | ok fl =>
    cases fl with
    | ret u =>
      obtain ⟨v, H', I3, rv, ev, q3⟩ := I2.after hq'
      subst ev
      exact ⟨rv, V.ref (hp.objs.size + 1), H', I3, rfl, q3⟩
    | next => exact False.elim hq'
    | brk => exact False.elim hq'
    | cont => exact False.elim hq'
/-- C() as a value, C without an own __init__ -/
theorem pe_exV0 {C : Addr} {bmB : List Value} {B newId initId : String} {x : Str} (F : ExcBaseFacts B newId initId bmB) (q : PySem.W.excIn X.K C bmB newId = true) (gC : X.mg x = some (.ref C)) (kC : PySem.W.keepIn X.K (.ref C) = true) (hg : Gl X x)
    (hdb : (x == ("__debug__" : Str)) = false := by decide) :
    PE X (.Call (.Name x p) [] [] pos) (fun σ H Q => ∀ a, H a = none → Q (.ref a) (upd H a (exo a C none))) := by
  refine ⟨fun pins s σ H Q I h => ?_⟩
  refine wpAny_Call_Name_kw (ld_glob I hg gC ?_ hdb)
  refine PySem.W.callWith_K0 (I.tok _).kIn kC ?_
  obtain ⟨bm, N, nm, qn, bs, hdct, sn, sub, ab, col, dd, k0, k1, k2, k3, k5, mN, hC, hN, hni, T⟩ := exc_obj (I.tok _).kIn q
  refine wpAny_call_exc_subT F T hC hN hni (fun h' a hm => ?_) (by show 0 ≤ sizeLine; omega)
  have hn : H a = none := I.hok.gone hm.new
  obtain ⟨t, ht, _, _⟩ := hm.there
  exact ⟨.ref a, upd H a (exo a C none), I.laidN hm.keeps hm.new hn (exo_ok (t1 := t) ht), rfl, h a hn⟩
/-- e.f of an exception held as a value -/
theorem pe_exf (he : PE X e te) (hb : attributeBase e f X.env (eval e X.env) = eval e X.env := by rfl) :
    PE X (.Attribute e f pos) (fun σ H Q => te σ H fun x H1 => ∃ (a C dx : Addr) (fs : List (Str × V)) (v : V), x = .ref a ∧ H1 a = some (exo a C (some dx)) ∧ H1 dx = some (exd dx fs) ∧ XfC X.K C ∧ PySem.W.findIn X.K (.ref C) f = some none ∧ fs.lookup f = some v ∧ Q v H1) := by
  refine ⟨fun pins s σ H Q I h => ?_⟩
  refine attr_of hb (thn (he.run pins s σ H _ I h) fun u s1 ⟨x, H1, I1, rx, a, C, dx, fs, v, ex, ea, ed, T, hno, l, q⟩ => ?_)
  subst ex
  obtain rfl : u = Value.ref a := rx
  obtain ⟨t0, hoe⟩ := exo_at I1.hok ea
  obtain ⟨mA, hns, hr⟩ := exd_at I1.hok ed
  obtain ⟨od, ho, hl⟩ := lookIn_ns hns
  obtain ⟨u, hu, ru⟩ := RelO.some_of (v := v) (o := mA f) (by rw [← l]; exact hr f)
  have J : PySem.W.InstAt s1.heap a { cls := .ref C, dict := some dx, data := .fields #[.ref t0, .none, .none, .none, .bool false, .none] } C (some od) := ⟨hoe, rfl, rfl, ho⟩
  exact HandSPX.exc_get I1.kIn J T.ga T.gg T.exC (PySem.W.findObj_own T.hdC hno rfl (by rw [hl, hu])) (handed_of ru) ⟨v, H1, I1.tok _, ru, q⟩
/-- isinstance(e, C), e an exception held as a value -/
theorem call_isV {X : Cx} :
    CallR X (.builtin "isinstance") (fun xs H Q => ∃ (a D : Addr) (c : V) (cv : Value) (b : Bool), xs = [.ref a, c] ∧ ExcC X.K D ∧ (H a = some (exo a D none) ∨ ∃ dx fs, H a = some (exo a D (some dx)) ∧ H dx = some (exd dx fs)) ∧ (∀ u, RelV c u → u = cv) ∧ PySem.W.kitOne X.K (.ref D) cv = some b ∧ Q (.bl b) H) := by
  intro pins s σ H xs us Q I r h
  obtain ⟨a, D, c, cv, b, rfl, C, ha, hcv, e, q⟩ := h
  cases r with
  | cons rx rr =>
    cases rr with
    | cons rt rr =>
      cases rr
      cases rx
      have ec := hcv _ rt
      subst ec
      rcases ha with ha | ⟨dx, fs, ha, hd⟩
      · obtain ⟨t0, hoe⟩ := exo_at I.hok ha
        have J : PySem.W.InstAt s.heap a { cls := .ref D, dict := none, data := .fields #[.ref t0, .none, .none, .none, .bool false, .none] } D none := ⟨hoe, rfl, rfl, trivial⟩
        exact PySem.W.kia_one (PySem.W.dn_kitx C.hg C.hk C.hs C.hd C.ha C.hn C.ht C.hm) I.kIn J e (fun z => nomatch z) fun tk => ⟨.bl b, H, I.kept (t' := tk) fun _ _ z => z, rfl, q⟩
      · obtain ⟨t0, hoe⟩ := exo_at I.hok ha
        obtain ⟨mA, hns, hr⟩ := exd_at I.hok hd
        obtain ⟨od, ho, hl⟩ := lookIn_ns hns
        have J : PySem.W.InstAt s.heap a { cls := .ref D, dict := some dx, data := .fields #[.ref t0, .none, .none, .none, .bool false, .none] } D (some od) := ⟨hoe, rfl, rfl, ho⟩
        exact PySem.W.kia_one (PySem.W.dn_kitx C.hg C.hk C.hs C.hd C.ha C.hn C.ht C.hm) I.kIn J e (fun z => nomatch z) fun tk => ⟨.bl b, H, I.kept (t' := tk) fun _ _ z => z, rfl, q⟩
end
end Dn

set_option Elab.async false
set_option linter.all false
set_option maxRecDepth 100000
set_option maxHeartbeats 4000000
namespace Dn
open PySem PySem.Spec PyProof.Rows L2
/-! ### the rules for exceptions as values -/
def fExV (C : Addr) (names : List Str) (fr : Env → Dr → Out (List O)) : Env → Dr → Out E := fun ρ S => (fr ρ S).bind fun os S1 => match vals os with
  | some ds => if ds.length = names.length then .ok (.v (.exn C (names.zip ds).reverse)) S1 else .stk
  | none => .stk
def fExV0 (C : Addr) : Env → Dr → Out E := fun _ S => .ok (.v (.exn C [])) S
def fExf (ok : Addr → Bool) (f : Str) (fo : Env → Dr → Out E) : Env → Dr → Out E := fun ρ S => (fo ρ S).bind fun x S1 => match x with
  | .v (.exn C fs) => if ok C = true then match fs.lookup f with
    | some d => .ok (.v d) S1
    | none => .stk else .stk
  | _ => .stk
def fIsV (tab : Addr → Option Bool) (fa : Env → Dr → Out E) : Env → Dr → Out E := fun ρ S => (fa ρ S).bind fun x S1 => match x with
  | .v (.exn C _) => match tab C with
    | some b => .ok (.v (.bl b)) S1
    | none => .stk
  | _ => .stk
/-- a column of the classes' table -/
def tabN (cs : List Addr) (col : List Bool) : Addr → Option Bool := fun C => (cs.zip col).lookup C
def okN (cs : List Addr) : Addr → Bool := fun C => cs.contains C
section
variable {X : Cx} {W : WX} {B : Bs} {bs : Hp × Hp} {Hs Hf H : Hp} {ρ : Env} {S : Dr} {σ : L2.St} {a e o : Expr} {es : List Expr} {fa fo : Env → Dr → Out E} {fr : Env → Dr → Out (List O)} {pos p p1 p2 : Pos}
theorem je_exV {C fI : Addr} {k : Nat} {fd : FuncData} {ps names : List Str} {x : Str} (T : GexC X.K C) (iC : PySem.W.findIn X.K (.ref C) "__init__" = some (some (.ref fI))) (tI : PySem.W.typeIn X.K (.ref fI) = some (.type "function"))
    (F1 : FnOk X.prog X.w X.K X.mg X.base CX0 k fI fd ps (spX C names)) (hr : Room (k + 1) X.A) (hb : Binds X.K fd ps []) (hm : X.mg x = some (.ref C)) (hsz : names.length ≤ 1000) (ha : JA X W B (e :: es) fr) (hg : Gl X x := by rfl)
    (hdb : (x == ("__debug__" : Str)) = false := by decide) (he : starEach (e :: es) X.env = (false, eval e X.env) :: starEach es X.env := by exact star_c rfl) (hpl : (backTo pos (starEach es X.env)).any (·.1) = false := by exact star_any rfl) :
    JE X W B (.Call (.Name x p) (e :: es) [] pos) (fExV C names fr) :=
  JE.mk (pe_exV T iC tI F1 hr hb pass0 hg hm pa_W hdb he hpl) fun bs σ H ρ S Hf Q r h => by
    show tWA X (e :: es) σ H fun vs H1 => _
    refine ha.bind0 r h fun os S1 vs H1 Hf1 r1 n1 z1 h1 => ?_
    cases qv : vals os with
    | none => rw [qv] at h1; exact h1.elim
    | some ds =>
      rw [qv] at h1
      dsimp only at h1
      split at h1
      · rename_i hl
        have l := vals_ok z1 qv
        refine ⟨by rw [l.length, hl]; exact hsz, fun a ha => ?_⟩
        obtain ⟨na1, na2⟩ := r1.dr_ne ha
        refine ⟨a, vs, rfl, by rw [l.length, hl], upd_same, fun d H2 hd e1 e2 e3 => ⟨rfl, ?_⟩⟩
        have nda : d ≠ a := fun q => by rw [q, upd_same] at hd; cases hd
        have hd1 : H1 d = none := by rw [upd_ne nda] at hd; exact hd
        obtain ⟨nd1, nd2⟩ := r1.dr_ne hd1
        have fa := r1.freeH ha
        have fd := r1.freeH hd1
        have kp : Ex H1 H2 := fun b o hb => e3 b o (ne_of_none hb ha) (by rw [upd_ne (ne_of_none hb ha)]; exact hb)
        have xf : Ex Hf1 (upd (upd Hf1 d (exd d (names.zip vs).reverse)) a (exo a C (some d))) := fun b o hb => by
          rw [upd_ne (ne_of_none hb fa), upd_ne (ne_of_none hb fd)]; exact hb
        have n2 : Nx B Hf1 H1 (upd (upd Hf1 d (exd d (names.zip vs).reverse)) a (exo a C (some d))) H2 := by
          refine ⟨xf, fun b o hb => ?_, fun b o hb => ?_, Go.of_ex kp, ?_, ?_⟩
          · by_cases q : b = a
            · subst q; rw [upd_same] at hb; cases hb; exact e1
            · rw [upd_ne q] at hb
              by_cases q2 : b = d
              · subst q2; rw [upd_same] at hb; cases hb; exact e2
              · rw [upd_ne q2] at hb; exact kp b o (r1.ex b o hb)
          · by_cases q : b = a
            · subst q; exact .inr ha
            · rw [upd_ne q] at hb
              by_cases q2 : b = d
              · subst q2; exact .inr hd1
              · rw [upd_ne q2] at hb; exact .inl hb
          · rw [upd_ne (Ne.symm na1), upd_ne (Ne.symm nd1)]; exact r1.nd.1
          · rw [upd_ne (Ne.symm na2), upd_ne (Ne.symm nd2)]; exact r1.nd.2
        have d2 : DrR B (upd (upd Hf1 d (exd d (names.zip vs).reverse)) a (exo a C (some d))) S1 H2 := ⟨kp _ _ r1.drw.dr, xf _ _ r1.drw.cl, kp _ _ r1.drw.rs, r1.drw.ne⟩
        exact h1 _ _ _ (n1.trans n2) d2 (.exn upd_same (by rw [upd_ne nda, upd_same]) ((RepF.zip names (l.mono xf)).rev))
      · exact h1.elim
theorem je_exV0 {C : Addr} {bmB : List Value} {N newId initId : String} {x : Str} (F : ExcBaseFacts N newId initId bmB) (q : PySem.W.excIn X.K C bmB newId = true) (gC : X.mg x = some (.ref C)) (kC : PySem.W.keepIn X.K (.ref C) = true) (hg : Gl X x := by rfl)
    (hdb : (x == ("__debug__" : Str)) = false := by decide) : JE X W B (.Call (.Name x p) [] [] pos) (fExV0 C) :=
  JE.mk (pe_exV0 F q gC kC hg hdb) fun bs σ H ρ S Hf Q r h => fun a ha => h _ _ _ (r.newF ha) (r.drw.new ha (Ex.new (r.freeH ha))) (Rep.ex0 upd_same)
theorem rep_exn (hx : Ex Hf H) {v : V} {C : Addr} {fs : List (Str × Dn.D)} (h : Rep B.K B.dr Hf v (.exn C fs)) : ∃ a, v = .ref a ∧ ((fs = [] ∧ H a = some (exo a C none)) ∨ ∃ dx fv, H a = some (exo a C (some dx)) ∧ H dx = some (exd dx fv) ∧ RepF B.K B.dr Hf fv fs) := by
  cases h with
  | exn h1 h2 l => exact ⟨_, rfl, .inr ⟨_, _, hx _ _ h1, hx _ _ h2, l⟩⟩
  | ex0 h1 => exact ⟨_, rfl, .inl ⟨rfl, hx _ _ h1⟩⟩
theorem je_exf {ok : Addr → Bool} {f : Str} (T : ∀ C, ok C = true → XfC X.K C ∧ PySem.W.findIn X.K (.ref C) f = some none) (ho : JE X W B o fo) (hb : attributeBase o f X.env (eval o X.env) = eval o X.env := by rfl) : JE X W B (.Attribute o f pos) (fExf ok f fo) :=
  JE.mk (pe_exf pe_W hb) fun bs σ H ρ S Hf Q r h => by
    show tW X o σ H fun x H1 => _
    refine ho.bind r h back_e fun e1 S1 v H1 Hf1 r1 n1 z1 h1 => ?_
    split at h1
    · rename_i C fs
      split at h1
      · rename_i hok
        split at h1
        · rename_i d ql
          obtain ⟨a, rfl, ⟨rfl, _⟩ | ⟨dx, fv, ha, hd, l⟩⟩ := rep_exn r1.ex z1.v_ok
          · cases ql
          obtain ⟨u, lu, z⟩ := RepF.lookup f l ql
          obtain ⟨c1, c2⟩ := T C hok
          exact ⟨a, C, dx, fv, u, rfl, ha, hd, c1, c2, lu, EPost.now r1 h1 z⟩
        · exact h1.elim
      · exact h1.elim
    · exact h1.elim
theorem isV_go {tab : Addr → Option Bool} {c : V} {cv : Value} (hcv : ∀ u, RelV c u → u = cv) (T : ∀ C b, tab C = some b → ExcC X.K C ∧ PySem.W.kitOne X.K (.ref C) cv = some b) (ha : JE X W B a fa) {Q : VK} (r : R B bs Hf ρ S σ H) (h : EPost B W Hf σ H (erel B) (fIsV tab fa ρ S) Q) :
    tW X a σ H fun x H1 => ∃ (a D : Addr) (c' : V) (cv : Value) (b : Bool), [x, c] = [.ref a, c'] ∧ ExcC X.K D ∧ (H1 a = some (exo a D none) ∨ ∃ dx fs, H1 a = some (exo a D (some dx)) ∧ H1 dx = some (exd dx fs)) ∧ (∀ u, RelV c' u → u = cv) ∧ PySem.W.kitOne X.K (.ref D) cv = some b ∧ Q (.bl b) H1 := by
  refine ha.bind r h back_e fun e1 S1 v H1 Hf1 r1 n1 z1 h1 => ?_
  split at h1
  · rename_i C fs
    split at h1
    · rename_i b qt
      obtain ⟨t1, t2⟩ := T C b qt
      obtain ⟨a, rfl, ⟨_, ha⟩ | ⟨dx, fv, ha, hd, _⟩⟩ := rep_exn r1.ex z1.v_ok
      · exact ⟨a, C, c, cv, b, rfl, t1, .inl ha, hcv, t2, EPost.now r1 h1 (Rep.bl _)⟩
      · exact ⟨a, C, c, cv, b, rfl, t1, .inr ⟨dx, fv, ha, hd⟩, hcv, t2, EPost.now r1 h1 (Rep.bl _)⟩
    · exact h1.elim
  · exact h1.elim
/-- isinstance(e, D), D an own class -/
theorem je_isV {x : Str} {D : Addr} {tab : Addr → Option Bool} (T : ∀ C b, tab C = some b → ExcC X.K C ∧ PySem.W.kitOne X.K (.ref C) (.ref D) = some b) (hm : X.mg "isinstance" = none) (ha : JE X W B a fa) (hmx : X.mg x = some (.ref D)) (hgi : Gl X "isinstance" := by rfl) (hg : Gl X x := by rfl) (hd : (x == ("__debug__" : Str)) = false := by decide)
    (hs1 : starEach (a :: [.Name x p1]) X.env = (false, eval a X.env) :: starEach [.Name x p1] X.env := by exact star_c rfl) (hpl : (backTo pos (starEach [.Name x p1] X.env)).any (·.1) = false := by exact star_any rfl) :
    JE X W B (.Call (.Name "isinstance" p) [a, .Name x p1] [] pos) (fIsV tab fa) :=
  JE.mk (pe_callB call_isV hgi hm (by decide +kernel) (pa_cons pe_W (pa_cons (pe_glob (v := .ref D) hg hmx rfl hd) pa_nil) hs1) (by decide) (by decide) hs1 hpl) fun bs σ H ρ S Hf Q r h => by
    show tW X a σ H fun x H1 => _
    exact isV_go (fun u q => by cases q; rfl) T ha r h
/-- isinstance(e, D), D a built-in class -/
theorem je_isVb {x : Str} {n : String} {tab : Addr → Option Bool} (T : ∀ C b, tab C = some b → ExcC X.K C ∧ PySem.W.kitOne X.K (.ref C) (.type n) = some b) (hm : X.mg "isinstance" = none) (ha : JE X W B a fa) (hmx : X.mg x = none) (hv : bootBuiltins x = some (.type n)) (hgi : Gl X "isinstance" := by rfl) (hg : Gl X x := by rfl) (hn : x ≠ "__name__" := by decide) (hd : (x == ("__debug__" : Str)) = false := by decide)
    (hs1 : starEach (a :: [.Name x p1]) X.env = (false, eval a X.env) :: starEach [.Name x p1] X.env := by exact star_c rfl) (hpl : (backTo pos (starEach [.Name x p1] X.env)).any (·.1) = false := by exact star_any rfl) :
    JE X W B (.Call (.Name "isinstance" p) [a, .Name x p1] [] pos) (fIsV tab fa) :=
  JE.mk (pe_callB call_isV hgi hm (by decide +kernel) (pa_cons pe_W (pa_cons (pe_bltn (v := .ty n) hg hmx hv rfl hn hd) pa_nil) hs1) (by decide) (by decide) hs1 hpl) fun bs σ H ρ S Hf Q r h => by
    show tW X a σ H fun x H1 => _
    exact isV_go (fun u q => by cases q; rfl) T ha r h
end
/-! the written part's word on many classes at once -/
def excB (K : PySem.W.Frag) (D : Addr) : Bool := decide (PySem.W.findIn K (.ref D) "__getattribute__" = some (some (.builtin "BaseException.__getattribute__"))) && (decide (PySem.W.findIn K (.ref D) "__getattr__" = some none) && (decide (PySem.W.subIn K (.ref D) (.type "BaseException") = some true) && (PySem.W.hasDictIn K D &&
  (decide (PySem.W.findIn K (.ref D) "__class__" = some (some (.builtin "object.__class__"))) && (decide (PySem.W.specialIn K (.builtin "object.__class__") "__get__" = some (some (.builtin "getset_descriptor.__get__"))) && (decide (PySem.W.takesIn K (.builtin "object.__class__") = some true) && decide (PySem.W.mroIn K D (.type "object") = some true)))))))
theorem excB_ok {K : PySem.W.Frag} {D : Addr} (h : excB K D = true) : ExcC K D := by
  simp only [excB, Bool.and_eq_true, decide_eq_true_eq] at h
  obtain ⟨h1, h2, h3, h4, h5, h6, h7, h8⟩ := h
  exact ⟨h1, h2, h3, h4, h5, h6, h7, h8⟩
theorem exc_xf {K : PySem.W.Frag} {D : Addr} (h : ExcC K D) : XfC K D := ⟨h.hg, h.hk, h.hs, h.hd⟩
def exAll (K : PySem.W.Frag) (cs : List Addr) : Bool := cs.all (excB K)
def exCol (K : PySem.W.Frag) (cs : List Addr) (cv : Value) (col : List Bool) : Bool := (cs.zip col).all fun p => decide (PySem.W.kitOne K (.ref p.1) cv = some p.2)
def exFld (K : PySem.W.Frag) (cs : List Addr) (f : Str) : Bool := cs.all fun C => excB K C && decide (PySem.W.findIn K (.ref C) f = some none)
theorem lookup_mem {C : Addr} {b : Bool} : ∀ {l : List (Addr × Bool)}, l.lookup C = some b → (C, b) ∈ l := by
  intro l
  induction l with
  | nil => intro h; cases h
  | cons p l ih =>
    obtain ⟨q, c⟩ := p
    intro h
    rw [List.lookup_cons] at h
    cases e : C == q with
    | true => rw [e] at h; cases h; rw [eq_of_beq e]; exact List.mem_cons_self
    | false => rw [e] at h; exact List.mem_cons_of_mem _ (ih h)
theorem exCol_ok {K : PySem.W.Frag} {cs : List Addr} {cv : Value} {col : List Bool} (h1 : exAll K cs = true) (h2 : exCol K cs cv col = true) : ∀ C b, tabN cs col C = some b → ExcC K C ∧ PySem.W.kitOne K (.ref C) cv = some b := fun C b e => by
  have m := lookup_mem e
  refine ⟨excB_ok (List.all_eq_true.mp h1 C ?_), of_decide_eq_true (List.all_eq_true.mp h2 _ m)⟩
  exact (List.of_mem_zip m).1
theorem exFld_ok {K : PySem.W.Frag} {cs : List Addr} {f : Str} (h : exFld K cs f = true) : ∀ C, okN cs C = true → XfC K C ∧ PySem.W.findIn K (.ref C) f = some none := fun C e => by
  have m : C ∈ cs := by simpa [okN] using e
  have q := List.all_eq_true.mp h C m
  simp only [Bool.and_eq_true, decide_eq_true_eq] at q
  exact ⟨exc_xf (excB_ok q.1), q.2⟩
/-- an exception's class with its own __init__, over any base, by its name -/
structure ExG (K : PySem.W.Frag) (mg : Str → Option Value) (name qual : Str) (st : Stmt) (ps : List Str) (C : Addr) : Type where
  fI : Addr
  fd : FuncData
  m : mg name = some (.ref C)
  T : GexC K C
  iC : PySem.W.findIn K (.ref C) "__init__" = some (some (.ref fI))
  tI : PySem.W.typeIn K (.ref fI) = some (.type "function")
  F : Fun K "__init__" qual st fI fd
  b : Binds K fd ps []
def ExG.mk' {K : PySem.W.Frag} {h : Heap} {mg : Str → Option Value} (X : K.In h) (G : h.Ns mainGlobals mg) {name qual : Str} {st : Stmt} {ps : List Str} {C f : Addr} {oc kV doc pm cdv ct : Value} {od an : Option Addr} {osl : Array (Option Value)}
    (aC : PySem.W.nsIn K mainGlobals name = some (some (.ref C))) (iC : PySem.W.findIn K (.ref C) "__init__" = some (some (.ref f))) (tI : PySem.W.typeIn K (.ref f) = some (.type "function"))
    (l : K.lookup f = some ⟨oc, od, .func (PySem.W.fnOf "__init__" qual (defArgs st) (defBody st) (defScope st) .none kV doc pm an cdv ct), osl⟩)
    (c : PySem.W.codeIn K cdv qual = true) (k : PySem.W.keepIn K (.ref f) = true) (T : GexC K C)
    (b : ∀ (kV doc pm : Value) (an : Option Addr) (cdv ct : Value) (us : List Value), us.length = ps.length → bindArgs (PySem.W.fnOf "__init__" qual (defArgs st) (defBody st) (defScope st) .none kV doc pm an cdv ct) ⟨us, []⟩ = pure (ps.zip us)) : ExG K mg name qual st ps C :=
  ⟨f, _, PySem.W.mg_of X G aC, T, iC, tI, fun_mk l c k, (fun_mk (st := st) l c k).binds b⟩
theorem tabN_at {cs : List Addr} (nd : cs.Nodup) : ∀ {col : List Bool} {i : Nat} {C : Addr} {b : Bool}, cs[i]? = some C → col[i]? = some b → tabN cs col C = some b := by
  unfold tabN
  induction cs with
  | nil => intro col i C b h; simp at h
  | cons c cs ih =>
    intro col i C b h1 h2
    obtain ⟨n1, n2⟩ := List.nodup_cons.mp nd
    cases col with
    | nil => simp at h2
    | cons d col =>
      rw [List.zip_cons_cons, List.lookup_cons]
      cases i with
      | zero => simp at h1 h2; subst h1 h2; simp
      | succ i =>
        simp at h1 h2
        have m : C ∈ cs := List.mem_of_getElem? h1
        rw [beq_false_of_ne (fun e => n1 (by rw [← e]; exact m))]
        exact ih n2 h1 h2
/-! the calculus -/
section
variable {ρ : Env} {S : Dr} {fa fo : Env → Dr → Out E} {fr : Env → Dr → Out (List O)} {P : E → Dr → Prop} {X : PX}
@[simp] theorem w_exV {C : Addr} {names : List Str} : (fExV C names fr ρ S).w P X = (fr ρ S).w (fun os S1 => ∃ ds, vals os = some ds ∧ ds.length = names.length ∧ P (.v (.exn C (names.zip ds).reverse)) S1) X := by
  unfold fExV
  rw [w_bind]
  congr 1
  funext os S1
  apply propext
  cases vals os with
  | none => simp
  | some ds =>
    dsimp only
    by_cases h : ds.length = names.length
    · rw [if_pos h]; simp [h]
    · rw [if_neg h]; simp [h]
@[simp] theorem w_exV0 {C : Addr} : (fExV0 C ρ S).w P X = P (.v (.exn C [])) S := rfl
@[simp] theorem w_exf {ok : Addr → Bool} {f : Str} : (fExf ok f fo ρ S).w P X = (fo ρ S).w (fun x S1 => ∃ C fs d, x = .v (.exn C fs) ∧ ok C = true ∧ fs.lookup f = some d ∧ P (.v d) S1) X := by
  unfold fExf
  rw [w_bind]
  congr 1
  funext x S1
  apply propext
  split
  · rename_i C fs
    by_cases h : ok C = true
    · rw [if_pos h]
      cases q : fs.lookup f with
      | none => simp [q]
      | some d => simp [q, h]
    · rw [if_neg h]; simp [h]
  · rename_i h
    simp only [w_stk, false_iff]
    rintro ⟨C, fs, d, rfl, _⟩
    exact h C fs rfl
@[simp] theorem w_isV {tab : Addr → Option Bool} : (fIsV tab fa ρ S).w P X = (fa ρ S).w (fun x S1 => ∃ C fs b, x = .v (.exn C fs) ∧ tab C = some b ∧ P (.v (.bl b)) S1) X := by
  unfold fIsV
  rw [w_bind]
  congr 1
  funext x S1
  apply propext
  split
  · rename_i C fs
    constructor
    · intro h
      split at h
      · rename_i b q; exact ⟨C, fs, b, rfl, q, h⟩
      · exact h.elim
    · rintro ⟨C', fs', b, e, q, h⟩
      cases e
      rw [q]
      exact h
  · rename_i h
    simp only [w_stk, false_iff]
    rintro ⟨C, fs, d, rfl, _⟩
    exact h C fs rfl
end
end Dn

set_option Elab.async false
set_option linter.all false
set_option maxRecDepth 100000
set_option maxHeartbeats 4000000
namespace Dn
open PySem PySem.Spec PyProof.Rows L2
/-! ### the script itself: len, an item -/
def gLenN : List O → Option E
  | [.v (.scr ns)] => some (.v (.int ns.length))
  | _ => none
def gIxN : E → E → Option E := fun x y => match x, y with
  | .v (.scr ns), .v (.int i) => (atI ns i).map fun c => .v (.int c)
  | _, _ => none
section
variable {X : Cx} {W : WX} {B : Bs} {bs : Hp × Hp} {Hs Hf H : Hp} {ρ : Env} {S : Dr} {σ : L2.St} {a b e : Expr} {es : List Expr} {fa fb : Env → Dr → Out E} {fr : Env → Dr → Out (List O)} {pos p : Pos}
theorem rep_scr (hx : Ex Hf H) {v : V} {ns : List Int} (h : Rep B.K B.dr Hf v (.scr ns)) : ∃ a, v = .ref a ∧ SqL B.K H a (ns.map V.int) := by
  cases h with
  | scr h1 => exact ⟨_, rfl, ex_l hx h1⟩
theorem cj_lenN : CallJ B (fun xs H Q => ∃ x n, xs = [x] ∧ LenV B.K x H n ∧ Q (.int n) H) gLenN := fun bs σ H ρ S Hf vs os e Q r z q k => by
  unfold gLenN at q
  split at q
  · cases q
    obtain ⟨v, rfl, h⟩ := as1 z
    obtain ⟨a, rfl, t⟩ := rep_scr (B := B) r.ex h
    rename_i ns
    exact ⟨_, ns.length, rfl, .inl ⟨_, t, by rw [List.length_map]⟩, VP.now r k (Rep.int _)⟩
  · cases q
theorem je_lenN {p pos : Pos} (hK : X.K = B.K) (hm : X.mg "len" = none) (ha : JA X W B (e :: es) fr) (hg : Gl X "len" := by rfl) (he : starEach (e :: es) X.env = (false, eval e X.env) :: starEach es X.env := by exact star_c rfl) (hpl : (backTo pos (starEach es X.env)).any (·.1) = false := by exact star_any rfl) :
    JE X W B (.Call (.Name "len" p) (e :: es) [] pos) (fCall gLenN fr) := je_callB call_len (hK ▸ cj_lenN) hm ha hg PySem.boot_len (by decide) (by decide) he hpl
theorem atI_map {α β : Type} (f : α → β) (l : List α) (i : Int) : atI (l.map f) i = (atI l i).map f := by
  unfold atI
  rw [List.length_map]
  cases ixN l.length i with
  | none => rfl
  | some j => simp
theorem oj_ixN : OpJ B (rIx B.K) gIxN := fun bs σ H ρ S Hf Hs1 Hs2 x y e1 e2 e Q r h1 h2 q k => by
  unfold gIxN at q
  split at q
  · rename_i ns i
    simp only [Option.map_eq_some_iff] at q
    obtain ⟨c, q, rfl⟩ := q
    cases h2.v_ok
    obtain ⟨a, rfl, t⟩ := rep_scr (B := B) r.ex h1.v_ok
    exact .inl ⟨a, _, _, .int c, rfl, rfl, t, by rw [atI_map, q]; rfl, VP.now r k (Rep.int _)⟩
  · cases q
theorem je_ixN (hK : X.K = B.K) (ha : JE X W B a fa) (hb : JE X W B b fb) (hs : PlainIx b := by exact fun _ _ => rfl) : JE X W B (.Subscript a b pos) (fOp gIxN fa fb) :=
  JE.mk (pe_ix ix_seq pe_W pe_W hs) fun bs σ H ρ S Hf Q R0 h => by rw [hK]; exact op2 oj_ixN ha hb R0 h
end
end Dn

set_option Elab.async false
set_option linter.all false
set_option maxRecDepth 100000
set_option maxHeartbeats 4000000
namespace Dn
open PySem PySem.Spec PyProof.Rows L2
def topS (i : Nat) : Stmt := PySem.Challenge.pw_tagrooms_k00_errors_and_limits.main.body.getD i (.Pass ⟨0, 0, 0, 0⟩)
abbrev s__law_draws : Stmt := topS 47
abbrev s__law_next : Stmt := topS 48
abbrev s__law_limits : Stmt := topS 56
abbrev s__law_equal : Stmt := topS 50
abbrev s__law_own : Stmt := topS 51
abbrev s__law_wrong : Stmt := topS 52
abbrev s__law_one : Stmt := topS 49
abbrev s__law_lacks : Stmt := topS 53
abbrev s__law_one_kept : Stmt := topS 54
abbrev s__law_two_kept : Stmt := topS 55
abbrev s_law : Stmt := topS 57
theorem sc__law_draws : FnScope nsDraws ["_law_script"] (defScope s__law_draws) := ⟨rfl, rfl, rfl, by decide +kernel, rfl, by decide +kernel, by decide +kernel⟩
theorem sc__law_next : FnScope nsNext ["_law_drawn", "_law_many"] (defScope s__law_next) := ⟨rfl, rfl, rfl, by decide +kernel, rfl, by decide +kernel, by decide +kernel⟩
abbrev ns__law_limits : List Str := ["_law_first"]
theorem sc__law_limits : FnScope ns__law_limits [] (defScope s__law_limits) := ⟨rfl, rfl, rfl, by decide +kernel, rfl, by decide +kernel, by decide +kernel⟩
abbrev ns__law_equal : List Str := ["_law_one_here", "_law_second", "_law_left", "_law_right"]
theorem sc__law_equal : FnScope ns__law_equal ["_law_one_here", "_law_second"] (defScope s__law_equal) := ⟨rfl, rfl, rfl, by decide +kernel, rfl, by decide +kernel, by decide +kernel⟩
abbrev ns__law_own : List Str := ["_law_e"]
theorem sc__law_own : FnScope ns__law_own ["_law_e"] (defScope s__law_own) := ⟨rfl, rfl, rfl, by decide +kernel, rfl, by decide +kernel, by decide +kernel⟩
abbrev ns__law_wrong : List Str := ["_law_e"]
theorem sc__law_wrong : FnScope ns__law_wrong ["_law_e"] (defScope s__law_wrong) := ⟨rfl, rfl, rfl, by decide +kernel, rfl, by decide +kernel, by decide +kernel⟩
abbrev ns__law_one : List Str := ["_law_drawn", "_law_items"]
theorem sc__law_one : FnScope ns__law_one ["_law_drawn", "_law_items"] (defScope s__law_one) := ⟨rfl, rfl, rfl, by decide +kernel, rfl, by decide +kernel, by decide +kernel⟩
abbrev ns__law_lacks : List Str := ["_law_e"]
theorem sc__law_lacks : FnScope ns__law_lacks ["_law_e"] (defScope s__law_lacks) := ⟨rfl, rfl, rfl, by decide +kernel, rfl, by decide +kernel, by decide +kernel⟩
abbrev ns__law_one_kept : List Str := ["_law_value", "_law_wrong_here", "_law_lacks_here", "_law_pair"]
theorem sc__law_one_kept : FnScope ns__law_one_kept ["_law_value"] (defScope s__law_one_kept) := ⟨rfl, rfl, rfl, by decide +kernel, rfl, by decide +kernel, by decide +kernel⟩
abbrev ns__law_two_kept : List Str := ["_law_value", "_law_more", "_law_entry", "_law_net", "_law_broken", "_law_unlike", "_law_told", "_law_e", "_law_pair"]
theorem sc__law_two_kept : FnScope ns__law_two_kept ["_law_value", "_law_more"] (defScope s__law_two_kept) := ⟨rfl, rfl, rfl, by decide +kernel, rfl, by decide +kernel, by decide +kernel⟩
abbrev ns_law : List Str := ["_law_script", "_law_drawn", "_law_due", "_law_turn", "_law_cell", "_law_some", "_law_value", "_law_more", "_law_e"]
theorem sc_law : FnScope ns_law ["_law_script"] (defScope s_law) := ⟨rfl, rfl, rfl, by decide +kernel, rfl, by decide +kernel, by decide +kernel⟩
abbrev s_x_BadTag : Stmt := inClass (topS 3) 0
theorem sc_x_BadTag : FnScope ["self", "value"] ["self", "value"] (defScope s_x_BadTag) := ⟨rfl, rfl, rfl, by decide +kernel, rfl, by decide +kernel, by decide +kernel⟩
abbrev s_x_BadFrame : Stmt := inClass (topS 4) 0
theorem sc_x_BadFrame : FnScope ["self", "index"] ["self", "index"] (defScope s_x_BadFrame) := ⟨rfl, rfl, rfl, by decide +kernel, rfl, by decide +kernel, by decide +kernel⟩
abbrev s_x_BadText : Stmt := inClass (topS 5) 0
theorem sc_x_BadText : FnScope ["self", "index"] ["self", "index"] (defScope s_x_BadText) := ⟨rfl, rfl, rfl, by decide +kernel, rfl, by decide +kernel, by decide +kernel⟩
abbrev s_x_BadNumber : Stmt := inClass (topS 6) 0
theorem sc_x_BadNumber : FnScope ["self", "value"] ["self", "value"] (defScope s_x_BadNumber) := ⟨rfl, rfl, rfl, by decide +kernel, rfl, by decide +kernel, by decide +kernel⟩
abbrev s_x_BadList : Stmt := inClass (topS 7) 0
theorem sc_x_BadList : FnScope ["self", "index"] ["self", "index"] (defScope s_x_BadList) := ⟨rfl, rfl, rfl, by decide +kernel, rfl, by decide +kernel, by decide +kernel⟩
abbrev s_x_BadEntry : Stmt := inClass (topS 8) 0
theorem sc_x_BadEntry : FnScope ["self", "part", "index"] ["self", "part", "index"] (defScope s_x_BadEntry) := ⟨rfl, rfl, rfl, by decide +kernel, rfl, by decide +kernel, by decide +kernel⟩
abbrev s_x_BadRows : Stmt := inClass (topS 9) 0
theorem sc_x_BadRows : FnScope ["self", "index"] ["self", "index"] (defScope s_x_BadRows) := ⟨rfl, rfl, rfl, by decide +kernel, rfl, by decide +kernel, by decide +kernel⟩
abbrev s_x_BadNet : Stmt := inClass (topS 10) 0
theorem sc_x_BadNet : FnScope ["self", "bridge", "port"] ["self", "bridge", "port"] (defScope s_x_BadNet) := ⟨rfl, rfl, rfl, by decide +kernel, rfl, by decide +kernel, by decide +kernel⟩
abbrev s_x_BadLinks : Stmt := inClass (topS 11) 0
theorem sc_x_BadLinks : FnScope ["self", "index"] ["self", "index"] (defScope s_x_BadLinks) := ⟨rfl, rfl, rfl, by decide +kernel, rfl, by decide +kernel, by decide +kernel⟩
abbrev s_x_NoPort : Stmt := inClass (topS 12) 0
theorem sc_x_NoPort : FnScope ["self", "value"] ["self", "value"] (defScope s_x_NoPort) := ⟨rfl, rfl, rfl, by decide +kernel, rfl, by decide +kernel, by decide +kernel⟩
abbrev s_x_BadLine : Stmt := inClass (topS 13) 0
theorem sc_x_BadLine : FnScope ["self", "line"] ["self", "line"] (defScope s_x_BadLine) := ⟨rfl, rfl, rfl, by decide +kernel, rfl, by decide +kernel, by decide +kernel⟩
abbrev s_x_BadWish : Stmt := inClass (topS 14) 0
theorem sc_x_BadWish : FnScope ["self", "index"] ["self", "index"] (defScope s_x_BadWish) := ⟨rfl, rfl, rfl, by decide +kernel, rfl, by decide +kernel, by decide +kernel⟩
abbrev s_x_BadEdit : Stmt := inClass (topS 15) 0
theorem sc_x_BadEdit : FnScope ["self", "index"] ["self", "index"] (defScope s_x_BadEdit) := ⟨rfl, rfl, rfl, by decide +kernel, rfl, by decide +kernel, by decide +kernel⟩
abbrev s_x_Broken : Stmt := inClass (topS 16) 0
theorem sc_x_Broken : FnScope ["self", "index", "frame"] ["self", "index", "frame"] (defScope s_x_Broken) := ⟨rfl, rfl, rfl, by decide +kernel, rfl, by decide +kernel, by decide +kernel⟩
abbrev s_x_NotIn : Stmt := inClass (topS 17) 0
theorem sc_x_NotIn : FnScope ["self", "frame"] ["self", "frame"] (defScope s_x_NotIn) := ⟨rfl, rfl, rfl, by decide +kernel, rfl, by decide +kernel, by decide +kernel⟩
abbrev s_x_Lost : Stmt := inClass (topS 18) 0
theorem sc_x_Lost : FnScope ["self", "index"] ["self", "index"] (defScope s_x_Lost) := ⟨rfl, rfl, rfl, by decide +kernel, rfl, by decide +kernel, by decide +kernel⟩
abbrev s_x_TooFar : Stmt := inClass (topS 21) 0
theorem sc_x_TooFar : FnScope ["self", "hops"] ["self", "hops"] (defScope s_x_TooFar) := ⟨rfl, rfl, rfl, by decide +kernel, rfl, by decide +kernel, by decide +kernel⟩
abbrev s_x_Crowded : Stmt := inClass (topS 24) 0
theorem sc_x_Crowded : FnScope ["self", "hops"] ["self", "hops"] (defScope s_x_Crowded) := ⟨rfl, rfl, rfl, by decide +kernel, rfl, by decide +kernel, by decide +kernel⟩
abbrev s_x_UnlikeEnds : Stmt := inClass (topS 25) 0
theorem sc_x_UnlikeEnds : FnScope ["self", "one", "other"] ["self", "one", "other"] (defScope s_x_UnlikeEnds) := ⟨rfl, rfl, rfl, by decide +kernel, rfl, by decide +kernel, by decide +kernel⟩
abbrev s_x_NoSuchPort : Stmt := inClass (topS 27) 0
theorem sc_x_NoSuchPort : FnScope ["self", "value"] ["self", "value"] (defScope s_x_NoSuchPort) := ⟨rfl, rfl, rfl, by decide +kernel, rfl, by decide +kernel, by decide +kernel⟩
abbrev s_x_NoEnd : Stmt := inClass (topS 28) 0
theorem sc_x_NoEnd : FnScope ["self", "value"] ["self", "value"] (defScope s_x_NoEnd) := ⟨rfl, rfl, rfl, by decide +kernel, rfl, by decide +kernel, by decide +kernel⟩
abbrev s_x_NoSuchLink : Stmt := inClass (topS 29) 0
theorem sc_x_NoSuchLink : FnScope ["self", "value"] ["self", "value"] (defScope s_x_NoSuchLink) := ⟨rfl, rfl, rfl, by decide +kernel, rfl, by decide +kernel, by decide +kernel⟩
abbrev s_x_NoSuchFrame : Stmt := inClass (topS 30) 0
theorem sc_x_NoSuchFrame : FnScope ["self", "number"] ["self", "number"] (defScope s_x_NoSuchFrame) := ⟨rfl, rfl, rfl, by decide +kernel, rfl, by decide +kernel, by decide +kernel⟩
structure Ad where
  C_TagError : Addr
  C_NoSuch : Addr
  C_BadTag : Addr
  C_BadFrame : Addr
  C_BadText : Addr
  C_BadNumber : Addr
  C_BadList : Addr
  C_BadEntry : Addr
  C_BadRows : Addr
  C_BadNet : Addr
  C_BadLinks : Addr
  C_NoPort : Addr
  C_BadLine : Addr
  C_BadWish : Addr
  C_BadEdit : Addr
  C_Broken : Addr
  C_NotIn : Addr
  C_Lost : Addr
  C_Unheard : Addr
  C_Calm : Addr
  C_TooFar : Addr
  C_TooWide : Addr
  C_TooMany : Addr
  C_Crowded : Addr
  C_UnlikeEnds : Addr
  C_NothingToUndo : Addr
  C_NoSuchPort : Addr
  C_NoEnd : Addr
  C_NoSuchLink : Addr
  C_NoSuchFrame : Addr
  nd : [C_BadTag, C_BadFrame, C_BadText, C_BadNumber, C_BadList, C_BadEntry, C_BadRows, C_BadNet, C_BadLinks, C_NoPort, C_BadLine, C_BadWish, C_BadEdit, C_Broken, C_NotIn, C_Lost, C_Unheard, C_Calm, C_TooFar, C_TooWide, C_TooMany, C_Crowded, C_UnlikeEnds, C_NothingToUndo, C_NoSuchPort, C_NoEnd, C_NoSuchLink, C_NoSuchFrame].Nodup
abbrev xcs (A : Ad) : List Addr := [A.C_BadTag, A.C_BadFrame, A.C_BadText, A.C_BadNumber, A.C_BadList, A.C_BadEntry, A.C_BadRows, A.C_BadNet, A.C_BadLinks, A.C_NoPort, A.C_BadLine, A.C_BadWish, A.C_BadEdit, A.C_Broken, A.C_NotIn, A.C_Lost, A.C_Unheard, A.C_Calm, A.C_TooFar, A.C_TooWide, A.C_TooMany, A.C_Crowded, A.C_UnlikeEnds, A.C_NothingToUndo, A.C_NoSuchPort, A.C_NoEnd, A.C_NoSuchLink, A.C_NoSuchFrame]
abbrev xr_BadEdit : List Bool := [false, false, false, false, false, false, false, false, false, false, false, false, true, false, false, false, false, false, false, false, false, false, false, false, false, false, false, false]
abbrev xt_BadEdit (A : Ad) : Addr → Option Bool := tabN (xcs A) xr_BadEdit
abbrev xr_BadEntry : List Bool := [false, false, false, false, false, true, false, false, false, false, false, false, false, false, false, false, false, false, false, false, false, false, false, false, false, false, false, false]
abbrev xt_BadEntry (A : Ad) : Addr → Option Bool := tabN (xcs A) xr_BadEntry
abbrev xr_BadFrame : List Bool := [false, true, false, false, false, false, false, false, false, false, false, false, false, false, false, false, false, false, false, false, false, false, false, false, false, false, false, false]
abbrev xt_BadFrame (A : Ad) : Addr → Option Bool := tabN (xcs A) xr_BadFrame
abbrev xr_BadLine : List Bool := [false, false, false, false, false, false, false, false, false, false, true, false, false, false, false, false, false, false, false, false, false, false, false, false, false, false, false, false]
abbrev xt_BadLine (A : Ad) : Addr → Option Bool := tabN (xcs A) xr_BadLine
abbrev xr_BadLinks : List Bool := [false, false, false, false, false, false, false, false, true, false, false, false, false, false, false, false, false, false, false, false, false, false, false, false, false, false, false, false]
abbrev xt_BadLinks (A : Ad) : Addr → Option Bool := tabN (xcs A) xr_BadLinks
abbrev xr_BadList : List Bool := [false, false, false, false, true, false, false, false, false, false, false, false, false, false, false, false, false, false, false, false, false, false, false, false, false, false, false, false]
abbrev xt_BadList (A : Ad) : Addr → Option Bool := tabN (xcs A) xr_BadList
abbrev xr_BadNet : List Bool := [false, false, false, false, false, false, false, true, false, false, false, false, false, false, false, false, false, false, false, false, false, false, false, false, false, false, false, false]
abbrev xt_BadNet (A : Ad) : Addr → Option Bool := tabN (xcs A) xr_BadNet
abbrev xr_BadNumber : List Bool := [false, false, false, true, false, false, false, false, false, false, false, false, false, false, false, false, false, false, false, false, false, false, false, false, false, false, false, false]
abbrev xt_BadNumber (A : Ad) : Addr → Option Bool := tabN (xcs A) xr_BadNumber
abbrev xr_BadRows : List Bool := [false, false, false, false, false, false, true, false, false, false, false, false, false, false, false, false, false, false, false, false, false, false, false, false, false, false, false, false]
abbrev xt_BadRows (A : Ad) : Addr → Option Bool := tabN (xcs A) xr_BadRows
abbrev xr_BadTag : List Bool := [true, false, false, false, false, false, false, false, false, false, false, false, false, false, false, false, false, false, false, false, false, false, false, false, false, false, false, false]
abbrev xt_BadTag (A : Ad) : Addr → Option Bool := tabN (xcs A) xr_BadTag
abbrev xr_BadText : List Bool := [false, false, true, false, false, false, false, false, false, false, false, false, false, false, false, false, false, false, false, false, false, false, false, false, false, false, false, false]
abbrev xt_BadText (A : Ad) : Addr → Option Bool := tabN (xcs A) xr_BadText
abbrev xr_BadWish : List Bool := [false, false, false, false, false, false, false, false, false, false, false, true, false, false, false, false, false, false, false, false, false, false, false, false, false, false, false, false]
abbrev xt_BadWish (A : Ad) : Addr → Option Bool := tabN (xcs A) xr_BadWish
abbrev xr_Broken : List Bool := [false, false, false, false, false, false, false, false, false, false, false, false, false, true, false, false, false, false, false, false, false, false, false, false, false, false, false, false]
abbrev xt_Broken (A : Ad) : Addr → Option Bool := tabN (xcs A) xr_Broken
abbrev xr_Calm : List Bool := [false, false, false, false, false, false, false, false, false, false, false, false, false, false, false, false, false, true, false, false, false, false, false, false, false, false, false, false]
abbrev xt_Calm (A : Ad) : Addr → Option Bool := tabN (xcs A) xr_Calm
abbrev xr_Crowded : List Bool := [false, false, false, false, false, false, false, false, false, false, false, false, false, false, false, false, false, false, false, false, false, true, false, false, false, false, false, false]
abbrev xt_Crowded (A : Ad) : Addr → Option Bool := tabN (xcs A) xr_Crowded
abbrev xr_Lost : List Bool := [false, false, false, false, false, false, false, false, false, false, false, false, false, false, false, true, false, false, false, false, false, false, false, false, false, false, false, false]
abbrev xt_Lost (A : Ad) : Addr → Option Bool := tabN (xcs A) xr_Lost
abbrev xr_NoEnd : List Bool := [false, false, false, false, false, false, false, false, false, false, false, false, false, false, false, false, false, false, false, false, false, false, false, false, false, true, false, false]
abbrev xt_NoEnd (A : Ad) : Addr → Option Bool := tabN (xcs A) xr_NoEnd
abbrev xr_NoPort : List Bool := [false, false, false, false, false, false, false, false, false, true, false, false, false, false, false, false, false, false, false, false, false, false, false, false, false, false, false, false]
abbrev xt_NoPort (A : Ad) : Addr → Option Bool := tabN (xcs A) xr_NoPort
abbrev xr_NoSuch : List Bool := [false, false, false, false, false, false, false, false, false, false, false, false, false, false, false, false, false, false, false, false, false, false, false, false, true, true, true, true]
abbrev xt_NoSuch (A : Ad) : Addr → Option Bool := tabN (xcs A) xr_NoSuch
abbrev xr_NoSuchFrame : List Bool := [false, false, false, false, false, false, false, false, false, false, false, false, false, false, false, false, false, false, false, false, false, false, false, false, false, false, false, true]
abbrev xt_NoSuchFrame (A : Ad) : Addr → Option Bool := tabN (xcs A) xr_NoSuchFrame
abbrev xr_NoSuchLink : List Bool := [false, false, false, false, false, false, false, false, false, false, false, false, false, false, false, false, false, false, false, false, false, false, false, false, false, false, true, false]
abbrev xt_NoSuchLink (A : Ad) : Addr → Option Bool := tabN (xcs A) xr_NoSuchLink
abbrev xr_NoSuchPort : List Bool := [false, false, false, false, false, false, false, false, false, false, false, false, false, false, false, false, false, false, false, false, false, false, false, false, true, false, false, false]
abbrev xt_NoSuchPort (A : Ad) : Addr → Option Bool := tabN (xcs A) xr_NoSuchPort
abbrev xr_NotIn : List Bool := [false, false, false, false, false, false, false, false, false, false, false, false, false, false, true, false, false, false, false, false, false, false, false, false, false, false, false, false]
abbrev xt_NotIn (A : Ad) : Addr → Option Bool := tabN (xcs A) xr_NotIn
abbrev xr_NothingToUndo : List Bool := [false, false, false, false, false, false, false, false, false, false, false, false, false, false, false, false, false, false, false, false, false, false, false, true, false, false, false, false]
abbrev xt_NothingToUndo (A : Ad) : Addr → Option Bool := tabN (xcs A) xr_NothingToUndo
abbrev xr_TagError : List Bool := [true, true, true, true, true, true, true, true, true, true, true, true, true, true, true, true, true, true, true, true, true, true, true, true, false, false, false, false]
abbrev xt_TagError (A : Ad) : Addr → Option Bool := tabN (xcs A) xr_TagError
abbrev xr_TooFar : List Bool := [false, false, false, false, false, false, false, false, false, false, false, false, false, false, false, false, false, false, true, false, false, false, false, false, false, false, false, false]
abbrev xt_TooFar (A : Ad) : Addr → Option Bool := tabN (xcs A) xr_TooFar
abbrev xr_TooMany : List Bool := [false, false, false, false, false, false, false, false, false, false, false, false, false, false, false, false, false, false, false, false, true, false, false, false, false, false, false, false]
abbrev xt_TooMany (A : Ad) : Addr → Option Bool := tabN (xcs A) xr_TooMany
abbrev xr_TooWide : List Bool := [false, false, false, false, false, false, false, false, false, false, false, false, false, false, false, false, false, false, false, true, false, false, false, false, false, false, false, false]
abbrev xt_TooWide (A : Ad) : Addr → Option Bool := tabN (xcs A) xr_TooWide
abbrev xr_Unheard : List Bool := [false, false, false, false, false, false, false, false, false, false, false, false, false, false, false, false, true, false, false, false, false, false, false, false, false, false, false, false]
abbrev xt_Unheard (A : Ad) : Addr → Option Bool := tabN (xcs A) xr_Unheard
abbrev xr_UnlikeEnds : List Bool := [false, false, false, false, false, false, false, false, false, false, false, false, false, false, false, false, false, false, false, false, false, false, true, false, false, false, false, false]
abbrev xt_UnlikeEnds (A : Ad) : Addr → Option Bool := tabN (xcs A) xr_UnlikeEnds
abbrev xr_LookupError : List Bool := [false, false, false, false, false, false, false, false, false, false, false, false, false, false, false, false, false, false, false, false, false, false, false, false, true, true, true, true]
abbrev xt_LookupError (A : Ad) : Addr → Option Bool := tabN (xcs A) xr_LookupError
abbrev xr_ValueError : List Bool := [true, true, true, true, true, true, true, true, true, true, true, true, true, true, true, true, true, true, true, true, true, true, true, true, false, false, false, false]
abbrev xt_ValueError (A : Ad) : Addr → Option Bool := tabN (xcs A) xr_ValueError
abbrev xl_bridge (A : Ad) : List Addr := [A.C_BadNet]
abbrev xl_frame (A : Ad) : List Addr := [A.C_Broken, A.C_NotIn]
abbrev xl_hops (A : Ad) : List Addr := [A.C_TooFar, A.C_Crowded]
abbrev xl_index (A : Ad) : List Addr := [A.C_BadFrame, A.C_BadText, A.C_BadList, A.C_BadEntry, A.C_BadRows, A.C_BadLinks, A.C_BadWish, A.C_BadEdit, A.C_Broken, A.C_Lost]
abbrev xl_line (A : Ad) : List Addr := [A.C_BadLine]
abbrev xl_number (A : Ad) : List Addr := [A.C_NoSuchFrame]
abbrev xl_one (A : Ad) : List Addr := [A.C_UnlikeEnds]
abbrev xl_other (A : Ad) : List Addr := [A.C_UnlikeEnds]
abbrev xl_part (A : Ad) : List Addr := [A.C_BadEntry]
abbrev xl_port (A : Ad) : List Addr := [A.C_BadNet]
abbrev xl_value (A : Ad) : List Addr := [A.C_BadTag, A.C_BadNumber, A.C_NoPort, A.C_NoSuchPort, A.C_NoEnd, A.C_NoSuchLink]
structure Txt (P : Program) (w : World) (K : PySem.W.Frag) (mg : Str → Option Value) (A : Ad) : Type where
  d__law_draws : FnA K mg "_law_draws" s__law_draws ["_law_script"]
  d__law_next : FnA K mg "_law_next" s__law_next ["_law_drawn", "_law_many"]
  d__law_limits : FnA K mg "_law_limits" s__law_limits []
  d__law_equal : FnA K mg "_law_equal" s__law_equal ["_law_one_here", "_law_second"]
  d__law_own : FnA K mg "_law_own" s__law_own ["_law_e"]
  d__law_wrong : FnA K mg "_law_wrong" s__law_wrong ["_law_e"]
  d__law_one : FnA K mg "_law_one" s__law_one ["_law_drawn", "_law_items"]
  d__law_lacks : FnA K mg "_law_lacks" s__law_lacks ["_law_e"]
  d__law_one_kept : FnA K mg "_law_one_kept" s__law_one_kept ["_law_value"]
  d__law_two_kept : FnA K mg "_law_two_kept" s__law_two_kept ["_law_value", "_law_more"]
  x_BadTag : ExA K mg "BadTag" "BadTag.__init__" s_x_BadTag ["self", "value"] A.C_BadTag
  n_BadTag_value : PySem.W.findIn K (.ref A.C_BadTag) "value" = some none
  x_BadFrame : ExA K mg "BadFrame" "BadFrame.__init__" s_x_BadFrame ["self", "index"] A.C_BadFrame
  n_BadFrame_index : PySem.W.findIn K (.ref A.C_BadFrame) "index" = some none
  x_BadText : ExA K mg "BadText" "BadText.__init__" s_x_BadText ["self", "index"] A.C_BadText
  n_BadText_index : PySem.W.findIn K (.ref A.C_BadText) "index" = some none
  x_BadNumber : ExA K mg "BadNumber" "BadNumber.__init__" s_x_BadNumber ["self", "value"] A.C_BadNumber
  n_BadNumber_value : PySem.W.findIn K (.ref A.C_BadNumber) "value" = some none
  x_BadList : ExA K mg "BadList" "BadList.__init__" s_x_BadList ["self", "index"] A.C_BadList
  n_BadList_index : PySem.W.findIn K (.ref A.C_BadList) "index" = some none
  x_BadEntry : ExA K mg "BadEntry" "BadEntry.__init__" s_x_BadEntry ["self", "part", "index"] A.C_BadEntry
  n_BadEntry_part : PySem.W.findIn K (.ref A.C_BadEntry) "part" = some none
  n_BadEntry_index : PySem.W.findIn K (.ref A.C_BadEntry) "index" = some none
  x_BadRows : ExA K mg "BadRows" "BadRows.__init__" s_x_BadRows ["self", "index"] A.C_BadRows
  n_BadRows_index : PySem.W.findIn K (.ref A.C_BadRows) "index" = some none
  x_BadNet : ExA K mg "BadNet" "BadNet.__init__" s_x_BadNet ["self", "bridge", "port"] A.C_BadNet
  n_BadNet_bridge : PySem.W.findIn K (.ref A.C_BadNet) "bridge" = some none
  n_BadNet_port : PySem.W.findIn K (.ref A.C_BadNet) "port" = some none
  x_BadLinks : ExA K mg "BadLinks" "BadLinks.__init__" s_x_BadLinks ["self", "index"] A.C_BadLinks
  n_BadLinks_index : PySem.W.findIn K (.ref A.C_BadLinks) "index" = some none
  x_NoPort : ExA K mg "NoPort" "NoPort.__init__" s_x_NoPort ["self", "value"] A.C_NoPort
  n_NoPort_value : PySem.W.findIn K (.ref A.C_NoPort) "value" = some none
  x_BadLine : ExA K mg "BadLine" "BadLine.__init__" s_x_BadLine ["self", "line"] A.C_BadLine
  n_BadLine_line : PySem.W.findIn K (.ref A.C_BadLine) "line" = some none
  x_BadWish : ExA K mg "BadWish" "BadWish.__init__" s_x_BadWish ["self", "index"] A.C_BadWish
  n_BadWish_index : PySem.W.findIn K (.ref A.C_BadWish) "index" = some none
  x_BadEdit : ExA K mg "BadEdit" "BadEdit.__init__" s_x_BadEdit ["self", "index"] A.C_BadEdit
  n_BadEdit_index : PySem.W.findIn K (.ref A.C_BadEdit) "index" = some none
  x_Broken : ExA K mg "Broken" "Broken.__init__" s_x_Broken ["self", "index", "frame"] A.C_Broken
  n_Broken_index : PySem.W.findIn K (.ref A.C_Broken) "index" = some none
  n_Broken_frame : PySem.W.findIn K (.ref A.C_Broken) "frame" = some none
  x_NotIn : ExA K mg "NotIn" "NotIn.__init__" s_x_NotIn ["self", "frame"] A.C_NotIn
  n_NotIn_frame : PySem.W.findIn K (.ref A.C_NotIn) "frame" = some none
  x_Lost : ExA K mg "Lost" "Lost.__init__" s_x_Lost ["self", "index"] A.C_Lost
  n_Lost_index : PySem.W.findIn K (.ref A.C_Lost) "index" = some none
  x_TooFar : ExA K mg "TooFar" "TooFar.__init__" s_x_TooFar ["self", "hops"] A.C_TooFar
  n_TooFar_hops : PySem.W.findIn K (.ref A.C_TooFar) "hops" = some none
  x_Crowded : ExA K mg "Crowded" "Crowded.__init__" s_x_Crowded ["self", "hops"] A.C_Crowded
  n_Crowded_hops : PySem.W.findIn K (.ref A.C_Crowded) "hops" = some none
  x_UnlikeEnds : ExA K mg "UnlikeEnds" "UnlikeEnds.__init__" s_x_UnlikeEnds ["self", "one", "other"] A.C_UnlikeEnds
  n_UnlikeEnds_one : PySem.W.findIn K (.ref A.C_UnlikeEnds) "one" = some none
  n_UnlikeEnds_other : PySem.W.findIn K (.ref A.C_UnlikeEnds) "other" = some none
  x_NoSuchPort : ExG K mg "NoSuchPort" "NoSuchPort.__init__" s_x_NoSuchPort ["self", "value"] A.C_NoSuchPort
  n_NoSuchPort_value : PySem.W.findIn K (.ref A.C_NoSuchPort) "value" = some none
  x_NoEnd : ExG K mg "NoEnd" "NoEnd.__init__" s_x_NoEnd ["self", "value"] A.C_NoEnd
  n_NoEnd_value : PySem.W.findIn K (.ref A.C_NoEnd) "value" = some none
  x_NoSuchLink : ExG K mg "NoSuchLink" "NoSuchLink.__init__" s_x_NoSuchLink ["self", "value"] A.C_NoSuchLink
  n_NoSuchLink_value : PySem.W.findIn K (.ref A.C_NoSuchLink) "value" = some none
  x_NoSuchFrame : ExG K mg "NoSuchFrame" "NoSuchFrame.__init__" s_x_NoSuchFrame ["self", "number"] A.C_NoSuchFrame
  n_NoSuchFrame_number : PySem.W.findIn K (.ref A.C_NoSuchFrame) "number" = some none
  xq_Calm : PySem.W.excIn K A.C_Calm [.type "ValueError", .type "Exception", .type "BaseException", .type "object"] "ValueError.__new__" = true
  xk_Calm : PySem.W.keepIn K (.ref A.C_Calm) = true
  xq_NothingToUndo : PySem.W.excIn K A.C_NothingToUndo [.type "ValueError", .type "Exception", .type "BaseException", .type "object"] "ValueError.__new__" = true
  xk_NothingToUndo : PySem.W.keepIn K (.ref A.C_NothingToUndo) = true
  xq_TooMany : PySem.W.excIn K A.C_TooMany [.type "ValueError", .type "Exception", .type "BaseException", .type "object"] "ValueError.__new__" = true
  xk_TooMany : PySem.W.keepIn K (.ref A.C_TooMany) = true
  xq_TooWide : PySem.W.excIn K A.C_TooWide [.type "ValueError", .type "Exception", .type "BaseException", .type "object"] "ValueError.__new__" = true
  xk_TooWide : PySem.W.keepIn K (.ref A.C_TooWide) = true
  xq_Unheard : PySem.W.excIn K A.C_Unheard [.type "ValueError", .type "Exception", .type "BaseException", .type "object"] "ValueError.__new__" = true
  xk_Unheard : PySem.W.keepIn K (.ref A.C_Unheard) = true
  xall : exAll K (xcs A) = true
  t_BadEdit : mg "BadEdit" = some (.ref A.C_BadEdit)
  t_BadEntry : mg "BadEntry" = some (.ref A.C_BadEntry)
  t_BadFrame : mg "BadFrame" = some (.ref A.C_BadFrame)
  t_BadLine : mg "BadLine" = some (.ref A.C_BadLine)
  t_BadLinks : mg "BadLinks" = some (.ref A.C_BadLinks)
  t_BadList : mg "BadList" = some (.ref A.C_BadList)
  t_BadNet : mg "BadNet" = some (.ref A.C_BadNet)
  t_BadNumber : mg "BadNumber" = some (.ref A.C_BadNumber)
  t_BadRows : mg "BadRows" = some (.ref A.C_BadRows)
  t_BadTag : mg "BadTag" = some (.ref A.C_BadTag)
  t_BadText : mg "BadText" = some (.ref A.C_BadText)
  t_BadWish : mg "BadWish" = some (.ref A.C_BadWish)
  t_Broken : mg "Broken" = some (.ref A.C_Broken)
  t_Calm : mg "Calm" = some (.ref A.C_Calm)
  t_Crowded : mg "Crowded" = some (.ref A.C_Crowded)
  t_Lost : mg "Lost" = some (.ref A.C_Lost)
  t_NoEnd : mg "NoEnd" = some (.ref A.C_NoEnd)
  t_NoPort : mg "NoPort" = some (.ref A.C_NoPort)
  t_NoSuch : mg "NoSuch" = some (.ref A.C_NoSuch)
  t_NoSuchFrame : mg "NoSuchFrame" = some (.ref A.C_NoSuchFrame)
  t_NoSuchLink : mg "NoSuchLink" = some (.ref A.C_NoSuchLink)
  t_NoSuchPort : mg "NoSuchPort" = some (.ref A.C_NoSuchPort)
  t_NotIn : mg "NotIn" = some (.ref A.C_NotIn)
  t_NothingToUndo : mg "NothingToUndo" = some (.ref A.C_NothingToUndo)
  t_TagError : mg "TagError" = some (.ref A.C_TagError)
  t_TooFar : mg "TooFar" = some (.ref A.C_TooFar)
  t_TooMany : mg "TooMany" = some (.ref A.C_TooMany)
  t_TooWide : mg "TooWide" = some (.ref A.C_TooWide)
  t_Unheard : mg "Unheard" = some (.ref A.C_Unheard)
  t_UnlikeEnds : mg "UnlikeEnds" = some (.ref A.C_UnlikeEnds)
  xc_BadEdit : exCol K (xcs A) (.ref A.C_BadEdit) xr_BadEdit = true
  xc_BadEntry : exCol K (xcs A) (.ref A.C_BadEntry) xr_BadEntry = true
  xc_BadFrame : exCol K (xcs A) (.ref A.C_BadFrame) xr_BadFrame = true
  xc_BadLine : exCol K (xcs A) (.ref A.C_BadLine) xr_BadLine = true
  xc_BadLinks : exCol K (xcs A) (.ref A.C_BadLinks) xr_BadLinks = true
  xc_BadList : exCol K (xcs A) (.ref A.C_BadList) xr_BadList = true
  xc_BadNet : exCol K (xcs A) (.ref A.C_BadNet) xr_BadNet = true
  xc_BadNumber : exCol K (xcs A) (.ref A.C_BadNumber) xr_BadNumber = true
  xc_BadRows : exCol K (xcs A) (.ref A.C_BadRows) xr_BadRows = true
  xc_BadTag : exCol K (xcs A) (.ref A.C_BadTag) xr_BadTag = true
  xc_BadText : exCol K (xcs A) (.ref A.C_BadText) xr_BadText = true
  xc_BadWish : exCol K (xcs A) (.ref A.C_BadWish) xr_BadWish = true
  xc_Broken : exCol K (xcs A) (.ref A.C_Broken) xr_Broken = true
  xc_Calm : exCol K (xcs A) (.ref A.C_Calm) xr_Calm = true
  xc_Crowded : exCol K (xcs A) (.ref A.C_Crowded) xr_Crowded = true
  xc_Lost : exCol K (xcs A) (.ref A.C_Lost) xr_Lost = true
  xc_NoEnd : exCol K (xcs A) (.ref A.C_NoEnd) xr_NoEnd = true
  xc_NoPort : exCol K (xcs A) (.ref A.C_NoPort) xr_NoPort = true
  xc_NoSuch : exCol K (xcs A) (.ref A.C_NoSuch) xr_NoSuch = true
  xc_NoSuchFrame : exCol K (xcs A) (.ref A.C_NoSuchFrame) xr_NoSuchFrame = true
  xc_NoSuchLink : exCol K (xcs A) (.ref A.C_NoSuchLink) xr_NoSuchLink = true
  xc_NoSuchPort : exCol K (xcs A) (.ref A.C_NoSuchPort) xr_NoSuchPort = true
  xc_NotIn : exCol K (xcs A) (.ref A.C_NotIn) xr_NotIn = true
  xc_NothingToUndo : exCol K (xcs A) (.ref A.C_NothingToUndo) xr_NothingToUndo = true
  xc_TagError : exCol K (xcs A) (.ref A.C_TagError) xr_TagError = true
  xc_TooFar : exCol K (xcs A) (.ref A.C_TooFar) xr_TooFar = true
  xc_TooMany : exCol K (xcs A) (.ref A.C_TooMany) xr_TooMany = true
  xc_TooWide : exCol K (xcs A) (.ref A.C_TooWide) xr_TooWide = true
  xc_Unheard : exCol K (xcs A) (.ref A.C_Unheard) xr_Unheard = true
  xc_UnlikeEnds : exCol K (xcs A) (.ref A.C_UnlikeEnds) xr_UnlikeEnds = true
  xc_LookupError : exCol K (xcs A) (.type "LookupError") xr_LookupError = true
  xc_ValueError : exCol K (xcs A) (.type "ValueError") xr_ValueError = true
  xf_bridge : exFld K (xl_bridge A) "bridge" = true
  xf_frame : exFld K (xl_frame A) "frame" = true
  xf_hops : exFld K (xl_hops A) "hops" = true
  xf_index : exFld K (xl_index A) "index" = true
  xf_line : exFld K (xl_line A) "line" = true
  xf_number : exFld K (xl_number A) "number" = true
  xf_one : exFld K (xl_one A) "one" = true
  xf_other : exFld K (xl_other A) "other" = true
  xf_part : exFld K (xl_part A) "part" = true
  xf_port : exFld K (xl_port A) "port" = true
  xf_value : exFld K (xl_value A) "value" = true
  z_LookupError : mg "LookupError" = none
  z_ValueError : mg "ValueError" = none
  z_all : mg "all" = none
  z_bool : mg "bool" = none
  z_int : mg "int" = none
  z_isinstance : mg "isinstance" = none
  z_len : mg "len" = none
  z_list : mg "list" = none
  z_range : mg "range" = none
  z_str : mg "str" = none
  z_sum : mg "sum" = none
  z_tuple : mg "tuple" = none
  z_zip : mg "zip" = none
  k_HOPS : ∃ t, mg "HOPS" = some (.int 6 t)
  k_MOST_ARRIVALS : ∃ t, mg "MOST_ARRIVALS" = some (.int 1000 t)
  k_MOST_BRIDGES : ∃ t, mg "MOST_BRIDGES" = some (.int 6 t)
  k_MOST_COPIES : ∃ t, mg "MOST_COPIES" = some (.int 1000000000000000000000000000000 t)
  k_MOST_EDITS : ∃ t, mg "MOST_EDITS" = some (.int 12 t)
  k_MOST_ENTRIES : ∃ t, mg "MOST_ENTRIES" = some (.int 8 t)
  k_MOST_FRAME : ∃ t, mg "MOST_FRAME" = some (.int 60 t)
  k_MOST_HOPS : ∃ t, mg "MOST_HOPS" = some (.int 400 t)
  k_MOST_KEPT : ∃ t, mg "MOST_KEPT" = some (.int 8 t)
  k_MOST_LINKS : ∃ t, mg "MOST_LINKS" = some (.int 5 t)
  k_MOST_LISTED : ∃ t, mg "MOST_LISTED" = some (.int 1000 t)
  k_MOST_PORTS : ∃ t, mg "MOST_PORTS" = some (.int 14 t)
  k_MOST_STATES : ∃ t, mg "MOST_STATES" = some (.int 4000 t)
  k_MOST_TAG : ∃ t, mg "MOST_TAG" = some (.int 4094 t)
  k_MOST_WISHES : ∃ t, mg "MOST_WISHES" = some (.int 6 t)
section
variable {P : Program} {w : World} {K : PySem.W.Frag} {mg : Str → Option Value} {base : Heap} {dr rs cl : Addr} {A : Ad}
theorem ok_x_BadTag (T : Txt P w K mg A) : FnOk P w K mg base CX0 1 T.x_BadTag.fI T.x_BadTag.fd ["self", "value"] (spX A.C_BadTag ["value"]) := by
  refine T.x_BadTag.F.ok sc_x_BadTag (fun vs H Q E h => ?_) fun cdv A1 outer s H vs Q E hr h => ?_
  · obtain ⟨a, ys, rfl, hl, _⟩ := h
    rw [List.length_cons, hl]
    rfl
  obtain ⟨a, ys, rfl, hl, ha, q⟩ := h
  obtain ⟨y0, rfl⟩ : ∃ y0, ys = [y0] := by
    match ys, hl with
    | [y0], _ => exact ⟨y0, rfl⟩
  refine ⟨_, (pss_one (ps_ost (pv 0) (pv 1))), ?_⟩
  refine ⟨_, rfl, _, rfl, a, A.C_BadTag, rfl, T.x_BadTag.T, T.n_BadTag_value, .inl ⟨ha, fun dx hd ne => ?_⟩⟩
  exact q dx _ hd upd_same (by rw [upd_ne ne, upd_same]; rfl) fun b o nb e => by rw [upd_ne nb, upd_ne (ne_of_none e hd)]; exact e
theorem ok_x_BadFrame (T : Txt P w K mg A) : FnOk P w K mg base CX0 1 T.x_BadFrame.fI T.x_BadFrame.fd ["self", "index"] (spX A.C_BadFrame ["index"]) := by
  refine T.x_BadFrame.F.ok sc_x_BadFrame (fun vs H Q E h => ?_) fun cdv A1 outer s H vs Q E hr h => ?_
  · obtain ⟨a, ys, rfl, hl, _⟩ := h
    rw [List.length_cons, hl]
    rfl
  obtain ⟨a, ys, rfl, hl, ha, q⟩ := h
  obtain ⟨y0, rfl⟩ : ∃ y0, ys = [y0] := by
    match ys, hl with
    | [y0], _ => exact ⟨y0, rfl⟩
  refine ⟨_, (pss_one (ps_ost (pv 0) (pv 1))), ?_⟩
  refine ⟨_, rfl, _, rfl, a, A.C_BadFrame, rfl, T.x_BadFrame.T, T.n_BadFrame_index, .inl ⟨ha, fun dx hd ne => ?_⟩⟩
  exact q dx _ hd upd_same (by rw [upd_ne ne, upd_same]; rfl) fun b o nb e => by rw [upd_ne nb, upd_ne (ne_of_none e hd)]; exact e
theorem ok_x_BadText (T : Txt P w K mg A) : FnOk P w K mg base CX0 1 T.x_BadText.fI T.x_BadText.fd ["self", "index"] (spX A.C_BadText ["index"]) := by
  refine T.x_BadText.F.ok sc_x_BadText (fun vs H Q E h => ?_) fun cdv A1 outer s H vs Q E hr h => ?_
  · obtain ⟨a, ys, rfl, hl, _⟩ := h
    rw [List.length_cons, hl]
    rfl
  obtain ⟨a, ys, rfl, hl, ha, q⟩ := h
  obtain ⟨y0, rfl⟩ : ∃ y0, ys = [y0] := by
    match ys, hl with
    | [y0], _ => exact ⟨y0, rfl⟩
  refine ⟨_, (pss_one (ps_ost (pv 0) (pv 1))), ?_⟩
  refine ⟨_, rfl, _, rfl, a, A.C_BadText, rfl, T.x_BadText.T, T.n_BadText_index, .inl ⟨ha, fun dx hd ne => ?_⟩⟩
  exact q dx _ hd upd_same (by rw [upd_ne ne, upd_same]; rfl) fun b o nb e => by rw [upd_ne nb, upd_ne (ne_of_none e hd)]; exact e
theorem ok_x_BadNumber (T : Txt P w K mg A) : FnOk P w K mg base CX0 1 T.x_BadNumber.fI T.x_BadNumber.fd ["self", "value"] (spX A.C_BadNumber ["value"]) := by
  refine T.x_BadNumber.F.ok sc_x_BadNumber (fun vs H Q E h => ?_) fun cdv A1 outer s H vs Q E hr h => ?_
  · obtain ⟨a, ys, rfl, hl, _⟩ := h
    rw [List.length_cons, hl]
    rfl
  obtain ⟨a, ys, rfl, hl, ha, q⟩ := h
  obtain ⟨y0, rfl⟩ : ∃ y0, ys = [y0] := by
    match ys, hl with
    | [y0], _ => exact ⟨y0, rfl⟩
  refine ⟨_, (pss_one (ps_ost (pv 0) (pv 1))), ?_⟩
  refine ⟨_, rfl, _, rfl, a, A.C_BadNumber, rfl, T.x_BadNumber.T, T.n_BadNumber_value, .inl ⟨ha, fun dx hd ne => ?_⟩⟩
  exact q dx _ hd upd_same (by rw [upd_ne ne, upd_same]; rfl) fun b o nb e => by rw [upd_ne nb, upd_ne (ne_of_none e hd)]; exact e
theorem ok_x_BadList (T : Txt P w K mg A) : FnOk P w K mg base CX0 1 T.x_BadList.fI T.x_BadList.fd ["self", "index"] (spX A.C_BadList ["index"]) := by
  refine T.x_BadList.F.ok sc_x_BadList (fun vs H Q E h => ?_) fun cdv A1 outer s H vs Q E hr h => ?_
  · obtain ⟨a, ys, rfl, hl, _⟩ := h
    rw [List.length_cons, hl]
    rfl
  obtain ⟨a, ys, rfl, hl, ha, q⟩ := h
  obtain ⟨y0, rfl⟩ : ∃ y0, ys = [y0] := by
    match ys, hl with
    | [y0], _ => exact ⟨y0, rfl⟩
  refine ⟨_, (pss_one (ps_ost (pv 0) (pv 1))), ?_⟩
  refine ⟨_, rfl, _, rfl, a, A.C_BadList, rfl, T.x_BadList.T, T.n_BadList_index, .inl ⟨ha, fun dx hd ne => ?_⟩⟩
  exact q dx _ hd upd_same (by rw [upd_ne ne, upd_same]; rfl) fun b o nb e => by rw [upd_ne nb, upd_ne (ne_of_none e hd)]; exact e
theorem ok_x_BadEntry (T : Txt P w K mg A) : FnOk P w K mg base CX0 1 T.x_BadEntry.fI T.x_BadEntry.fd ["self", "part", "index"] (spX A.C_BadEntry ["part", "index"]) := by
  refine T.x_BadEntry.F.ok sc_x_BadEntry (fun vs H Q E h => ?_) fun cdv A1 outer s H vs Q E hr h => ?_
  · obtain ⟨a, ys, rfl, hl, _⟩ := h
    rw [List.length_cons, hl]
    rfl
  obtain ⟨a, ys, rfl, hl, ha, q⟩ := h
  obtain ⟨y0, y1, rfl⟩ : ∃ y0 y1, ys = [y0, y1] := by
    match ys, hl with
    | [y0, y1], _ => exact ⟨y0, y1, rfl⟩
  refine ⟨_, (pss_cons (ps_ost (pv 0) (pv 1)) (pss_one (ps_ost (pv 0) (pv 2)))), ?_⟩
  refine ⟨_, rfl, _, rfl, a, A.C_BadEntry, rfl, T.x_BadEntry.T, T.n_BadEntry_part, .inl ⟨ha, fun dx hd ne => ?_⟩⟩
  refine ⟨_, rfl, _, rfl, a, A.C_BadEntry, rfl, T.x_BadEntry.T, T.n_BadEntry_index, .inr ⟨dx, _, upd_same, by rw [upd_ne ne, upd_same], by simp, ?_⟩⟩
  exact q dx _ hd (by rw [upd_ne (Ne.symm ne), upd_same]) (by rw [upd_same]; rfl) fun b o nb e => by rw [upd_ne (ne_of_none e hd), upd_ne nb, upd_ne (ne_of_none e hd)]; exact e
theorem ok_x_BadRows (T : Txt P w K mg A) : FnOk P w K mg base CX0 1 T.x_BadRows.fI T.x_BadRows.fd ["self", "index"] (spX A.C_BadRows ["index"]) := by
  refine T.x_BadRows.F.ok sc_x_BadRows (fun vs H Q E h => ?_) fun cdv A1 outer s H vs Q E hr h => ?_
  · obtain ⟨a, ys, rfl, hl, _⟩ := h
    rw [List.length_cons, hl]
    rfl
  obtain ⟨a, ys, rfl, hl, ha, q⟩ := h
  obtain ⟨y0, rfl⟩ : ∃ y0, ys = [y0] := by
    match ys, hl with
    | [y0], _ => exact ⟨y0, rfl⟩
  refine ⟨_, (pss_one (ps_ost (pv 0) (pv 1))), ?_⟩
  refine ⟨_, rfl, _, rfl, a, A.C_BadRows, rfl, T.x_BadRows.T, T.n_BadRows_index, .inl ⟨ha, fun dx hd ne => ?_⟩⟩
  exact q dx _ hd upd_same (by rw [upd_ne ne, upd_same]; rfl) fun b o nb e => by rw [upd_ne nb, upd_ne (ne_of_none e hd)]; exact e
theorem ok_x_BadNet (T : Txt P w K mg A) : FnOk P w K mg base CX0 1 T.x_BadNet.fI T.x_BadNet.fd ["self", "bridge", "port"] (spX A.C_BadNet ["bridge", "port"]) := by
  refine T.x_BadNet.F.ok sc_x_BadNet (fun vs H Q E h => ?_) fun cdv A1 outer s H vs Q E hr h => ?_
  · obtain ⟨a, ys, rfl, hl, _⟩ := h
    rw [List.length_cons, hl]
    rfl
  obtain ⟨a, ys, rfl, hl, ha, q⟩ := h
  obtain ⟨y0, y1, rfl⟩ : ∃ y0 y1, ys = [y0, y1] := by
    match ys, hl with
    | [y0, y1], _ => exact ⟨y0, y1, rfl⟩
  refine ⟨_, (pss_cons (ps_ost (pv 0) (pv 1)) (pss_one (ps_ost (pv 0) (pv 2)))), ?_⟩
  refine ⟨_, rfl, _, rfl, a, A.C_BadNet, rfl, T.x_BadNet.T, T.n_BadNet_bridge, .inl ⟨ha, fun dx hd ne => ?_⟩⟩
  refine ⟨_, rfl, _, rfl, a, A.C_BadNet, rfl, T.x_BadNet.T, T.n_BadNet_port, .inr ⟨dx, _, upd_same, by rw [upd_ne ne, upd_same], by simp, ?_⟩⟩
  exact q dx _ hd (by rw [upd_ne (Ne.symm ne), upd_same]) (by rw [upd_same]; rfl) fun b o nb e => by rw [upd_ne (ne_of_none e hd), upd_ne nb, upd_ne (ne_of_none e hd)]; exact e
theorem ok_x_BadLinks (T : Txt P w K mg A) : FnOk P w K mg base CX0 1 T.x_BadLinks.fI T.x_BadLinks.fd ["self", "index"] (spX A.C_BadLinks ["index"]) := by
  refine T.x_BadLinks.F.ok sc_x_BadLinks (fun vs H Q E h => ?_) fun cdv A1 outer s H vs Q E hr h => ?_
  · obtain ⟨a, ys, rfl, hl, _⟩ := h
    rw [List.length_cons, hl]
    rfl
  obtain ⟨a, ys, rfl, hl, ha, q⟩ := h
  obtain ⟨y0, rfl⟩ : ∃ y0, ys = [y0] := by
    match ys, hl with
    | [y0], _ => exact ⟨y0, rfl⟩
  refine ⟨_, (pss_one (ps_ost (pv 0) (pv 1))), ?_⟩
  refine ⟨_, rfl, _, rfl, a, A.C_BadLinks, rfl, T.x_BadLinks.T, T.n_BadLinks_index, .inl ⟨ha, fun dx hd ne => ?_⟩⟩
  exact q dx _ hd upd_same (by rw [upd_ne ne, upd_same]; rfl) fun b o nb e => by rw [upd_ne nb, upd_ne (ne_of_none e hd)]; exact e
theorem ok_x_NoPort (T : Txt P w K mg A) : FnOk P w K mg base CX0 1 T.x_NoPort.fI T.x_NoPort.fd ["self", "value"] (spX A.C_NoPort ["value"]) := by
  refine T.x_NoPort.F.ok sc_x_NoPort (fun vs H Q E h => ?_) fun cdv A1 outer s H vs Q E hr h => ?_
  · obtain ⟨a, ys, rfl, hl, _⟩ := h
    rw [List.length_cons, hl]
    rfl
  obtain ⟨a, ys, rfl, hl, ha, q⟩ := h
  obtain ⟨y0, rfl⟩ : ∃ y0, ys = [y0] := by
    match ys, hl with
    | [y0], _ => exact ⟨y0, rfl⟩
  refine ⟨_, (pss_one (ps_ost (pv 0) (pv 1))), ?_⟩
  refine ⟨_, rfl, _, rfl, a, A.C_NoPort, rfl, T.x_NoPort.T, T.n_NoPort_value, .inl ⟨ha, fun dx hd ne => ?_⟩⟩
  exact q dx _ hd upd_same (by rw [upd_ne ne, upd_same]; rfl) fun b o nb e => by rw [upd_ne nb, upd_ne (ne_of_none e hd)]; exact e
theorem ok_x_BadLine (T : Txt P w K mg A) : FnOk P w K mg base CX0 1 T.x_BadLine.fI T.x_BadLine.fd ["self", "line"] (spX A.C_BadLine ["line"]) := by
  refine T.x_BadLine.F.ok sc_x_BadLine (fun vs H Q E h => ?_) fun cdv A1 outer s H vs Q E hr h => ?_
  · obtain ⟨a, ys, rfl, hl, _⟩ := h
    rw [List.length_cons, hl]
    rfl
  obtain ⟨a, ys, rfl, hl, ha, q⟩ := h
  obtain ⟨y0, rfl⟩ : ∃ y0, ys = [y0] := by
    match ys, hl with
    | [y0], _ => exact ⟨y0, rfl⟩
  refine ⟨_, (pss_one (ps_ost (pv 0) (pv 1))), ?_⟩
  refine ⟨_, rfl, _, rfl, a, A.C_BadLine, rfl, T.x_BadLine.T, T.n_BadLine_line, .inl ⟨ha, fun dx hd ne => ?_⟩⟩
  exact q dx _ hd upd_same (by rw [upd_ne ne, upd_same]; rfl) fun b o nb e => by rw [upd_ne nb, upd_ne (ne_of_none e hd)]; exact e
theorem ok_x_BadWish (T : Txt P w K mg A) : FnOk P w K mg base CX0 1 T.x_BadWish.fI T.x_BadWish.fd ["self", "index"] (spX A.C_BadWish ["index"]) := by
  refine T.x_BadWish.F.ok sc_x_BadWish (fun vs H Q E h => ?_) fun cdv A1 outer s H vs Q E hr h => ?_
  · obtain ⟨a, ys, rfl, hl, _⟩ := h
    rw [List.length_cons, hl]
    rfl
  obtain ⟨a, ys, rfl, hl, ha, q⟩ := h
  obtain ⟨y0, rfl⟩ : ∃ y0, ys = [y0] := by
    match ys, hl with
    | [y0], _ => exact ⟨y0, rfl⟩
  refine ⟨_, (pss_one (ps_ost (pv 0) (pv 1))), ?_⟩
  refine ⟨_, rfl, _, rfl, a, A.C_BadWish, rfl, T.x_BadWish.T, T.n_BadWish_index, .inl ⟨ha, fun dx hd ne => ?_⟩⟩
  exact q dx _ hd upd_same (by rw [upd_ne ne, upd_same]; rfl) fun b o nb e => by rw [upd_ne nb, upd_ne (ne_of_none e hd)]; exact e
theorem ok_x_BadEdit (T : Txt P w K mg A) : FnOk P w K mg base CX0 1 T.x_BadEdit.fI T.x_BadEdit.fd ["self", "index"] (spX A.C_BadEdit ["index"]) := by
  refine T.x_BadEdit.F.ok sc_x_BadEdit (fun vs H Q E h => ?_) fun cdv A1 outer s H vs Q E hr h => ?_
  · obtain ⟨a, ys, rfl, hl, _⟩ := h
    rw [List.length_cons, hl]
    rfl
  obtain ⟨a, ys, rfl, hl, ha, q⟩ := h
  obtain ⟨y0, rfl⟩ : ∃ y0, ys = [y0] := by
    match ys, hl with
    | [y0], _ => exact ⟨y0, rfl⟩
  refine ⟨_, (pss_one (ps_ost (pv 0) (pv 1))), ?_⟩
  refine ⟨_, rfl, _, rfl, a, A.C_BadEdit, rfl, T.x_BadEdit.T, T.n_BadEdit_index, .inl ⟨ha, fun dx hd ne => ?_⟩⟩
  exact q dx _ hd upd_same (by rw [upd_ne ne, upd_same]; rfl) fun b o nb e => by rw [upd_ne nb, upd_ne (ne_of_none e hd)]; exact e
theorem ok_x_Broken (T : Txt P w K mg A) : FnOk P w K mg base CX0 1 T.x_Broken.fI T.x_Broken.fd ["self", "index", "frame"] (spX A.C_Broken ["index", "frame"]) := by
  refine T.x_Broken.F.ok sc_x_Broken (fun vs H Q E h => ?_) fun cdv A1 outer s H vs Q E hr h => ?_
  · obtain ⟨a, ys, rfl, hl, _⟩ := h
    rw [List.length_cons, hl]
    rfl
  obtain ⟨a, ys, rfl, hl, ha, q⟩ := h
  obtain ⟨y0, y1, rfl⟩ : ∃ y0 y1, ys = [y0, y1] := by
    match ys, hl with
    | [y0, y1], _ => exact ⟨y0, y1, rfl⟩
  refine ⟨_, (pss_cons (ps_ost (pv 0) (pv 1)) (pss_one (ps_ost (pv 0) (pv 2)))), ?_⟩
  refine ⟨_, rfl, _, rfl, a, A.C_Broken, rfl, T.x_Broken.T, T.n_Broken_index, .inl ⟨ha, fun dx hd ne => ?_⟩⟩
  refine ⟨_, rfl, _, rfl, a, A.C_Broken, rfl, T.x_Broken.T, T.n_Broken_frame, .inr ⟨dx, _, upd_same, by rw [upd_ne ne, upd_same], by simp, ?_⟩⟩
  exact q dx _ hd (by rw [upd_ne (Ne.symm ne), upd_same]) (by rw [upd_same]; rfl) fun b o nb e => by rw [upd_ne (ne_of_none e hd), upd_ne nb, upd_ne (ne_of_none e hd)]; exact e
theorem ok_x_NotIn (T : Txt P w K mg A) : FnOk P w K mg base CX0 1 T.x_NotIn.fI T.x_NotIn.fd ["self", "frame"] (spX A.C_NotIn ["frame"]) := by
  refine T.x_NotIn.F.ok sc_x_NotIn (fun vs H Q E h => ?_) fun cdv A1 outer s H vs Q E hr h => ?_
  · obtain ⟨a, ys, rfl, hl, _⟩ := h
    rw [List.length_cons, hl]
    rfl
  obtain ⟨a, ys, rfl, hl, ha, q⟩ := h
  obtain ⟨y0, rfl⟩ : ∃ y0, ys = [y0] := by
    match ys, hl with
    | [y0], _ => exact ⟨y0, rfl⟩
  refine ⟨_, (pss_one (ps_ost (pv 0) (pv 1))), ?_⟩
  refine ⟨_, rfl, _, rfl, a, A.C_NotIn, rfl, T.x_NotIn.T, T.n_NotIn_frame, .inl ⟨ha, fun dx hd ne => ?_⟩⟩
  exact q dx _ hd upd_same (by rw [upd_ne ne, upd_same]; rfl) fun b o nb e => by rw [upd_ne nb, upd_ne (ne_of_none e hd)]; exact e
theorem ok_x_Lost (T : Txt P w K mg A) : FnOk P w K mg base CX0 1 T.x_Lost.fI T.x_Lost.fd ["self", "index"] (spX A.C_Lost ["index"]) := by
  refine T.x_Lost.F.ok sc_x_Lost (fun vs H Q E h => ?_) fun cdv A1 outer s H vs Q E hr h => ?_
  · obtain ⟨a, ys, rfl, hl, _⟩ := h
    rw [List.length_cons, hl]
    rfl
  obtain ⟨a, ys, rfl, hl, ha, q⟩ := h
  obtain ⟨y0, rfl⟩ : ∃ y0, ys = [y0] := by
    match ys, hl with
    | [y0], _ => exact ⟨y0, rfl⟩
  refine ⟨_, (pss_one (ps_ost (pv 0) (pv 1))), ?_⟩
  refine ⟨_, rfl, _, rfl, a, A.C_Lost, rfl, T.x_Lost.T, T.n_Lost_index, .inl ⟨ha, fun dx hd ne => ?_⟩⟩
  exact q dx _ hd upd_same (by rw [upd_ne ne, upd_same]; rfl) fun b o nb e => by rw [upd_ne nb, upd_ne (ne_of_none e hd)]; exact e
theorem ok_x_TooFar (T : Txt P w K mg A) : FnOk P w K mg base CX0 1 T.x_TooFar.fI T.x_TooFar.fd ["self", "hops"] (spX A.C_TooFar ["hops"]) := by
  refine T.x_TooFar.F.ok sc_x_TooFar (fun vs H Q E h => ?_) fun cdv A1 outer s H vs Q E hr h => ?_
  · obtain ⟨a, ys, rfl, hl, _⟩ := h
    rw [List.length_cons, hl]
    rfl
  obtain ⟨a, ys, rfl, hl, ha, q⟩ := h
  obtain ⟨y0, rfl⟩ : ∃ y0, ys = [y0] := by
    match ys, hl with
    | [y0], _ => exact ⟨y0, rfl⟩
  refine ⟨_, (pss_one (ps_ost (pv 0) (pv 1))), ?_⟩
  refine ⟨_, rfl, _, rfl, a, A.C_TooFar, rfl, T.x_TooFar.T, T.n_TooFar_hops, .inl ⟨ha, fun dx hd ne => ?_⟩⟩
  exact q dx _ hd upd_same (by rw [upd_ne ne, upd_same]; rfl) fun b o nb e => by rw [upd_ne nb, upd_ne (ne_of_none e hd)]; exact e
theorem ok_x_Crowded (T : Txt P w K mg A) : FnOk P w K mg base CX0 1 T.x_Crowded.fI T.x_Crowded.fd ["self", "hops"] (spX A.C_Crowded ["hops"]) := by
  refine T.x_Crowded.F.ok sc_x_Crowded (fun vs H Q E h => ?_) fun cdv A1 outer s H vs Q E hr h => ?_
  · obtain ⟨a, ys, rfl, hl, _⟩ := h
    rw [List.length_cons, hl]
    rfl
  obtain ⟨a, ys, rfl, hl, ha, q⟩ := h
  obtain ⟨y0, rfl⟩ : ∃ y0, ys = [y0] := by
    match ys, hl with
    | [y0], _ => exact ⟨y0, rfl⟩
  refine ⟨_, (pss_one (ps_ost (pv 0) (pv 1))), ?_⟩
  refine ⟨_, rfl, _, rfl, a, A.C_Crowded, rfl, T.x_Crowded.T, T.n_Crowded_hops, .inl ⟨ha, fun dx hd ne => ?_⟩⟩
  exact q dx _ hd upd_same (by rw [upd_ne ne, upd_same]; rfl) fun b o nb e => by rw [upd_ne nb, upd_ne (ne_of_none e hd)]; exact e
theorem ok_x_UnlikeEnds (T : Txt P w K mg A) : FnOk P w K mg base CX0 1 T.x_UnlikeEnds.fI T.x_UnlikeEnds.fd ["self", "one", "other"] (spX A.C_UnlikeEnds ["one", "other"]) := by
  refine T.x_UnlikeEnds.F.ok sc_x_UnlikeEnds (fun vs H Q E h => ?_) fun cdv A1 outer s H vs Q E hr h => ?_
  · obtain ⟨a, ys, rfl, hl, _⟩ := h
    rw [List.length_cons, hl]
    rfl
  obtain ⟨a, ys, rfl, hl, ha, q⟩ := h
  obtain ⟨y0, y1, rfl⟩ : ∃ y0 y1, ys = [y0, y1] := by
    match ys, hl with
    | [y0, y1], _ => exact ⟨y0, y1, rfl⟩
  refine ⟨_, (pss_cons (ps_ost (pv 0) (pv 1)) (pss_one (ps_ost (pv 0) (pv 2)))), ?_⟩
  refine ⟨_, rfl, _, rfl, a, A.C_UnlikeEnds, rfl, T.x_UnlikeEnds.T, T.n_UnlikeEnds_one, .inl ⟨ha, fun dx hd ne => ?_⟩⟩
  refine ⟨_, rfl, _, rfl, a, A.C_UnlikeEnds, rfl, T.x_UnlikeEnds.T, T.n_UnlikeEnds_other, .inr ⟨dx, _, upd_same, by rw [upd_ne ne, upd_same], by simp, ?_⟩⟩
  exact q dx _ hd (by rw [upd_ne (Ne.symm ne), upd_same]) (by rw [upd_same]; rfl) fun b o nb e => by rw [upd_ne (ne_of_none e hd), upd_ne nb, upd_ne (ne_of_none e hd)]; exact e
theorem ok_x_NoSuchPort (T : Txt P w K mg A) : FnOk P w K mg base CX0 1 T.x_NoSuchPort.fI T.x_NoSuchPort.fd ["self", "value"] (spX A.C_NoSuchPort ["value"]) := by
  refine T.x_NoSuchPort.F.ok sc_x_NoSuchPort (fun vs H Q E h => ?_) fun cdv A1 outer s H vs Q E hr h => ?_
  · obtain ⟨a, ys, rfl, hl, _⟩ := h
    rw [List.length_cons, hl]
    rfl
  obtain ⟨a, ys, rfl, hl, ha, q⟩ := h
  obtain ⟨y0, rfl⟩ : ∃ y0, ys = [y0] := by
    match ys, hl with
    | [y0], _ => exact ⟨y0, rfl⟩
  refine ⟨_, (pss_one (ps_osg (pv 0) (pv 1))), ?_⟩
  refine ⟨_, rfl, _, rfl, a, A.C_NoSuchPort, rfl, T.x_NoSuchPort.T, T.n_NoSuchPort_value, ha, fun dx hd ne => ?_⟩
  exact q dx _ hd upd_same (by rw [upd_ne ne, upd_same]; rfl) fun b o nb e => by rw [upd_ne nb, upd_ne (ne_of_none e hd)]; exact e
theorem ok_x_NoEnd (T : Txt P w K mg A) : FnOk P w K mg base CX0 1 T.x_NoEnd.fI T.x_NoEnd.fd ["self", "value"] (spX A.C_NoEnd ["value"]) := by
  refine T.x_NoEnd.F.ok sc_x_NoEnd (fun vs H Q E h => ?_) fun cdv A1 outer s H vs Q E hr h => ?_
  · obtain ⟨a, ys, rfl, hl, _⟩ := h
    rw [List.length_cons, hl]
    rfl
  obtain ⟨a, ys, rfl, hl, ha, q⟩ := h
  obtain ⟨y0, rfl⟩ : ∃ y0, ys = [y0] := by
    match ys, hl with
    | [y0], _ => exact ⟨y0, rfl⟩
  refine ⟨_, (pss_one (ps_osg (pv 0) (pv 1))), ?_⟩
  refine ⟨_, rfl, _, rfl, a, A.C_NoEnd, rfl, T.x_NoEnd.T, T.n_NoEnd_value, ha, fun dx hd ne => ?_⟩
  exact q dx _ hd upd_same (by rw [upd_ne ne, upd_same]; rfl) fun b o nb e => by rw [upd_ne nb, upd_ne (ne_of_none e hd)]; exact e
theorem ok_x_NoSuchLink (T : Txt P w K mg A) : FnOk P w K mg base CX0 1 T.x_NoSuchLink.fI T.x_NoSuchLink.fd ["self", "value"] (spX A.C_NoSuchLink ["value"]) := by
  refine T.x_NoSuchLink.F.ok sc_x_NoSuchLink (fun vs H Q E h => ?_) fun cdv A1 outer s H vs Q E hr h => ?_
  · obtain ⟨a, ys, rfl, hl, _⟩ := h
    rw [List.length_cons, hl]
    rfl
  obtain ⟨a, ys, rfl, hl, ha, q⟩ := h
  obtain ⟨y0, rfl⟩ : ∃ y0, ys = [y0] := by
    match ys, hl with
    | [y0], _ => exact ⟨y0, rfl⟩
  refine ⟨_, (pss_one (ps_osg (pv 0) (pv 1))), ?_⟩
  refine ⟨_, rfl, _, rfl, a, A.C_NoSuchLink, rfl, T.x_NoSuchLink.T, T.n_NoSuchLink_value, ha, fun dx hd ne => ?_⟩
  exact q dx _ hd upd_same (by rw [upd_ne ne, upd_same]; rfl) fun b o nb e => by rw [upd_ne nb, upd_ne (ne_of_none e hd)]; exact e
theorem ok_x_NoSuchFrame (T : Txt P w K mg A) : FnOk P w K mg base CX0 1 T.x_NoSuchFrame.fI T.x_NoSuchFrame.fd ["self", "number"] (spX A.C_NoSuchFrame ["number"]) := by
  refine T.x_NoSuchFrame.F.ok sc_x_NoSuchFrame (fun vs H Q E h => ?_) fun cdv A1 outer s H vs Q E hr h => ?_
  · obtain ⟨a, ys, rfl, hl, _⟩ := h
    rw [List.length_cons, hl]
    rfl
  obtain ⟨a, ys, rfl, hl, ha, q⟩ := h
  obtain ⟨y0, rfl⟩ : ∃ y0, ys = [y0] := by
    match ys, hl with
    | [y0], _ => exact ⟨y0, rfl⟩
  refine ⟨_, (pss_one (ps_osg (pv 0) (pv 1))), ?_⟩
  refine ⟨_, rfl, _, rfl, a, A.C_NoSuchFrame, rfl, T.x_NoSuchFrame.T, T.n_NoSuchFrame_number, ha, fun dx hd ne => ?_⟩
  exact q dx _ hd upd_same (by rw [upd_ne ne, upd_same]; rfl) fun b o nb e => by rw [upd_ne nb, upd_ne (ne_of_none e hd)]; exact e
theorem ok__law_next {f : Addr} {fd : FuncData} (F : Fun K "_law_next" "_law_next" s__law_next f fd) (zI : mg "int" = none) (zL : mg "len" = none) : FnOk P w K mg base (L2.CX P w) 1 f fd ["_law_drawn", "_law_many"] (spF (BB K dr rs cl) 2 nextF) := by
  refine F.okX sc__law_next (fun vs H Q E h => h.1) fun cdv A outer s H vs Q E hr h => ?_
  obtain ⟨_, os, S, Hf, hx, hn, d, z, q⟩ := h
  unfold nextF at q
  split at q
  · rename_i m
    split at q
    · rename_i ok
      obtain ⟨v, v2, rfl, h1, h2⟩ := as2 z
      cases (show Rep _ _ _ v .drw from h1)
      cases (show Rep _ _ _ v2 (.int m) from h2)
      have nd := sc__law_next.nd
      refine ⟨_, pss_cons (ps_asg (pv 0) (pg_lst (n := 3) rfl (pgs_cons (pg_name (i := 2) nd rfl (.inl rfl)) (pgs_cons (pg_name (i := 3) nd rfl (.inl rfl)) (pgs_cons (pg_name (i := 4) nd rfl (.inl rfl)) pgs_nil)))))
        (pss_cons (ps_set (i := 5) nd rfl (.inl rfl) (pe_op op_modN (pe_callTy call_int1 (by rfl) zI (by decide +kernel) (pa_cons (pv 3) pa_nil)) (pe_callB call_len_seq (by rfl) zL PySem.boot_len (pa_cons (pv 2) pa_nil))))
        (pss_cons (ps_asg (pe_op op_add (pv 3) pe_int) (pg_sub (pv 0) pe_int set_list))
        (pss_cons (ps_if (pt_cmpR op_gt (pe_ix ix_list (pv 4) (pv 5) (fun _ _ => rfl)) pe_int (nomark _))
          (pss_cons (ps_set (i := 6) nd rfl (.inl rfl) (pe_op op_modN (pe_callTy call_int1 (by rfl) zI (by decide +kernel) (pa_cons (pe_ix ix_list (pv 4) (pv 5) (fun _ _ => rfl)) pa_nil)) (pv 1)))
            (pss_cons (ps_asg (pe_op op_fdivN (pe_ix ix_list (pv 4) (pv 5) (fun _ _ => rfl)) (pv 1)) (pg_sub (pv 4) (pv 5) set_list)) (pss_one (ps_ret (pv 6))))) pss_nil)
        (pss_cons (ps_set (i := 7) nd rfl (.inl rfl) (pe_op op_modN (pe_op op_pow (pe_op op_add (pe_op op_add (pe_op op_modN (pe_callTy call_int1 (by rfl) zI (by decide +kernel) (pa_cons (pe_ix ix_list (pv 2) (pv 5) (fun _ _ => rfl)) pa_nil)) pe_int) (pe_op op_mul pe_int (pv 3))) pe_int) pe_int) pe_int))
        (pss_cons (ps_set (i := 8) nd rfl (.inl rfl) (pe_op op_modN (pe_op op_pow (pe_op op_add (pe_op op_add (pv 7) (pe_op op_mul (pe_op op_mul pe_int (pv 3)) (pv 3))) pe_int) pe_int) pe_int))
        (pss_one (ps_ret (pe_op op_modN (pe_op op_modN (pe_callTy call_int1 (by rfl) zI (by decide +kernel) (pa_cons (pe_op op_add (pe_op op_mul (pv 8) pe_int) (pv 7)) pa_nil)) pe_int) (pv 1))))))))), ?_⟩
      obtain ⟨k1, k2, k3, k4, k5, k6, k7⟩ := ok
      obtain ⟨j, ej⟩ : ∃ j : Nat, S.turn.fmod (S.cells.length : Int) = (j : Int) := ⟨_, (Int.toNat_of_nonneg (fmod_rng (by omega)).1).symm⟩
      have ejs : spotS S = j := by
        unfold spotS
        rw [← Int.fmod_eq_emod_of_nonneg _ (by omega), ej]
        rfl
      have jl : j < S.cells.length := by have := (fmod_rng (a := S.turn) (m := (S.cells.length : Int)) (by omega)).2; omega
      have jr : j < S.rests.length := by omega
      have hdr : H dr = some (.lst [.ref cl, .int S.turn, .ref rs]) := d.dr
      have hrs : H rs = some (.lst (S.rests.map V.int)) := d.rs
      have hcl : H cl = some (.lst (S.cells.map V.int)) := hx _ _ d.cl
      have gC : S.cells[j]? = some (S.cells.getD j 0) := by rw [List.getD_eq_getElem?_getD, List.getElem?_eq_getElem jl]; rfl
      have gR : S.rests[j]? = some (S.rests.getD j 0) := by rw [List.getD_eq_getElem?_getD, List.getElem?_eq_getElem jr]; rfl
      have tC' : atI (S.cells.map V.int) (j : Int) = some (.int (S.cells.getD j 0)) := atI_nat (by rw [List.getElem?_map, gC]; rfl)
      have tR' : atI (S.rests.map V.int) (j : Int) = some (.int (S.rests.getD j 0)) := atI_nat (by rw [List.getElem?_map, gR]; rfl)
      have cdr : cl ≠ dr := by
        intro e
        have := hn.1
        have h2 := d.cl
        rw [show (BB K dr rs cl).cl = (BB K dr rs cl).dr from e] at h2
        rw [h2] at this; cases this
      have crs : cl ≠ rs := by
        intro e
        have := hn.2
        have h2 := d.cl
        rw [show (BB K dr rs cl).cl = (BB K dr rs cl).rs from e] at h2
        rw [h2] at this; cases this
      have hne : rs ≠ dr := fun e => d.ne e.symm
      let H1 : Hp := upd H dr (.lst [.ref cl, .int (S.turn + 1), .ref rs])
      have h1dr : H1 dr = some (.lst [.ref cl, .int (S.turn + 1), .ref rs]) := upd_same
      have h1rs : H1 rs = some (.lst (S.rests.map V.int)) := by show upd H dr _ rs = _; rw [upd_ne hne]; exact hrs
      have h1cl : H1 cl = some (.lst (S.cells.map V.int)) := by show upd H dr _ cl = _; rw [upd_ne cdr]; exact hcl
      have n1 : Nx (BB K dr rs cl) Hf H Hf H1 := by
        refine ⟨Ex.refl _, fun a u e => ?_, fun _ _ z => .inl z, fun a u e q1 q2 => ?_, hn⟩
        · have : a ≠ dr := fun q => by rw [q] at e; rw [hn.1] at e; cases e
          show upd H dr _ a = _
          rw [upd_ne this]; exact hx _ _ e
        · show upd H dr _ a = _
          rw [upd_ne q1]; exact e
      have e5 : (fun i j => V.int (i.fmod j)) S.turn (((S.cells.map V.int).length : Nat) : Int) = V.int (j : Int) := by show V.int _ = _; rw [List.length_map, ej]
      refine ⟨_, rfl, dr, _, rfl, .inl (.inl hdr), rfl, _, _, rfl, _, _, rfl, _, _, rfl, rfl, ?_⟩
      refine ⟨_, rfl, .inl ⟨_, rfl, _, rfl, cl, _, rfl, .inl (.inl (.inl hcl)), S.turn, _, rfl, rfl, ?_, ?_⟩⟩
      · rw [List.length_map]; omega
      refine ⟨_, rfl, S.turn, 1, rfl, rfl, _, rfl, dr, _, 1, 1, rfl, rfl, hdr, rfl, ?_⟩
      refine ⟨_, rfl, _, rfl, rs, _, j, _, rfl, ?_, .inl (.inl h1rs), tR', _, _, rfl, rfl, _, rfl, ?_⟩
      · exact e5
      refine ifB (fun hb => ?_) (fun hb => ?_)
      · have hp : 0 < S.rests.getD (spotS S) 0 := by rw [ejs]; exact of_decide_eq_true hb
        refine ⟨_, rfl, _, rfl, rs, _, j, _, rfl, e5, .inl (.inl h1rs), tR', .inl ⟨_, rfl, _, rfl, _, m, rfl, rfl, by omega, ?_⟩⟩
        refine ⟨_, rfl, _, rfl, rs, _, j, _, rfl, e5, .inl (.inl h1rs), tR', _, rfl, _, m, rfl, rfl, ⟨by omega, by omega⟩, _, rfl, _, rfl, rs, _, _, j, rfl, e5, h1rs, ?_, ?_⟩
        · unfold ixN
          rw [if_pos (by omega), if_pos (by rw [List.length_map]; omega)]; simp
        refine ⟨_, rfl, ?_⟩
        refine q _ Hf _ (n1.trans (H2 := upd H1 rs (.lst ((S.rests.map V.int).set j (.int ((S.rests.getD j 0).fdiv m))))) ?_) ?_ ?_
        · refine ⟨Ex.refl _, fun a u e => ?_, fun _ _ z => .inl z, fun a u e q1 q2 => ?_, hn⟩
          · have : a ≠ rs := fun q => by rw [q] at e; rw [hn.2] at e; cases e
            rw [upd_ne this]; exact n1.exf _ _ e
          · rw [upd_ne q2]; exact e
        · refine ⟨?_, d.cl, ?_, d.ne⟩
          · show upd H1 rs _ dr = some (.lst [.ref cl, .int (nextS S m).turn, .ref rs])
            rw [upd_ne (Ne.symm hne)]; exact h1dr
          · show upd H1 rs _ rs = some (.lst ((nextS S m).rests.map V.int))
            rw [upd_same]
            unfold nextS
            rw [if_pos hp, ejs, List.map_set]
        · show Rep K dr Hf (.int ((S.rests.getD j 0).fmod m)) (.int (nextV S m))
          unfold nextV
          rw [if_pos hp, ejs]
          exact .int _
      · have hp : ¬ 0 < S.rests.getD (spotS S) 0 := by rw [ejs]; exact of_decide_eq_false hb
        refine ⟨_, rfl, _, rfl, cl, _, j, _, rfl, e5, .inl (.inl h1cl), tC', .inl ⟨_, rfl, _, 2147483549, rfl, rfl, (by decide : (2147483549 : Int) ≠ 0), _, rfl, 69621, S.turn, rfl, rfl, .inl ⟨by decide, by decide⟩, _, _, rfl, rfl, _, 9973, rfl, rfl, _, 3, rfl, rfl, ⟨by decide, by decide, ?_⟩, _, 2147483579, rfl, rfl, (by decide : (2147483579 : Int) ≠ 0), ?_⟩⟩
        · have b1 := fmod_rng (a := S.cells.getD j 0) (m := 2147483549) (by decide)
          show ((S.cells.getD j 0).fmod 2147483549 + 69621 * S.turn + 9973).natAbs < 2 ^ 64
          omega
        refine ⟨_, rfl, _, rfl, 4099, S.turn, rfl, rfl, .inl ⟨by decide, by decide⟩, _, rfl, _, S.turn, rfl, rfl, .inr ⟨by omega, by omega⟩, _, _, rfl, rfl, _, 71, rfl, rfl, _, 3, rfl, rfl, ⟨by decide, by decide, ?_⟩, _, 2147483549, rfl, rfl, (by decide : (2147483549 : Int) ≠ 0), ?_⟩
        · have b1 := fmod_rng (a := ((S.cells.getD j 0).fmod 2147483549 + 69621 * S.turn + 9973) ^ 3) (m := 2147483579) (by decide)
          have b2 : S.turn * S.turn ≤ 33554432 * 33554432 := Int.mul_le_mul (by omega) (by omega) k4 (by decide)
          have b3 : 0 ≤ S.turn * S.turn := Int.mul_nonneg k4 k4
          show ((((S.cells.getD j 0).fmod 2147483549 + 69621 * S.turn + 9973) ^ 3).fmod 2147483579 + 4099 * S.turn * S.turn + 71).natAbs < 2 ^ 64
          rw [Int.mul_assoc]
          omega
        refine ⟨_, rfl, _, 2147483423, rfl, rfl, .inr ⟨by decide, by decide⟩, _, rfl, _, _, rfl, rfl, .inl ⟨_, rfl, _, 4611686018427387847, rfl, rfl, (by decide : (4611686018427387847 : Int) ≠ 0), _, rfl, _, m, rfl, rfl, by omega, ?_⟩⟩
        refine q _ Hf H1 n1 ?_ ?_
        · refine ⟨?_, d.cl, ?_, d.ne⟩
          · exact h1dr
          · show H1 rs = some (.lst ((nextS S m).rests.map V.int))
            unfold nextS
            rw [if_neg hp]
            exact h1rs
        · show Rep K dr Hf (.int _) (.int (nextV S m))
          unfold nextV againS mixS
          rw [if_neg hp, ejs]
          exact .int _
    · exact q.elim
  · exact q.elim

theorem ok__law_draws {f : Addr} {fd : FuncData} (F : Fun K "_law_draws" "_law_draws" s__law_draws f fd) (zI : mg "int" = none) (zL : mg "len" = none) (zS : mg "list" = none) : FnOk P w K mg base (L2.CX P w) 1 f fd ["_law_script"] (spDraws K) := by
  refine F.okX sc__law_draws (fun vs H Q E h => ?_) fun cdv A outer s H vs Q E hr h => ?_
  · obtain ⟨a, ns, rfl, _⟩ := h
    rfl
  obtain ⟨a, ns, rfl, hS, hl, q⟩ := h
  have nd := sc__law_draws.nd
  refine ⟨_, pss_cons (ps_set (i := 1) nd rfl (.inl rfl) (pe_op op_cat (pe_callTy call_list_of (by rfl) zS (by decide +kernel) (pa_cons (pe_slice sl_list (pv 0) po_none (po_some pe_int)) pa_nil))
      (pe_op op_rep (pe_lst (pa_cons pe_int pa_nil)) (pe_callTy call_int1 (by rfl) zI (by decide +kernel) (pa_cons (pe_cmpR op_eq (pe_callB call_len_seq (by rfl) zL PySem.boot_len (pa_cons (pv 0) pa_nil)) pe_int (nomark _)) pa_nil)))))
    (pss_one (ps_ret (pe_lst (pa_cons (pv 1) (pa_cons pe_int (pa_cons (pe_lc (own := [("_law_cell", 2)]) rfl nd (pi_list (pv 1)) (blk_of (N := nsDraws) (sc := defScope s__law_draws) rfl rfl ⟨rfl, by decide +kernel, by decide +kernel, by decide +kernel, by decide +kernel⟩)
      (fun _ _ _ _ _ => pg_name (i := 2) nd rfl (.inl rfl)) (fun _ _ _ _ _ => pts_nil) (fun _ _ _ _ _ => pe_op op_mul (pv 2) (pe_callTy call_int1 (by rfl) zI (by decide +kernel) (pa_cons (pe_cmpR op_ge (pv 2) (pe_op op_pow pe_int pe_int) (nomark _)) pa_nil)))) pa_nil)))))), ?_⟩
  refine ⟨_, rfl, 63, rfl, a, _, rfl, hS, fun p1 hp1 => ⟨p1, _, rfl, .inl (SqL.of upd_same), fun p2 hp2 => ⟨(by decide), fun p3 hp3 => ?_⟩⟩⟩
  have n12 : p2 ≠ p1 := fun e => by rw [e, upd_same] at hp2; cases hp2
  have n13 : p3 ≠ p1 := fun e => by rw [e, upd_ne n12.symm, upd_same] at hp3; cases hp3
  have n23 : p3 ≠ p2 := fun e => by rw [e, upd_same] at hp3; cases hp3
  have hp3' : H p3 = none := by rw [upd_ne n23, upd_ne n13] at hp3; exact hp3
  have hp2' : H p2 = none := by rw [upd_ne n12] at hp2; exact hp2
  have hS3 := ex_l (Ex.trans (Ex.new (o := .lst (cutV (ns.map V.int) none (some 63))) hp1) (Ex.trans (Ex.new (o := .lst (cutV (ns.map V.int) none (some 63))) hp2) (Ex.new (o := .lst [V.int 0]) hp3))) hS
  refine ⟨_, rfl, a, _, rfl, .inl hS3, rfl, .inr ⟨_, rfl, ?_⟩⟩
  generalize hk : (if decide (V.int (((ns.map V.int).length : Nat) : Int) = V.int 0) = true then (1 : Int) else 0) = kk
  have hk2 : kk = if ns.length = 0 then 1 else 0 := by
    rw [← hk, List.length_map]
    by_cases e : ns.length = 0
    · rw [if_pos e, if_pos (decide_eq_true (by rw [e]; rfl))]
    · rw [if_neg e, if_neg]
      intro z
      have := of_decide_eq_true z
      injection this with this
      omega
  have hk3 : kk = 0 ∨ kk = 1 := by rw [hk2]; split; exact .inr rfl; exact .inl rfl
  have ecut : cutV (ns.map V.int) none (some 63) = (ns.take 63).map V.int := cut63 hl
  have ecl : cutV (ns.map V.int) none (some 63) ++ (List.replicate kk.toNat [V.int 0]).flatten = (cellsOf ns).map V.int := by
    rw [ecut]
    unfold cellsOf
    rw [List.map_append, hk2]
    congr 1
    split <;> rfl
  have lcl : (cellsOf ns).length ≤ 64 := by
    unfold cellsOf
    rw [List.length_append, List.length_take]
    split
    · simp; omega
    · simp; omega
  refine ⟨p3, kk, [V.int 0], rfl, rfl, upd_same, by omega, by omega, (by rcases hk3 with rfl | rfl <;> decide), fun p4 hp4 => ⟨p2, p4, cutV (ns.map V.int) none (some 63), (List.replicate kk.toNat [V.int 0]).flatten, rfl, rfl, ?_, upd_same, ?_, fun p5 hp5 => ?_⟩⟩
  · have n42 : p4 ≠ p2 := fun e => by rw [e, upd_ne n23.symm, upd_same] at hp4; cases hp4
    rw [upd_ne n42.symm, upd_ne n23.symm, upd_same]
  · rw [← List.length_append, ecl, List.length_map]
    exact Nat.le_trans lcl (by decide)
  rw [ecl]
  have eH : Ex H (upd (upd (upd H p1 (.lst (cutV (ns.map V.int) none (some 63)))) p2 (.lst (cutV (ns.map V.int) none (some 63)))) p3 (.lst [V.int 0])) := Ex.trans (Ex.new hp1) (Ex.trans (Ex.new hp2) (Ex.new hp3))
  have eH5 := Ex.trans eH (Ex.trans (Ex.new hp4) (Ex.new (o := .lst ((cellsOf ns).map V.int)) hp5))
  have h5 : H p5 = none := by
    cases e : H p5 with
    | none => rfl
    | some u => rw [Ex.trans eH (Ex.new hp4) _ _ e] at hp5; cases hp5
  generalize upd (upd (upd (upd H p1 (.lst (cutV (ns.map V.int) none (some 63)))) p2 (.lst (cutV (ns.map V.int) none (some 63)))) p3 (.lst [V.int 0])) p4 _ = H4 at *
  clear hS3 eH ecl ecut hp4
  have hcl : upd H4 p5 (.lst ((cellsOf ns).map V.int)) p5 = some (.lst ((cellsOf ns).map V.int)) := upd_same
  generalize upd H4 p5 (.lst ((cellsOf ns).map V.int)) = H5 at *
  refine ⟨_, rfl, _, rfl, p5, rfl, ⟨_, .inl (.inl hcl)⟩, fun D hD => ?_⟩
  have hD0 : H D = none := by
    cases e : H D with
    | none => rfl
    | some u => rw [eH5 _ _ e] at hD; cases hD
  have n5D : p5 ≠ D := fun e => by rw [← e, hcl] at hD; cases hD
  refine lc_list (K := K) (a := p5) (xs := (cellsOf ns).map V.int) (fun i H' => Ex H H' ∧ H' p5 = some (.lst ((cellsOf ns).map V.int)) ∧ H' D = some (.lst ((((cellsOf ns).take i).map restOf).map V.int))) ⟨Ex.trans eH5 (Ex.new hD), by rw [upd_ne n5D]; exact hcl, upd_same⟩ (fun i H' _ h => .inl (.inl h.2.1)) (fun i x H' hi ⟨x1, x2, x3⟩ => ?_) fun H' ⟨x1, x2, x3⟩ => ?_
  · obtain ⟨c, hc, rfl⟩ : ∃ c, (cellsOf ns)[i]? = some c ∧ x = V.int c := by
      rw [List.getElem?_map] at hi
      cases e : (cellsOf ns)[i]? with
      | none => rw [e] at hi; cases hi
      | some c => rw [e] at hi; exact ⟨c, rfl, (Option.some.inj hi).symm⟩
    obtain ⟨hil, hie⟩ := List.getElem?_eq_some_iff.mp hc
    refine ⟨rfl, yes_go ?_⟩
    refine ⟨_, rfl, _, rfl, 10, 18, rfl, rfl, ⟨by decide, by decide, by decide⟩, c, _, rfl, rfl, .inr ⟨_, rfl, c, _, rfl, rfl, .inr ⟨?_, ?_⟩, _, x3, ?_, ?_⟩⟩
    · split <;> decide
    · split <;> decide
    · rw [List.length_map, List.length_map, List.length_take]
      have : sizeLine = sizeLine := rfl
      exact Nat.lt_of_le_of_lt (Nat.le_trans (Nat.min_le_right _ _) lcl) (by decide)
    · refine ⟨fun b u e => ?_, ?_, ?_⟩
      · rw [upd_ne (fun z => by rw [z, hD0] at e; cases e)]; exact x1 _ _ e
      · rw [upd_ne n5D]; exact x2
      · rw [upd_same, List.take_succ, hc, List.map_append, List.map_append]
        congr 3
        show [V.int (c * (if decide ((10 : Int) ^ 18 ≤ c) = true then 1 else 0))] = [V.int (restOf c)]
        unfold restOf
        by_cases z : (1000000000000000000 : Int) ≤ c
        · rw [if_pos z, if_pos (decide_eq_true (show (10 : Int) ^ 18 ≤ c from z)), Int.mul_one]
        · rw [if_neg z, if_neg (by rw [decide_eq_false (show ¬ (10 : Int) ^ 18 ≤ c from z)]; decide), Int.mul_zero]
  · rw [List.length_map, List.take_length] at x3
    refine ⟨(by show 3 ≤ sizeLine; decide), fun p hp => ?_⟩
    have pD : p ≠ D := fun e => by rw [e, x3] at hp; cases hp
    have p5' : p ≠ p5 := fun e => by rw [e, x2] at hp; cases hp
    have hp0 : H p = none := by
      cases e : H p with
      | none => rfl
      | some u => rw [x1 _ _ e] at hp; cases hp
    exact q p D p5 _ hp0 hD0 pD p5'.symm n5D (Ex.trans x1 (Ex.new hp)) upd_same (by rw [upd_ne p5'.symm]; exact x2) (by rw [upd_ne pD.symm]; exact x3)

def b__law_limits (A : Ad) : Env → Dr → SO := (sSeq (sSetF 0 (fCall gLstD (aCons (fC (.int 4094)) (aCons (fC (.int 60)) (aCons (fC (.int 8)) (aCons (fC (.int 4000)) (aCons (fC (.int 1000)) (aCons (fC (.int 6)) (aCons (fC (.int 14)) (aCons (fC (.int 5)) aNil))))))))))
  (sRet (fOp gAdd (fVar 0) (fCall gLstD (aCons (fC (.int 6)) (aCons (fC (.int 1000)) (aCons (fC (.int 400)) (aCons (fC (.int 1000000000000000000000000000000)) (aCons (fC (.int 6)) (aCons (fC (.int 12)) (aCons (fC (.int 8)) aNil)))))))))))
def F__law_limits (A : Ad) : List O → Dr → Out E := runF ns__law_limits.length (b__law_limits A)
theorem ok__law_limits (T : Txt P w K mg A) : FnOk P w K mg base (L2.CX P w) 1 T.d__law_limits.f T.d__law_limits.fd [] (spF (BB K dr rs cl) 0 (F__law_limits A)) :=
  jf_mk (k := 0) T.d__law_limits.F sc__law_limits fun cdv A1 outer s H E hr => (jb_cons (js_setF 0 sc__law_limits.nd (je_lst (ja_cons (je_globI' T.k_MOST_TAG) (ja_cons (je_globI' T.k_MOST_FRAME) (ja_cons (je_globI' T.k_MOST_ENTRIES) (ja_cons (je_globI' T.k_MOST_STATES) (ja_cons (je_globI' T.k_MOST_LISTED) (ja_cons (je_globI' T.k_MOST_BRIDGES) (ja_cons (je_globI' T.k_MOST_PORTS) (ja_cons (je_globI' T.k_MOST_LINKS) ja_nil))))))))))
  (jb_one (js_ret (je_add rfl (je_var 0) (je_lst (ja_cons (je_globI' T.k_HOPS) (ja_cons (je_globI' T.k_MOST_ARRIVALS) (ja_cons (je_globI' T.k_MOST_HOPS) (ja_cons (je_globI' T.k_MOST_COPIES) (ja_cons (je_globI' T.k_MOST_WISHES) (ja_cons (je_globI' T.k_MOST_EDITS) (ja_cons (je_globI' T.k_MOST_KEPT) ja_nil))))))))))))
def c__law_equal_e1 (A : Ad) (F : List O → Dr → Out E) : Env → Dr → Out E := (fUse 2 F (aCons (fVar 2) (aCons (fVar 3) aNil)))
def b__law_equal (A : Ad) (F : List O → Dr → Out E) : Env → Dr → SO := (sSeq (sIf (fAnd (fTst (fIsi2 "tuple" "list" (fVar 0))) (fTst (fIsi2 "tuple" "list" (fVar 1)))) (sSeq (sIf (fOr (fTst (fOp gNe (fIsi "tuple" (fVar 0)) (fIsi "tuple" (fVar 1)))) (fTst (fOp gNe (fCall gLen (aCons (fVar 0) aNil)) (fCall gLen (aCons (fVar 1) aNil))))) (sRet (fC (.bl false))) sNx)
  (sRet (fCall gAll (aCons (fLc (fItC (gZip true) (aCons (fVar 0) (aCons (fVar 1) aNil))) (tgT 2 (tgCons (tgN 2) (tgCons (tgN 3) tgNil))) fYes (c__law_equal_e1 A F) [2, 3]) aNil)))) sNx)
  (sSeq (sIf (fOr (fTst (fIsi2 "tuple" "list" (fVar 0))) (fTst (fIsi2 "tuple" "list" (fVar 1)))) (sRet (fC (.bl false))) sNx)
  (sSeq (sIf (fOr (fTst (fIsi "bool" (fVar 0))) (fTst (fIsi "bool" (fVar 1)))) (sRet (fAndV (fIsi "bool" (fVar 0)) (fAndV (fIsi "bool" (fVar 1)) (fOp gEq (fVar 0) (fVar 1))))) sNx)
  (sSeq (sIf (fOr (fTst (fOp gNe (fIsi "int" (fVar 0)) (fIsi "int" (fVar 1)))) (fTst (fOp gNe (fIsi "str" (fVar 0)) (fIsi "str" (fVar 1))))) (sRet (fC (.bl false))) sNx)
  (sRet (fAndV (fOp gEq (fOp gIsN (fVar 0) (fC .non)) (fOp gIsN (fVar 1) (fC .non))) (fOp gEq (fVar 0) (fVar 1))))))))
def F__law_equal (A : Ad) : Nat → List O → Dr → Out E
  | 0 => fun _ _ => .stk
  | n + 1 => runF ns__law_equal.length (b__law_equal A (F__law_equal A n))
theorem ok__law_equal (T : Txt P w K mg A) : ∀ n : Nat, FnOk P w K mg base (L2.CX P w) (1 + n) T.d__law_equal.f T.d__law_equal.fd ["_law_one_here", "_law_second"] (spF (BB K dr rs cl) 2 (F__law_equal A n))
  | 0 => (fnok_stk (by decide)).mono (by omega)
  | n + 1 => by
    have G := ok__law_equal T n
    exact jf_mk (k := 1 + n) T.d__law_equal.F sc__law_equal fun cdv A1 outer s H E hr => (jb_cons (js_if (JW.jt (jw_and (jt_val (je_isi2 rfl T.z_isinstance (je_var 0) T.z_tuple (by decide +kernel) T.z_list (by decide +kernel))) (jw_and1 (jt_val (je_isi2 rfl T.z_isinstance (je_var 1) T.z_tuple (by decide +kernel) T.z_list (by decide +kernel)))))) (jb_cons (js_if (JW.jt (jw_or (jt_cmp (op_neD hr.units) oj_ne (je_isi rfl T.z_isinstance (je_var 0) T.z_tuple (by decide +kernel)) (je_isi rfl T.z_isinstance (je_var 1) T.z_tuple (by decide +kernel))) (jw_or1 (jt_cmp (op_neD hr.units) oj_ne (je_len rfl T.z_len (ja_cons (je_var 0) ja_nil)) (je_len rfl T.z_len (ja_cons (je_var 1) ja_nil)))))) (jb_one (js_ret je_bl)) jb_nil)
  (jb_one (js_ret (je_callB (cr_all rfl) cj_all T.z_all (ja_cons (je_lc (own := [("_law_left", 2), ("_law_right", 3)]) rfl sc__law_equal.nd (ji_zip rfl T.z_zip (ja_cons (je_var 0) (ja_cons (je_var 1) ja_nil))) (blk_of (N := ns__law_equal) (sc := defScope s__law_equal) rfl rfl ⟨rfl, by decide +kernel, by decide +kernel, by decide +kernel, by decide +kernel⟩) (fun _ _ _ _ _ => (jg_tup rfl rfl (jgs_cons (jg_name 2 sc__law_equal.nd) (jgs_cons (jg_name 3 sc__law_equal.nd) jgs_nil)))) jts_nil (fun _ _ _ _ _ => (je_call G hr T.d__law_equal.m T.d__law_equal.k T.d__law_equal.b takes0 (ja_cons (je_var 2) (ja_cons (je_var 3) ja_nil))))) ja_nil))))) jb_nil)
  (jb_cons (js_if (JW.jt (jw_or (jt_val (je_isi2 rfl T.z_isinstance (je_var 0) T.z_tuple (by decide +kernel) T.z_list (by decide +kernel))) (jw_or1 (jt_val (je_isi2 rfl T.z_isinstance (je_var 1) T.z_tuple (by decide +kernel) T.z_list (by decide +kernel)))))) (jb_one (js_ret je_bl)) jb_nil)
  (jb_cons (js_if (JW.jt (jw_or (jt_val (je_isi rfl T.z_isinstance (je_var 0) T.z_bool (by decide +kernel))) (jw_or1 (jt_val (je_isi rfl T.z_isinstance (je_var 1) T.z_bool (by decide +kernel)))))) (jb_one (js_ret (je_and (je_isi rfl T.z_isinstance (je_var 0) T.z_bool (by decide +kernel)) (je_and (je_isi rfl T.z_isinstance (je_var 1) T.z_bool (by decide +kernel)) (je_one (je_cmp (op_eqD hr.units) oj_eq (je_var 0) (je_var 1))))))) jb_nil)
  (jb_cons (js_if (JW.jt (jw_or (jt_cmp (op_neD hr.units) oj_ne (je_isi rfl T.z_isinstance (je_var 0) T.z_int (by decide +kernel)) (je_isi rfl T.z_isinstance (je_var 1) T.z_int (by decide +kernel))) (jw_or1 (jt_cmp (op_neD hr.units) oj_ne (je_isi rfl T.z_isinstance (je_var 0) T.z_str (by decide +kernel)) (je_isi rfl T.z_isinstance (je_var 1) T.z_str (by decide +kernel)))))) (jb_one (js_ret je_bl)) jb_nil)
  (jb_one (js_ret (je_and (je_cmp (op_eqD hr.units) oj_eq (je_cmp op_isN oj_isN (je_var 0) je_non) (je_cmp op_isN oj_isN (je_var 1) je_non)) (je_one (je_cmp (op_eqD hr.units) oj_eq (je_var 0) (je_var 1))))))))))
abbrev q__law_equal : Nat := 6
def b__law_own (A : Ad) : Env → Dr → SO := (sRet (fCall gSum (aCons (fCall gLstD (aCons (fCall gIntOf (aCons (fIsV (xt_BadTag A) (fVar 0)) aNil)) (aCons (fCall gIntOf (aCons (fIsV (xt_BadFrame A) (fVar 0)) aNil)) (aCons (fCall gIntOf (aCons (fIsV (xt_BadText A) (fVar 0)) aNil)) (aCons (fCall gIntOf (aCons (fIsV (xt_BadNumber A) (fVar 0)) aNil)) (aCons (fCall gIntOf (aCons (fIsV (xt_BadList A) (fVar 0)) aNil)) (aCons (fCall gIntOf (aCons (fIsV (xt_BadEntry A) (fVar 0)) aNil)) (aCons (fCall gIntOf (aCons (fIsV (xt_BadRows A) (fVar 0)) aNil)) (aCons (fCall gIntOf (aCons (fIsV (xt_BadNet A) (fVar 0)) aNil)) (aCons (fCall gIntOf (aCons (fIsV (xt_BadLinks A) (fVar 0)) aNil)) (aCons (fCall gIntOf (aCons (fIsV (xt_NoPort A) (fVar 0)) aNil)) (aCons (fCall gIntOf (aCons (fIsV (xt_BadLine A) (fVar 0)) aNil)) (aCons (fCall gIntOf (aCons (fIsV (xt_BadWish A) (fVar 0)) aNil)) (aCons (fCall gIntOf (aCons (fIsV (xt_BadEdit A) (fVar 0)) aNil)) (aCons (fCall gIntOf (aCons (fIsV (xt_Broken A) (fVar 0)) aNil)) (aCons (fCall gIntOf (aCons (fIsV (xt_NotIn A) (fVar 0)) aNil)) (aCons (fCall gIntOf (aCons (fIsV (xt_Lost A) (fVar 0)) aNil)) (aCons (fCall gIntOf (aCons (fIsV (xt_Unheard A) (fVar 0)) aNil)) (aCons (fCall gIntOf (aCons (fIsV (xt_Calm A) (fVar 0)) aNil)) (aCons (fCall gIntOf (aCons (fIsV (xt_TooFar A) (fVar 0)) aNil)) (aCons (fCall gIntOf (aCons (fIsV (xt_TooWide A) (fVar 0)) aNil)) (aCons (fCall gIntOf (aCons (fIsV (xt_TooMany A) (fVar 0)) aNil)) (aCons (fCall gIntOf (aCons (fIsV (xt_Crowded A) (fVar 0)) aNil)) (aCons (fCall gIntOf (aCons (fIsV (xt_UnlikeEnds A) (fVar 0)) aNil)) (aCons (fCall gIntOf (aCons (fIsV (xt_NothingToUndo A) (fVar 0)) aNil)) (aCons (fCall gIntOf (aCons (fIsV (xt_NoSuchPort A) (fVar 0)) aNil)) (aCons (fCall gIntOf (aCons (fIsV (xt_NoEnd A) (fVar 0)) aNil)) (aCons (fCall gIntOf (aCons (fIsV (xt_NoSuchLink A) (fVar 0)) aNil)) (aCons (fCall gIntOf (aCons (fIsV (xt_NoSuchFrame A) (fVar 0)) aNil)) aNil))))))))))))))))))))))))))))) aNil)))
def F__law_own (A : Ad) : List O → Dr → Out E := runF ns__law_own.length (b__law_own A)
theorem ok__law_own (T : Txt P w K mg A) : FnOk P w K mg base (L2.CX P w) 1 T.d__law_own.f T.d__law_own.fd ["_law_e"] (spF (BB K dr rs cl) 1 (F__law_own A)) :=
  jf_mk (k := 0) T.d__law_own.F sc__law_own fun cdv A1 outer s H E hr => (jb_one (js_ret (je_callB (cr_sum rfl) cj_sum T.z_sum (ja_cons (je_lst (ja_cons (je_callTy (CallR.or call_int1 call_int_str) cj_int T.z_int (ja_cons (je_isV (exCol_ok T.xall T.xc_BadTag) T.z_isinstance (je_var 0) T.t_BadTag) ja_nil)) (ja_cons (je_callTy (CallR.or call_int1 call_int_str) cj_int T.z_int (ja_cons (je_isV (exCol_ok T.xall T.xc_BadFrame) T.z_isinstance (je_var 0) T.t_BadFrame) ja_nil)) (ja_cons (je_callTy (CallR.or call_int1 call_int_str) cj_int T.z_int (ja_cons (je_isV (exCol_ok T.xall T.xc_BadText) T.z_isinstance (je_var 0) T.t_BadText) ja_nil)) (ja_cons (je_callTy (CallR.or call_int1 call_int_str) cj_int T.z_int (ja_cons (je_isV (exCol_ok T.xall T.xc_BadNumber) T.z_isinstance (je_var 0) T.t_BadNumber) ja_nil)) (ja_cons (je_callTy (CallR.or call_int1 call_int_str) cj_int T.z_int (ja_cons (je_isV (exCol_ok T.xall T.xc_BadList) T.z_isinstance (je_var 0) T.t_BadList) ja_nil)) (ja_cons (je_callTy (CallR.or call_int1 call_int_str) cj_int T.z_int (ja_cons (je_isV (exCol_ok T.xall T.xc_BadEntry) T.z_isinstance (je_var 0) T.t_BadEntry) ja_nil)) (ja_cons (je_callTy (CallR.or call_int1 call_int_str) cj_int T.z_int (ja_cons (je_isV (exCol_ok T.xall T.xc_BadRows) T.z_isinstance (je_var 0) T.t_BadRows) ja_nil)) (ja_cons (je_callTy (CallR.or call_int1 call_int_str) cj_int T.z_int (ja_cons (je_isV (exCol_ok T.xall T.xc_BadNet) T.z_isinstance (je_var 0) T.t_BadNet) ja_nil)) (ja_cons (je_callTy (CallR.or call_int1 call_int_str) cj_int T.z_int (ja_cons (je_isV (exCol_ok T.xall T.xc_BadLinks) T.z_isinstance (je_var 0) T.t_BadLinks) ja_nil)) (ja_cons (je_callTy (CallR.or call_int1 call_int_str) cj_int T.z_int (ja_cons (je_isV (exCol_ok T.xall T.xc_NoPort) T.z_isinstance (je_var 0) T.t_NoPort) ja_nil)) (ja_cons (je_callTy (CallR.or call_int1 call_int_str) cj_int T.z_int (ja_cons (je_isV (exCol_ok T.xall T.xc_BadLine) T.z_isinstance (je_var 0) T.t_BadLine) ja_nil)) (ja_cons (je_callTy (CallR.or call_int1 call_int_str) cj_int T.z_int (ja_cons (je_isV (exCol_ok T.xall T.xc_BadWish) T.z_isinstance (je_var 0) T.t_BadWish) ja_nil)) (ja_cons (je_callTy (CallR.or call_int1 call_int_str) cj_int T.z_int (ja_cons (je_isV (exCol_ok T.xall T.xc_BadEdit) T.z_isinstance (je_var 0) T.t_BadEdit) ja_nil)) (ja_cons (je_callTy (CallR.or call_int1 call_int_str) cj_int T.z_int (ja_cons (je_isV (exCol_ok T.xall T.xc_Broken) T.z_isinstance (je_var 0) T.t_Broken) ja_nil)) (ja_cons (je_callTy (CallR.or call_int1 call_int_str) cj_int T.z_int (ja_cons (je_isV (exCol_ok T.xall T.xc_NotIn) T.z_isinstance (je_var 0) T.t_NotIn) ja_nil)) (ja_cons (je_callTy (CallR.or call_int1 call_int_str) cj_int T.z_int (ja_cons (je_isV (exCol_ok T.xall T.xc_Lost) T.z_isinstance (je_var 0) T.t_Lost) ja_nil)) (ja_cons (je_callTy (CallR.or call_int1 call_int_str) cj_int T.z_int (ja_cons (je_isV (exCol_ok T.xall T.xc_Unheard) T.z_isinstance (je_var 0) T.t_Unheard) ja_nil)) (ja_cons (je_callTy (CallR.or call_int1 call_int_str) cj_int T.z_int (ja_cons (je_isV (exCol_ok T.xall T.xc_Calm) T.z_isinstance (je_var 0) T.t_Calm) ja_nil)) (ja_cons (je_callTy (CallR.or call_int1 call_int_str) cj_int T.z_int (ja_cons (je_isV (exCol_ok T.xall T.xc_TooFar) T.z_isinstance (je_var 0) T.t_TooFar) ja_nil)) (ja_cons (je_callTy (CallR.or call_int1 call_int_str) cj_int T.z_int (ja_cons (je_isV (exCol_ok T.xall T.xc_TooWide) T.z_isinstance (je_var 0) T.t_TooWide) ja_nil)) (ja_cons (je_callTy (CallR.or call_int1 call_int_str) cj_int T.z_int (ja_cons (je_isV (exCol_ok T.xall T.xc_TooMany) T.z_isinstance (je_var 0) T.t_TooMany) ja_nil)) (ja_cons (je_callTy (CallR.or call_int1 call_int_str) cj_int T.z_int (ja_cons (je_isV (exCol_ok T.xall T.xc_Crowded) T.z_isinstance (je_var 0) T.t_Crowded) ja_nil)) (ja_cons (je_callTy (CallR.or call_int1 call_int_str) cj_int T.z_int (ja_cons (je_isV (exCol_ok T.xall T.xc_UnlikeEnds) T.z_isinstance (je_var 0) T.t_UnlikeEnds) ja_nil)) (ja_cons (je_callTy (CallR.or call_int1 call_int_str) cj_int T.z_int (ja_cons (je_isV (exCol_ok T.xall T.xc_NothingToUndo) T.z_isinstance (je_var 0) T.t_NothingToUndo) ja_nil)) (ja_cons (je_callTy (CallR.or call_int1 call_int_str) cj_int T.z_int (ja_cons (je_isV (exCol_ok T.xall T.xc_NoSuchPort) T.z_isinstance (je_var 0) T.t_NoSuchPort) ja_nil)) (ja_cons (je_callTy (CallR.or call_int1 call_int_str) cj_int T.z_int (ja_cons (je_isV (exCol_ok T.xall T.xc_NoEnd) T.z_isinstance (je_var 0) T.t_NoEnd) ja_nil)) (ja_cons (je_callTy (CallR.or call_int1 call_int_str) cj_int T.z_int (ja_cons (je_isV (exCol_ok T.xall T.xc_NoSuchLink) T.z_isinstance (je_var 0) T.t_NoSuchLink) ja_nil)) (ja_cons (je_callTy (CallR.or call_int1 call_int_str) cj_int T.z_int (ja_cons (je_isV (exCol_ok T.xall T.xc_NoSuchFrame) T.z_isinstance (je_var 0) T.t_NoSuchFrame) ja_nil)) ja_nil))))))))))))))))))))))))))))) ja_nil))))
def b__law_wrong (A : Ad) : Env → Dr → SO := (sSeq (sIf (fOr (fNot (fTst (fIsV (xt_TagError A) (fVar 0)))) (fNot (fTst (fIsV (xt_ValueError A) (fVar 0))))) (sRet (fC (.bl false))) sNx)
  (sRet (fAndV (fNotV (fIsV (xt_NoSuch A) (fVar 0))) (fAndV (fNotV (fIsV (xt_LookupError A) (fVar 0))) (fOp gEq (fUse 1 (F__law_own A) (aCons (fVar 0) aNil)) (fC (.int 1)))))))
def F__law_wrong (A : Ad) : List O → Dr → Out E := runF ns__law_wrong.length (b__law_wrong A)
theorem ok__law_wrong (T : Txt P w K mg A) : FnOk P w K mg base (L2.CX P w) 2 T.d__law_wrong.f T.d__law_wrong.fd ["_law_e"] (spF (BB K dr rs cl) 1 (F__law_wrong A)) :=
  jf_mk (k := 1) T.d__law_wrong.F sc__law_wrong fun cdv A1 outer s H E hr => (jb_cons (js_if (JW.jt (jw_or (jt_not (jt_val (je_isV (exCol_ok T.xall T.xc_TagError) T.z_isinstance (je_var 0) T.t_TagError))) (jw_or1 (jt_not (jt_val (je_isVb (exCol_ok T.xall T.xc_ValueError) T.z_isinstance (je_var 0) T.z_ValueError (by decide +kernel))))))) (jb_one (js_ret je_bl)) jb_nil)
  (jb_one (js_ret (je_and (je_not (je_isV (exCol_ok T.xall T.xc_NoSuch) T.z_isinstance (je_var 0) T.t_NoSuch)) (je_and (je_not (je_isVb (exCol_ok T.xall T.xc_LookupError) T.z_isinstance (je_var 0) T.z_LookupError (by decide +kernel))) (je_one (je_cmp (op_eqD hr.units) oj_eq (je_call (ok__law_own T) (hr.mono (by first | omega | decide)) T.d__law_own.m T.d__law_own.k T.d__law_own.b (takes_of rfl rfl rfl rfl) (ja_cons (je_var 0) ja_nil)) je_int)))))))
def b__law_one (A : Ad) : Env → Dr → SO := (sRet (fOp gIx (fVar 1) (fUse 2 nextF (aCons (fVar 0) (aCons (fCall gLen (aCons (fVar 1) aNil)) aNil)))))
def F__law_one (A : Ad) : List O → Dr → Out E := runF ns__law_one.length (b__law_one A)
theorem ok__law_one (T : Txt P w K mg A) : FnOk P w K mg base (L2.CX P w) 2 T.d__law_one.f T.d__law_one.fd ["_law_drawn", "_law_items"] (spF (BB K dr rs cl) 2 (F__law_one A)) :=
  jf_mk (k := 1) T.d__law_one.F sc__law_one fun cdv A1 outer s H E hr => (jb_one (js_ret (je_ix rfl (je_var 1) (je_call (ok__law_next T.d__law_next.F T.z_int T.z_len) (hr.mono (by first | omega | decide)) T.d__law_next.m T.d__law_next.k T.d__law_next.b (takes_of rfl rfl rfl rfl) (ja_cons (je_var 0) (ja_cons (je_len rfl T.z_len (ja_cons (je_var 1) ja_nil)) ja_nil))))))
def b__law_lacks (A : Ad) : Env → Dr → SO := (sSeq (sIf (fOr (fNot (fTst (fIsV (xt_NoSuch A) (fVar 0)))) (fNot (fTst (fIsV (xt_LookupError A) (fVar 0))))) (sRet (fC (.bl false))) sNx)
  (sRet (fAndV (fNotV (fIsV (xt_TagError A) (fVar 0))) (fAndV (fNotV (fIsV (xt_ValueError A) (fVar 0))) (fOp gEq (fUse 1 (F__law_own A) (aCons (fVar 0) aNil)) (fC (.int 1)))))))
def F__law_lacks (A : Ad) : List O → Dr → Out E := runF ns__law_lacks.length (b__law_lacks A)
theorem ok__law_lacks (T : Txt P w K mg A) : FnOk P w K mg base (L2.CX P w) 2 T.d__law_lacks.f T.d__law_lacks.fd ["_law_e"] (spF (BB K dr rs cl) 1 (F__law_lacks A)) :=
  jf_mk (k := 1) T.d__law_lacks.F sc__law_lacks fun cdv A1 outer s H E hr => (jb_cons (js_if (JW.jt (jw_or (jt_not (jt_val (je_isV (exCol_ok T.xall T.xc_NoSuch) T.z_isinstance (je_var 0) T.t_NoSuch))) (jw_or1 (jt_not (jt_val (je_isVb (exCol_ok T.xall T.xc_LookupError) T.z_isinstance (je_var 0) T.z_LookupError (by decide +kernel))))))) (jb_one (js_ret je_bl)) jb_nil)
  (jb_one (js_ret (je_and (je_not (je_isV (exCol_ok T.xall T.xc_TagError) T.z_isinstance (je_var 0) T.t_TagError)) (je_and (je_not (je_isVb (exCol_ok T.xall T.xc_ValueError) T.z_isinstance (je_var 0) T.z_ValueError (by decide +kernel))) (je_one (je_cmp (op_eqD hr.units) oj_eq (je_call (ok__law_own T) (hr.mono (by first | omega | decide)) T.d__law_own.m T.d__law_own.k T.d__law_own.b (takes_of rfl rfl rfl rfl) (ja_cons (je_var 0) ja_nil)) je_int)))))))
def c__law_one_kept_e1 (A : Ad) : Env → Dr → Out E := (fUse 1 (F__law_wrong A) (aCons (fOp gIx (fVar 3) (fC (.int 0))) aNil))
def c__law_one_kept_e2 (A : Ad) : Env → Dr → Out E := (fUse 1 (F__law_lacks A) (aCons (fOp gIx (fVar 3) (fC (.int 0))) aNil))
def c__law_one_kept_e3 (A : Ad) : Env → Dr → Out E := (fUse 2 (F__law_equal A q__law_equal) (aCons (fOp gIx (fVar 3) (fC (.int 1))) (aCons (fVar 0) aNil)))
def b__law_one_kept (A : Ad) : Env → Dr → SO := (sSeq (sSetF 1 (fCall gLstD (aCons (fCall gLstD (aCons (fExV A.C_BadTag ["value"] (aCons (fVar 0) aNil)) (aCons (fExf (okN (xl_value A)) "value" (fExV A.C_BadTag ["value"] (aCons (fVar 0) aNil))) aNil))) (aCons (fCall gLstD (aCons (fExV A.C_BadFrame ["index"] (aCons (fVar 0) aNil)) (aCons (fExf (okN (xl_index A)) "index" (fExV A.C_BadFrame ["index"] (aCons (fVar 0) aNil))) aNil))) (aCons (fCall gLstD (aCons (fExV A.C_BadText ["index"] (aCons (fVar 0) aNil)) (aCons (fExf (okN (xl_index A)) "index" (fExV A.C_BadText ["index"] (aCons (fVar 0) aNil))) aNil))) (aCons (fCall gLstD (aCons (fExV A.C_BadNumber ["value"] (aCons (fVar 0) aNil)) (aCons (fExf (okN (xl_value A)) "value" (fExV A.C_BadNumber ["value"] (aCons (fVar 0) aNil))) aNil))) (aCons (fCall gLstD (aCons (fExV A.C_BadList ["index"] (aCons (fVar 0) aNil)) (aCons (fExf (okN (xl_index A)) "index" (fExV A.C_BadList ["index"] (aCons (fVar 0) aNil))) aNil))) (aCons (fCall gLstD (aCons (fExV A.C_BadRows ["index"] (aCons (fVar 0) aNil)) (aCons (fExf (okN (xl_index A)) "index" (fExV A.C_BadRows ["index"] (aCons (fVar 0) aNil))) aNil))) (aCons (fCall gLstD (aCons (fExV A.C_BadLinks ["index"] (aCons (fVar 0) aNil)) (aCons (fExf (okN (xl_index A)) "index" (fExV A.C_BadLinks ["index"] (aCons (fVar 0) aNil))) aNil))) (aCons (fCall gLstD (aCons (fExV A.C_NoPort ["value"] (aCons (fVar 0) aNil)) (aCons (fExf (okN (xl_value A)) "value" (fExV A.C_NoPort ["value"] (aCons (fVar 0) aNil))) aNil))) (aCons (fCall gLstD (aCons (fExV A.C_BadLine ["line"] (aCons (fVar 0) aNil)) (aCons (fExf (okN (xl_line A)) "line" (fExV A.C_BadLine ["line"] (aCons (fVar 0) aNil))) aNil))) (aCons (fCall gLstD (aCons (fExV A.C_BadWish ["index"] (aCons (fVar 0) aNil)) (aCons (fExf (okN (xl_index A)) "index" (fExV A.C_BadWish ["index"] (aCons (fVar 0) aNil))) aNil))) (aCons (fCall gLstD (aCons (fExV A.C_BadEdit ["index"] (aCons (fVar 0) aNil)) (aCons (fExf (okN (xl_index A)) "index" (fExV A.C_BadEdit ["index"] (aCons (fVar 0) aNil))) aNil))) (aCons (fCall gLstD (aCons (fExV A.C_NotIn ["frame"] (aCons (fVar 0) aNil)) (aCons (fExf (okN (xl_frame A)) "frame" (fExV A.C_NotIn ["frame"] (aCons (fVar 0) aNil))) aNil))) (aCons (fCall gLstD (aCons (fExV A.C_Lost ["index"] (aCons (fVar 0) aNil)) (aCons (fExf (okN (xl_index A)) "index" (fExV A.C_Lost ["index"] (aCons (fVar 0) aNil))) aNil))) (aCons (fCall gLstD (aCons (fExV A.C_TooFar ["hops"] (aCons (fVar 0) aNil)) (aCons (fExf (okN (xl_hops A)) "hops" (fExV A.C_TooFar ["hops"] (aCons (fVar 0) aNil))) aNil))) (aCons (fCall gLstD (aCons (fExV A.C_Crowded ["hops"] (aCons (fVar 0) aNil)) (aCons (fExf (okN (xl_hops A)) "hops" (fExV A.C_Crowded ["hops"] (aCons (fVar 0) aNil))) aNil))) aNil)))))))))))))))))
  (sSeq (sSetF 2 (fCall gLstD (aCons (fCall gLstD (aCons (fExV A.C_NoSuchPort ["value"] (aCons (fVar 0) aNil)) (aCons (fExf (okN (xl_value A)) "value" (fExV A.C_NoSuchPort ["value"] (aCons (fVar 0) aNil))) aNil))) (aCons (fCall gLstD (aCons (fExV A.C_NoEnd ["value"] (aCons (fVar 0) aNil)) (aCons (fExf (okN (xl_value A)) "value" (fExV A.C_NoEnd ["value"] (aCons (fVar 0) aNil))) aNil))) (aCons (fCall gLstD (aCons (fExV A.C_NoSuchLink ["value"] (aCons (fVar 0) aNil)) (aCons (fExf (okN (xl_value A)) "value" (fExV A.C_NoSuchLink ["value"] (aCons (fVar 0) aNil))) aNil))) (aCons (fCall gLstD (aCons (fExV A.C_NoSuchFrame ["number"] (aCons (fVar 0) aNil)) (aCons (fExf (okN (xl_number A)) "number" (fExV A.C_NoSuchFrame ["number"] (aCons (fVar 0) aNil))) aNil))) aNil))))))
  (sSeq (sIf (fOr (fNot (fTst (fCall gAll (aCons (fLc (fItrs true (fVar 1)) (tgN 3) fYes (c__law_one_kept_e1 A) [3]) aNil)))) (fNot (fTst (fCall gAll (aCons (fLc (fItrs true (fVar 2)) (tgN 3) fYes (c__law_one_kept_e2 A) [3]) aNil))))) (sRet (fC (.bl false))) sNx)
  (sRet (fCall gAll (aCons (fLc (fItrs true (fOp gAdd (fVar 1) (fVar 2))) (tgN 3) fYes (c__law_one_kept_e3 A) [3]) aNil))))))
def F__law_one_kept (A : Ad) : List O → Dr → Out E := runF ns__law_one_kept.length (b__law_one_kept A)
theorem ok__law_one_kept (T : Txt P w K mg A) : FnOk P w K mg base (L2.CX P w) 8 T.d__law_one_kept.f T.d__law_one_kept.fd ["_law_value"] (spF (BB K dr rs cl) 1 (F__law_one_kept A)) :=
  jf_mk (k := 7) T.d__law_one_kept.F sc__law_one_kept fun cdv A1 outer s H E hr => (jb_cons (js_setF 1 sc__law_one_kept.nd (je_lst (ja_cons (je_lst (ja_cons (je_exV (Dn.OexC.g T.x_BadTag.T) T.x_BadTag.iC T.x_BadTag.tI (ok_x_BadTag T) (hr.mono (by first | omega | decide)) T.x_BadTag.b T.x_BadTag.m (by decide) (ja_cons (je_var 0) ja_nil)) (ja_cons (je_exf (exFld_ok T.xf_value) (je_exV (Dn.OexC.g T.x_BadTag.T) T.x_BadTag.iC T.x_BadTag.tI (ok_x_BadTag T) (hr.mono (by first | omega | decide)) T.x_BadTag.b T.x_BadTag.m (by decide) (ja_cons (je_var 0) ja_nil))) ja_nil))) (ja_cons (je_lst (ja_cons (je_exV (Dn.OexC.g T.x_BadFrame.T) T.x_BadFrame.iC T.x_BadFrame.tI (ok_x_BadFrame T) (hr.mono (by first | omega | decide)) T.x_BadFrame.b T.x_BadFrame.m (by decide) (ja_cons (je_var 0) ja_nil)) (ja_cons (je_exf (exFld_ok T.xf_index) (je_exV (Dn.OexC.g T.x_BadFrame.T) T.x_BadFrame.iC T.x_BadFrame.tI (ok_x_BadFrame T) (hr.mono (by first | omega | decide)) T.x_BadFrame.b T.x_BadFrame.m (by decide) (ja_cons (je_var 0) ja_nil))) ja_nil))) (ja_cons (je_lst (ja_cons (je_exV (Dn.OexC.g T.x_BadText.T) T.x_BadText.iC T.x_BadText.tI (ok_x_BadText T) (hr.mono (by first | omega | decide)) T.x_BadText.b T.x_BadText.m (by decide) (ja_cons (je_var 0) ja_nil)) (ja_cons (je_exf (exFld_ok T.xf_index) (je_exV (Dn.OexC.g T.x_BadText.T) T.x_BadText.iC T.x_BadText.tI (ok_x_BadText T) (hr.mono (by first | omega | decide)) T.x_BadText.b T.x_BadText.m (by decide) (ja_cons (je_var 0) ja_nil))) ja_nil))) (ja_cons (je_lst (ja_cons (je_exV (Dn.OexC.g T.x_BadNumber.T) T.x_BadNumber.iC T.x_BadNumber.tI (ok_x_BadNumber T) (hr.mono (by first | omega | decide)) T.x_BadNumber.b T.x_BadNumber.m (by decide) (ja_cons (je_var 0) ja_nil)) (ja_cons (je_exf (exFld_ok T.xf_value) (je_exV (Dn.OexC.g T.x_BadNumber.T) T.x_BadNumber.iC T.x_BadNumber.tI (ok_x_BadNumber T) (hr.mono (by first | omega | decide)) T.x_BadNumber.b T.x_BadNumber.m (by decide) (ja_cons (je_var 0) ja_nil))) ja_nil))) (ja_cons (je_lst (ja_cons (je_exV (Dn.OexC.g T.x_BadList.T) T.x_BadList.iC T.x_BadList.tI (ok_x_BadList T) (hr.mono (by first | omega | decide)) T.x_BadList.b T.x_BadList.m (by decide) (ja_cons (je_var 0) ja_nil)) (ja_cons (je_exf (exFld_ok T.xf_index) (je_exV (Dn.OexC.g T.x_BadList.T) T.x_BadList.iC T.x_BadList.tI (ok_x_BadList T) (hr.mono (by first | omega | decide)) T.x_BadList.b T.x_BadList.m (by decide) (ja_cons (je_var 0) ja_nil))) ja_nil))) (ja_cons (je_lst (ja_cons (je_exV (Dn.OexC.g T.x_BadRows.T) T.x_BadRows.iC T.x_BadRows.tI (ok_x_BadRows T) (hr.mono (by first | omega | decide)) T.x_BadRows.b T.x_BadRows.m (by decide) (ja_cons (je_var 0) ja_nil)) (ja_cons (je_exf (exFld_ok T.xf_index) (je_exV (Dn.OexC.g T.x_BadRows.T) T.x_BadRows.iC T.x_BadRows.tI (ok_x_BadRows T) (hr.mono (by first | omega | decide)) T.x_BadRows.b T.x_BadRows.m (by decide) (ja_cons (je_var 0) ja_nil))) ja_nil))) (ja_cons (je_lst (ja_cons (je_exV (Dn.OexC.g T.x_BadLinks.T) T.x_BadLinks.iC T.x_BadLinks.tI (ok_x_BadLinks T) (hr.mono (by first | omega | decide)) T.x_BadLinks.b T.x_BadLinks.m (by decide) (ja_cons (je_var 0) ja_nil)) (ja_cons (je_exf (exFld_ok T.xf_index) (je_exV (Dn.OexC.g T.x_BadLinks.T) T.x_BadLinks.iC T.x_BadLinks.tI (ok_x_BadLinks T) (hr.mono (by first | omega | decide)) T.x_BadLinks.b T.x_BadLinks.m (by decide) (ja_cons (je_var 0) ja_nil))) ja_nil))) (ja_cons (je_lst (ja_cons (je_exV (Dn.OexC.g T.x_NoPort.T) T.x_NoPort.iC T.x_NoPort.tI (ok_x_NoPort T) (hr.mono (by first | omega | decide)) T.x_NoPort.b T.x_NoPort.m (by decide) (ja_cons (je_var 0) ja_nil)) (ja_cons (je_exf (exFld_ok T.xf_value) (je_exV (Dn.OexC.g T.x_NoPort.T) T.x_NoPort.iC T.x_NoPort.tI (ok_x_NoPort T) (hr.mono (by first | omega | decide)) T.x_NoPort.b T.x_NoPort.m (by decide) (ja_cons (je_var 0) ja_nil))) ja_nil))) (ja_cons (je_lst (ja_cons (je_exV (Dn.OexC.g T.x_BadLine.T) T.x_BadLine.iC T.x_BadLine.tI (ok_x_BadLine T) (hr.mono (by first | omega | decide)) T.x_BadLine.b T.x_BadLine.m (by decide) (ja_cons (je_var 0) ja_nil)) (ja_cons (je_exf (exFld_ok T.xf_line) (je_exV (Dn.OexC.g T.x_BadLine.T) T.x_BadLine.iC T.x_BadLine.tI (ok_x_BadLine T) (hr.mono (by first | omega | decide)) T.x_BadLine.b T.x_BadLine.m (by decide) (ja_cons (je_var 0) ja_nil))) ja_nil))) (ja_cons (je_lst (ja_cons (je_exV (Dn.OexC.g T.x_BadWish.T) T.x_BadWish.iC T.x_BadWish.tI (ok_x_BadWish T) (hr.mono (by first | omega | decide)) T.x_BadWish.b T.x_BadWish.m (by decide) (ja_cons (je_var 0) ja_nil)) (ja_cons (je_exf (exFld_ok T.xf_index) (je_exV (Dn.OexC.g T.x_BadWish.T) T.x_BadWish.iC T.x_BadWish.tI (ok_x_BadWish T) (hr.mono (by first | omega | decide)) T.x_BadWish.b T.x_BadWish.m (by decide) (ja_cons (je_var 0) ja_nil))) ja_nil))) (ja_cons (je_lst (ja_cons (je_exV (Dn.OexC.g T.x_BadEdit.T) T.x_BadEdit.iC T.x_BadEdit.tI (ok_x_BadEdit T) (hr.mono (by first | omega | decide)) T.x_BadEdit.b T.x_BadEdit.m (by decide) (ja_cons (je_var 0) ja_nil)) (ja_cons (je_exf (exFld_ok T.xf_index) (je_exV (Dn.OexC.g T.x_BadEdit.T) T.x_BadEdit.iC T.x_BadEdit.tI (ok_x_BadEdit T) (hr.mono (by first | omega | decide)) T.x_BadEdit.b T.x_BadEdit.m (by decide) (ja_cons (je_var 0) ja_nil))) ja_nil))) (ja_cons (je_lst (ja_cons (je_exV (Dn.OexC.g T.x_NotIn.T) T.x_NotIn.iC T.x_NotIn.tI (ok_x_NotIn T) (hr.mono (by first | omega | decide)) T.x_NotIn.b T.x_NotIn.m (by decide) (ja_cons (je_var 0) ja_nil)) (ja_cons (je_exf (exFld_ok T.xf_frame) (je_exV (Dn.OexC.g T.x_NotIn.T) T.x_NotIn.iC T.x_NotIn.tI (ok_x_NotIn T) (hr.mono (by first | omega | decide)) T.x_NotIn.b T.x_NotIn.m (by decide) (ja_cons (je_var 0) ja_nil))) ja_nil))) (ja_cons (je_lst (ja_cons (je_exV (Dn.OexC.g T.x_Lost.T) T.x_Lost.iC T.x_Lost.tI (ok_x_Lost T) (hr.mono (by first | omega | decide)) T.x_Lost.b T.x_Lost.m (by decide) (ja_cons (je_var 0) ja_nil)) (ja_cons (je_exf (exFld_ok T.xf_index) (je_exV (Dn.OexC.g T.x_Lost.T) T.x_Lost.iC T.x_Lost.tI (ok_x_Lost T) (hr.mono (by first | omega | decide)) T.x_Lost.b T.x_Lost.m (by decide) (ja_cons (je_var 0) ja_nil))) ja_nil))) (ja_cons (je_lst (ja_cons (je_exV (Dn.OexC.g T.x_TooFar.T) T.x_TooFar.iC T.x_TooFar.tI (ok_x_TooFar T) (hr.mono (by first | omega | decide)) T.x_TooFar.b T.x_TooFar.m (by decide) (ja_cons (je_var 0) ja_nil)) (ja_cons (je_exf (exFld_ok T.xf_hops) (je_exV (Dn.OexC.g T.x_TooFar.T) T.x_TooFar.iC T.x_TooFar.tI (ok_x_TooFar T) (hr.mono (by first | omega | decide)) T.x_TooFar.b T.x_TooFar.m (by decide) (ja_cons (je_var 0) ja_nil))) ja_nil))) (ja_cons (je_lst (ja_cons (je_exV (Dn.OexC.g T.x_Crowded.T) T.x_Crowded.iC T.x_Crowded.tI (ok_x_Crowded T) (hr.mono (by first | omega | decide)) T.x_Crowded.b T.x_Crowded.m (by decide) (ja_cons (je_var 0) ja_nil)) (ja_cons (je_exf (exFld_ok T.xf_hops) (je_exV (Dn.OexC.g T.x_Crowded.T) T.x_Crowded.iC T.x_Crowded.tI (ok_x_Crowded T) (hr.mono (by first | omega | decide)) T.x_Crowded.b T.x_Crowded.m (by decide) (ja_cons (je_var 0) ja_nil))) ja_nil))) ja_nil)))))))))))))))))
  (jb_cons (js_setF 2 sc__law_one_kept.nd (je_lst (ja_cons (je_lst (ja_cons (je_exV T.x_NoSuchPort.T T.x_NoSuchPort.iC T.x_NoSuchPort.tI (ok_x_NoSuchPort T) (hr.mono (by first | omega | decide)) T.x_NoSuchPort.b T.x_NoSuchPort.m (by decide) (ja_cons (je_var 0) ja_nil)) (ja_cons (je_exf (exFld_ok T.xf_value) (je_exV T.x_NoSuchPort.T T.x_NoSuchPort.iC T.x_NoSuchPort.tI (ok_x_NoSuchPort T) (hr.mono (by first | omega | decide)) T.x_NoSuchPort.b T.x_NoSuchPort.m (by decide) (ja_cons (je_var 0) ja_nil))) ja_nil))) (ja_cons (je_lst (ja_cons (je_exV T.x_NoEnd.T T.x_NoEnd.iC T.x_NoEnd.tI (ok_x_NoEnd T) (hr.mono (by first | omega | decide)) T.x_NoEnd.b T.x_NoEnd.m (by decide) (ja_cons (je_var 0) ja_nil)) (ja_cons (je_exf (exFld_ok T.xf_value) (je_exV T.x_NoEnd.T T.x_NoEnd.iC T.x_NoEnd.tI (ok_x_NoEnd T) (hr.mono (by first | omega | decide)) T.x_NoEnd.b T.x_NoEnd.m (by decide) (ja_cons (je_var 0) ja_nil))) ja_nil))) (ja_cons (je_lst (ja_cons (je_exV T.x_NoSuchLink.T T.x_NoSuchLink.iC T.x_NoSuchLink.tI (ok_x_NoSuchLink T) (hr.mono (by first | omega | decide)) T.x_NoSuchLink.b T.x_NoSuchLink.m (by decide) (ja_cons (je_var 0) ja_nil)) (ja_cons (je_exf (exFld_ok T.xf_value) (je_exV T.x_NoSuchLink.T T.x_NoSuchLink.iC T.x_NoSuchLink.tI (ok_x_NoSuchLink T) (hr.mono (by first | omega | decide)) T.x_NoSuchLink.b T.x_NoSuchLink.m (by decide) (ja_cons (je_var 0) ja_nil))) ja_nil))) (ja_cons (je_lst (ja_cons (je_exV T.x_NoSuchFrame.T T.x_NoSuchFrame.iC T.x_NoSuchFrame.tI (ok_x_NoSuchFrame T) (hr.mono (by first | omega | decide)) T.x_NoSuchFrame.b T.x_NoSuchFrame.m (by decide) (ja_cons (je_var 0) ja_nil)) (ja_cons (je_exf (exFld_ok T.xf_number) (je_exV T.x_NoSuchFrame.T T.x_NoSuchFrame.iC T.x_NoSuchFrame.tI (ok_x_NoSuchFrame T) (hr.mono (by first | omega | decide)) T.x_NoSuchFrame.b T.x_NoSuchFrame.m (by decide) (ja_cons (je_var 0) ja_nil))) ja_nil))) ja_nil))))))
  (jb_cons (js_if (JW.jt (jw_or (jt_not (jt_val (je_callB (cr_all rfl) cj_all T.z_all (ja_cons (je_lc (own := [("_law_pair", 3)]) rfl sc__law_one_kept.nd (ji_seqs rfl (je_var 1)) (blk_of (N := ns__law_one_kept) (sc := defScope s__law_one_kept) rfl rfl ⟨rfl, by decide +kernel, by decide +kernel, by decide +kernel, by decide +kernel⟩) (fun _ _ _ _ _ => (jg_name 3 sc__law_one_kept.nd)) jts_nil (fun _ _ _ _ _ => (je_call (ok__law_wrong T) (hr.mono (by first | omega | decide)) T.d__law_wrong.m T.d__law_wrong.k T.d__law_wrong.b takes0 (ja_cons (je_ix rfl (je_var 3) je_int) ja_nil)))) ja_nil)))) (jw_or1 (jt_not (jt_val (je_callB (cr_all rfl) cj_all T.z_all (ja_cons (je_lc (own := [("_law_pair", 3)]) rfl sc__law_one_kept.nd (ji_seqs rfl (je_var 2)) (blk_of (N := ns__law_one_kept) (sc := defScope s__law_one_kept) rfl rfl ⟨rfl, by decide +kernel, by decide +kernel, by decide +kernel, by decide +kernel⟩) (fun _ _ _ _ _ => (jg_name 3 sc__law_one_kept.nd)) jts_nil (fun _ _ _ _ _ => (je_call (ok__law_lacks T) (hr.mono (by first | omega | decide)) T.d__law_lacks.m T.d__law_lacks.k T.d__law_lacks.b takes0 (ja_cons (je_ix rfl (je_var 3) je_int) ja_nil)))) ja_nil))))))) (jb_one (js_ret je_bl)) jb_nil)
  (jb_one (js_ret (je_callB (cr_all rfl) cj_all T.z_all (ja_cons (je_lc (own := [("_law_pair", 3)]) rfl sc__law_one_kept.nd (ji_seqs rfl (je_add rfl (je_var 1) (je_var 2))) (blk_of (N := ns__law_one_kept) (sc := defScope s__law_one_kept) rfl rfl ⟨rfl, by decide +kernel, by decide +kernel, by decide +kernel, by decide +kernel⟩) (fun _ _ _ _ _ => (jg_name 3 sc__law_one_kept.nd)) jts_nil (fun _ _ _ _ _ => (je_call (ok__law_equal T q__law_equal) (hr.mono (by first | omega | decide)) T.d__law_equal.m T.d__law_equal.k T.d__law_equal.b takes0 (ja_cons (je_ix rfl (je_var 3) je_int) (ja_cons (je_var 0) ja_nil))))) ja_nil)))))))
def c__law_two_kept_e1 (A : Ad) : Env → Dr → Out E := (fUse 1 (F__law_wrong A) (aCons (fVar 7) aNil))
def c__law_two_kept_e2 (A : Ad) : Env → Dr → Out E := (fUse 2 (F__law_equal A q__law_equal) (aCons (fVar 8) (aCons (fCall gTupD (aCons (fVar 0) (aCons (fVar 1) aNil))) aNil)))
def b__law_two_kept (A : Ad) : Env → Dr → SO := (sSeq (sPar 2 3 (aCons (fExV A.C_BadEntry ["part", "index"] (aCons (fVar 0) (aCons (fVar 1) aNil))) (aCons (fExV A.C_BadNet ["bridge", "port"] (aCons (fVar 0) (aCons (fVar 1) aNil))) aNil)))
  (sSeq (sPar 4 5 (aCons (fExV A.C_Broken ["index", "frame"] (aCons (fVar 0) (aCons (fVar 1) aNil))) (aCons (fExV A.C_UnlikeEnds ["one", "other"] (aCons (fVar 0) (aCons (fVar 1) aNil))) aNil)))
  (sSeq (sIf (fNot (fTst (fCall gAll (aCons (fLc (fItrs true (fCall gLstD (aCons (fVar 2) (aCons (fVar 3) (aCons (fVar 4) (aCons (fVar 5) aNil)))))) (tgN 7) fYes (c__law_two_kept_e1 A) [7]) aNil)))) (sRet (fC (.bl false))) sNx)
  (sSeq (sSetF 6 (fCall gLstD (aCons (fCall gTupD (aCons (fExf (okN (xl_part A)) "part" (fVar 2)) (aCons (fExf (okN (xl_index A)) "index" (fVar 2)) aNil))) (aCons (fCall gTupD (aCons (fExf (okN (xl_bridge A)) "bridge" (fVar 3)) (aCons (fExf (okN (xl_port A)) "port" (fVar 3)) aNil))) (aCons (fCall gTupD (aCons (fExf (okN (xl_index A)) "index" (fVar 4)) (aCons (fExf (okN (xl_frame A)) "frame" (fVar 4)) aNil))) aNil)))))
  (sRet (fCall gAll (aCons (fLc (fItrs true (fOp gAdd (fVar 6) (fCall gLstD (aCons (fCall gTupD (aCons (fExf (okN (xl_one A)) "one" (fVar 5)) (aCons (fExf (okN (xl_other A)) "other" (fVar 5)) aNil))) aNil)))) (tgN 8) fYes (c__law_two_kept_e2 A) [8]) aNil)))))))
def F__law_two_kept (A : Ad) : List O → Dr → Out E := runF ns__law_two_kept.length (b__law_two_kept A)
theorem ok__law_two_kept (T : Txt P w K mg A) : FnOk P w K mg base (L2.CX P w) 8 T.d__law_two_kept.f T.d__law_two_kept.fd ["_law_value", "_law_more"] (spF (BB K dr rs cl) 2 (F__law_two_kept A)) :=
  jf_mk (k := 7) T.d__law_two_kept.F sc__law_two_kept fun cdv A1 outer s H E hr => (jb_cons (js_par 2 3 rfl sc__law_two_kept.nd (ja_cons (je_exV (Dn.OexC.g T.x_BadEntry.T) T.x_BadEntry.iC T.x_BadEntry.tI (ok_x_BadEntry T) (hr.mono (by first | omega | decide)) T.x_BadEntry.b T.x_BadEntry.m (by decide) (ja_cons (je_var 0) (ja_cons (je_var 1) ja_nil))) (ja_cons (je_exV (Dn.OexC.g T.x_BadNet.T) T.x_BadNet.iC T.x_BadNet.tI (ok_x_BadNet T) (hr.mono (by first | omega | decide)) T.x_BadNet.b T.x_BadNet.m (by decide) (ja_cons (je_var 0) (ja_cons (je_var 1) ja_nil))) ja_nil)))
  (jb_cons (js_par 4 5 rfl sc__law_two_kept.nd (ja_cons (je_exV (Dn.OexC.g T.x_Broken.T) T.x_Broken.iC T.x_Broken.tI (ok_x_Broken T) (hr.mono (by first | omega | decide)) T.x_Broken.b T.x_Broken.m (by decide) (ja_cons (je_var 0) (ja_cons (je_var 1) ja_nil))) (ja_cons (je_exV (Dn.OexC.g T.x_UnlikeEnds.T) T.x_UnlikeEnds.iC T.x_UnlikeEnds.tI (ok_x_UnlikeEnds T) (hr.mono (by first | omega | decide)) T.x_UnlikeEnds.b T.x_UnlikeEnds.m (by decide) (ja_cons (je_var 0) (ja_cons (je_var 1) ja_nil))) ja_nil)))
  (jb_cons (js_if (jt_not (jt_val (je_callB (cr_all rfl) cj_all T.z_all (ja_cons (je_lc (own := [("_law_e", 7)]) rfl sc__law_two_kept.nd (ji_seqs rfl (je_lst (ja_cons (je_var 2) (ja_cons (je_var 3) (ja_cons (je_var 4) (ja_cons (je_var 5) ja_nil)))))) (blk_of (N := ns__law_two_kept) (sc := defScope s__law_two_kept) rfl rfl ⟨rfl, by decide +kernel, by decide +kernel, by decide +kernel, by decide +kernel⟩) (fun _ _ _ _ _ => (jg_name 7 sc__law_two_kept.nd)) jts_nil (fun _ _ _ _ _ => (je_call (ok__law_wrong T) (hr.mono (by first | omega | decide)) T.d__law_wrong.m T.d__law_wrong.k T.d__law_wrong.b takes0 (ja_cons (je_var 7) ja_nil)))) ja_nil)))) (jb_one (js_ret je_bl)) jb_nil)
  (jb_cons (js_setF 6 sc__law_two_kept.nd (je_lst (ja_cons (je_tup (ja_cons (je_exf (exFld_ok T.xf_part) (je_var 2)) (ja_cons (je_exf (exFld_ok T.xf_index) (je_var 2)) ja_nil))) (ja_cons (je_tup (ja_cons (je_exf (exFld_ok T.xf_bridge) (je_var 3)) (ja_cons (je_exf (exFld_ok T.xf_port) (je_var 3)) ja_nil))) (ja_cons (je_tup (ja_cons (je_exf (exFld_ok T.xf_index) (je_var 4)) (ja_cons (je_exf (exFld_ok T.xf_frame) (je_var 4)) ja_nil))) ja_nil)))))
  (jb_one (js_ret (je_callB (cr_all rfl) cj_all T.z_all (ja_cons (je_lc (own := [("_law_pair", 8)]) rfl sc__law_two_kept.nd (ji_seqs rfl (je_add rfl (je_var 6) (je_lst (ja_cons (je_tup (ja_cons (je_exf (exFld_ok T.xf_one) (je_var 5)) (ja_cons (je_exf (exFld_ok T.xf_other) (je_var 5)) ja_nil))) ja_nil)))) (blk_of (N := ns__law_two_kept) (sc := defScope s__law_two_kept) rfl rfl ⟨rfl, by decide +kernel, by decide +kernel, by decide +kernel, by decide +kernel⟩) (fun _ _ _ _ _ => (jg_name 8 sc__law_two_kept.nd)) jts_nil (fun _ _ _ _ _ => (je_call (ok__law_equal T q__law_equal) (hr.mono (by first | omega | decide)) T.d__law_equal.m T.d__law_equal.k T.d__law_equal.b takes0 (ja_cons (je_var 8) (ja_cons (je_tup (ja_cons (je_var 0) (ja_cons (je_var 1) ja_nil))) ja_nil))))) ja_nil))))))))
def c_law_e1 (A : Ad) : Env → Dr → Out E := (fUse 1 (F__law_wrong A) (aCons (fVar 8) aNil))
def b_law_t1 (A : Ad) : Env → Dr → SO := (sSeq (sPar 6 7 (aCons (fUse 2 (F__law_one A) (aCons (fVar 1) (aCons (fVar 5) aNil))) (aCons (fUse 2 (F__law_one A) (aCons (fVar 1) (aCons (fVar 5) aNil))) aNil)))
  (sIf (fOr (fNot (fTst (fUse 1 (F__law_one_kept A) (aCons (fVar 6) aNil)))) (fNot (fTst (fUse 2 (F__law_two_kept A) (aCons (fVar 6) (aCons (fVar 7) aNil)))))) (sRet (fC (.bl false))) sNx))
def b_law_t2 (A : Ad) : Env → Dr → SO := (sSeq (sSetF 5 (fCall gLstD (aCons (fC .non) (aCons (fC (.bl true)) (aCons (fC (.int 0)) (aCons (fUn gNeg (fC (.int 1))) (aCons (fOp gPow (fC (.int 10)) (fC (.int 30))) (aCons (fVar 4) (aCons (fCall gTupD aNil) (aCons (fCall gTupD (aCons (fC (.int 1)) (aCons (fC (.int 2)) aNil))) (aCons (fC (.str "a")) (aCons (fCall gLstD (aCons (fC (.int 1)) aNil)) (aCons (fOp gAdd (fC (.int 1)) (fUse 2 nextF (aCons (fVar 1) (aCons (fC (.int 4094)) aNil)))) aNil)))))))))))))
  (b_law_t1 A))
def b_law_l1 (A : Ad) : Env → Dr → SO := (sSeq (sSetF 4 (fIf (fTst (fOp gLtA (fVar 3) (fCall gLenN (aCons (fVar 0) aNil)))) (fOp gMod (fCall gIntOf (aCons (fOp gIxN (fVar 0) (fVar 3)) aNil)) (fOp gPow (fC (.int 10)) (fC (.int 40)))) (fVar 3)))
  (b_law_t2 A))
def b_law_t3 (A : Ad) : Env → Dr → SO := (sSeq (sFor (fItC gRng1 (aCons (fC (.int 6)) aNil)) (tgN 3) (b_law_l1 A))
  (sRet (fC (.bl true))))
def b_law_t4 (A : Ad) : Env → Dr → SO := (sSeq (sIf (fNot (fTst (fCall gAll (aCons (fLc (fItrs true (fCall gLstD (aCons (fExV0 A.C_Unheard) (aCons (fExV0 A.C_Calm) (aCons (fExV0 A.C_TooWide) (aCons (fExV0 A.C_TooMany) (aCons (fExV0 A.C_NothingToUndo) aNil))))))) (tgN 8) fYes (c_law_e1 A) [8]) aNil)))) (sRet (fC (.bl false))) sNx)
  (b_law_t3 A))
def b_law_t5 (A : Ad) : Env → Dr → SO := (sSeq (sIf (fNot (fTst (fUse 2 (F__law_equal A q__law_equal) (aCons (fUse 0 (F__law_limits A) aNil) (aCons (fVar 2) aNil))))) (sRet (fC (.bl false))) sNx)
  (b_law_t4 A))
def b_law (A : Ad) : Env → Dr → SO := (sSeq (sSetF 2 (fCall gLstD (aCons (fC (.int 4094)) (aCons (fC (.int 60)) (aCons (fC (.int 8)) (aCons (fC (.int 4000)) (aCons (fC (.int 1000)) (aCons (fC (.int 6)) (aCons (fC (.int 14)) (aCons (fC (.int 5)) (aCons (fC (.int 6)) (aCons (fC (.int 1000)) (aCons (fC (.int 400)) (aCons (fOp gPow (fC (.int 10)) (fC (.int 30))) (aCons (fC (.int 6)) (aCons (fC (.int 12)) (aCons (fC (.int 8)) aNil)))))))))))))))))
  (b_law_t5 A))
theorem ok_law {f : Addr} {fd : FuncData} (F : Fun K "law" "law" s_law f fd) (T : Txt P w K mg A) (hg : ∀ ns : List Int, ns.length ≤ 63 → ∃ S', b_law A (startL ns_law.length ns) (startS ns) = .rt (.v (.bl true)) S') : FnOk P w K mg base (L2.CX P w) 9 f fd ["_law_script"] (spLaw K) :=
  law_mk (k := 7) F sc_law T.d__law_draws (ok__law_draws T.d__law_draws.F T.z_int T.z_len T.z_list) rfl (by decide)
    (fun cdv A1 outer s H E hr => ps_set (i := 1) sc_law.nd rfl (by first | exact .inl rfl | exact .inr rfl) (pe_call (ok__law_draws T.d__law_draws.F T.z_int T.z_len T.z_list) (hr.mono (by first | omega | decide)) rfl T.d__law_draws.m T.d__law_draws.k T.d__law_draws.b .nil (passes_call (takes_of rfl rfl rfl rfl) fun _ _ _ _ h => h) (pa_cons (pv 0) pa_nil)))
    (fun dr rs cl cdv A1 outer s H E hr => (jb_cons (js_setF 2 sc_law.nd (je_lst (ja_cons je_int (ja_cons je_int (ja_cons je_int (ja_cons je_int (ja_cons je_int (ja_cons je_int (ja_cons je_int (ja_cons je_int (ja_cons je_int (ja_cons je_int (ja_cons je_int (ja_cons (je_pow je_int je_int) (ja_cons je_int (ja_cons je_int (ja_cons je_int ja_nil)))))))))))))))))
  (jb_cons (js_if (jt_not (jt_val (je_call (ok__law_equal T q__law_equal) (hr.mono (by first | omega | decide)) T.d__law_equal.m T.d__law_equal.k T.d__law_equal.b (takes_of rfl rfl rfl rfl) (ja_cons (je_call0 (ok__law_limits T) (hr.mono (by first | omega | decide)) T.d__law_limits.m T.d__law_limits.k T.d__law_limits.b (takes_of rfl rfl rfl rfl)) (ja_cons (je_var 2) ja_nil))))) (jb_one (js_ret je_bl)) jb_nil)
  (jb_cons (js_if (jt_not (jt_val (je_callB (cr_all rfl) cj_all T.z_all (ja_cons (je_lc (own := [("_law_e", 8)]) rfl sc_law.nd (ji_seqs rfl (je_lst (ja_cons (je_exV0 PySem.F.excBase_ValueError T.xq_Unheard T.t_Unheard T.xk_Unheard) (ja_cons (je_exV0 PySem.F.excBase_ValueError T.xq_Calm T.t_Calm T.xk_Calm) (ja_cons (je_exV0 PySem.F.excBase_ValueError T.xq_TooWide T.t_TooWide T.xk_TooWide) (ja_cons (je_exV0 PySem.F.excBase_ValueError T.xq_TooMany T.t_TooMany T.xk_TooMany) (ja_cons (je_exV0 PySem.F.excBase_ValueError T.xq_NothingToUndo T.t_NothingToUndo T.xk_NothingToUndo) ja_nil))))))) (blk_of (N := ns_law) (sc := defScope s_law) rfl rfl ⟨rfl, by decide +kernel, by decide +kernel, by decide +kernel, by decide +kernel⟩) (fun _ _ _ _ _ => (jg_name 8 sc_law.nd)) jts_nil (fun _ _ _ _ _ => (je_call (ok__law_wrong T) (hr.mono (by first | omega | decide)) T.d__law_wrong.m T.d__law_wrong.k T.d__law_wrong.b takes0 (ja_cons (je_var 8) ja_nil)))) ja_nil)))) (jb_one (js_ret je_bl)) jb_nil)
  (jb_cons (js_for (passes_of rfl) rfl (ji_range1 T.z_range (ja_cons je_int ja_nil)) (jg_name 3 sc_law.nd) (jb_cons (js_setF 4 sc_law.nd (je_ifExp (jt_cmp (op_ltA rfl (units65 hr)) oj_ltA (je_var 3) (je_lenN rfl T.z_len (ja_cons (je_var 0) ja_nil))) (je_mod (je_callTy (CallR.or call_int1 call_int_str) cj_int T.z_int (ja_cons (je_ixN rfl (je_var 0) (je_var 3)) ja_nil)) (je_pow je_int je_int)) (je_var 3)))
  (jb_cons (js_setF 5 sc_law.nd (je_lst (ja_cons je_non (ja_cons je_bl (ja_cons je_int (ja_cons (je_neg je_int) (ja_cons (je_pow je_int je_int) (ja_cons (je_var 4) (ja_cons (je_tup ja_nil) (ja_cons (je_tup (ja_cons je_int (ja_cons je_int ja_nil))) (ja_cons je_str (ja_cons (je_lst (ja_cons je_int ja_nil)) (ja_cons (je_add rfl je_int (je_call (ok__law_next T.d__law_next.F T.z_int T.z_len) (hr.mono (by first | omega | decide)) T.d__law_next.m T.d__law_next.k T.d__law_next.b (takes_of rfl rfl rfl rfl) (ja_cons (je_var 1) (ja_cons je_int ja_nil)))) ja_nil)))))))))))))
  (jb_cons (js_par 6 7 rfl sc_law.nd (ja_cons (je_call (ok__law_one T) (hr.mono (by first | omega | decide)) T.d__law_one.m T.d__law_one.k T.d__law_one.b (takes_of rfl rfl rfl rfl) (ja_cons (je_var 1) (ja_cons (je_var 5) ja_nil))) (ja_cons (je_call (ok__law_one T) (hr.mono (by first | omega | decide)) T.d__law_one.m T.d__law_one.k T.d__law_one.b (takes_of rfl rfl rfl rfl) (ja_cons (je_var 1) (ja_cons (je_var 5) ja_nil))) ja_nil)))
  (jb_one (js_if (JW.jt (jw_or (jt_not (jt_val (je_call (ok__law_one_kept T) (hr.mono (by first | omega | decide)) T.d__law_one_kept.m T.d__law_one_kept.k T.d__law_one_kept.b (takes_of rfl rfl rfl rfl) (ja_cons (je_var 6) ja_nil)))) (jw_or1 (jt_not (jt_val (je_call (ok__law_two_kept T) (hr.mono (by first | omega | decide)) T.d__law_two_kept.m T.d__law_two_kept.k T.d__law_two_kept.b (takes_of rfl rfl rfl rfl) (ja_cons (je_var 6) (ja_cons (je_var 7) ja_nil)))))))) (jb_one (js_ret je_bl)) jb_nil))))))
  (jb_one (js_ret je_bl))))))) hg
end
end Dn
set_option Elab.async false
set_option linter.all false
set_option maxRecDepth 100000
set_option maxHeartbeats 4000000
namespace Dn
open PySem PySem.Spec PyProof.Rows L2 TL
/-! ### _law_equal -/
section
variable {A : Ad} {S : Dr}
def asD : O → D
  | .v d => d
  | .lt ds => .lst ds
  | _ => .non
def Ar (o : O) : Prop := (∃ d, o = .v d) ∨ ∃ ds, o = .lt ds
theorem eq_atom {n : Nat} {d1 d2 : D} (h1 : Pl 1 d1) (h2 : Pl 1 d2) (k1 : ∀ ds, d1 ≠ .tup ds ∧ d1 ≠ .lst ds) (k2 : ∀ ds, d2 ≠ .tup ds ∧ d2 ≠ .lst ds) : ∃ b, F__law_equal A (n + 1) [.v d1, .v d2] S = .ok (.v (.bl b)) S ∧ (b = true ↔ d1 = d2) := by
  cases d1 <;> cases d2 <;> first | exact h1.elim | exact h2.elim | exact absurd rfl (k1 _).1 | exact absurd rfl (k1 _).2 | exact absurd rfl (k2 _).1 | exact absurd rfl (k2 _).2 | skip
  case non.non => exact ⟨true, rfl, by simp⟩
  case bl.bl a b => exact ⟨_, rfl, by cases a <;> cases b <;> simp [PyData.eqv]⟩
  case int.int a b => exact ⟨_, rfl, by simp [PyData.eqv]⟩
  case str.str a b =>
    have e : gEq (.v (.str a)) (.v (.str b)) = some (.v (.bl (PyData.eqv (.str a) (.str b)))) := if_pos ⟨h1, h2⟩
    have t : F__law_equal A (n + 1) [.v (.str a), .v (.str b)] S = (runF 4 (sRet (fun _ S => Out.of (gEq (.v (.str a)) (.v (.str b))) S)) [.v (.str a), .v (.str b)] S) := rfl
    refine ⟨PyData.eqv (.str a) (.str b), ?_, by simp [PyData.eqv]⟩
    rw [t]
    unfold runF sRet
    rw [e]
    rfl
  all_goals exact ⟨false, rfl, by simp⟩
abbrev eqTg : D → Env → Option Env := tgT 2 (tgCons (tgN 2) (tgCons (tgN 3) tgNil))
abbrev eqFe (F : List O → Dr → Out E) : Env → Dr → Out E := fUse 2 F (aCons (fVar 2) (aCons (fVar 3) aNil))
theorem eq_lc {n : Nat} {o1 o2 : O} (ih : ∀ d1 d2 S, Pl n d1 → Pl n d2 → ∃ b, F__law_equal A n [.v d1, .v d2] S = .ok (.v (.bl b)) S ∧ (b = true ↔ d1 = d2)) : ∀ xs ys : List D, (∀ x ∈ xs, Pl n x) → (∀ y ∈ ys, Pl n y) → xs.length = ys.length →
    ∃ bs : List Bool, lcD eqTg fYes (eqFe (F__law_equal A n)) [some o1, some o2, none, none] (zipD xs ys) S = .ok (bs.map D.bl) S ∧ (bs.all id = true ↔ xs = ys) ∧ bs.length = xs.length
  | [], [], _, _, _ => ⟨[], rfl, by simp, rfl⟩
  | x :: xs, y :: ys, h1, h2, hl => by
    obtain ⟨b, e, k⟩ := ih x y S (h1 x (by simp)) (h2 y (by simp))
    obtain ⟨bs, e2, k2, l2⟩ := eq_lc ih xs ys (fun z m => h1 z (by simp [m])) (fun z m => h2 z (by simp [m])) (by simpa using hl)
    refine ⟨b :: bs, ?_, by simp [k, ← k2], by simp [l2]⟩
    have t : lcD eqTg fYes (eqFe (F__law_equal A n)) [some o1, some o2, none, none] (zipD (x :: xs) (y :: ys)) S = (F__law_equal A n [.v x, .v y] S).bind fun e S2 => match per e with
      | none => .stk
      | some x => (lcD eqTg fYes (eqFe (F__law_equal A n)) [some o1, some o2, none, none] (zipD xs ys) S2).bind fun xs S3 => .ok (x :: xs) S3 := rfl
    rw [t, e]
    show ((lcD eqTg fYes (eqFe (F__law_equal A n)) [some o1, some o2, none, none] (zipD xs ys) S).bind fun xs S3 => Out.ok (D.bl b :: xs) S3) = _
    rw [e2]
    rfl
theorem Out.eq_of_w {e : E} {o : Out E} {S' : Dr} (h : o.w (fun a S1 => a = e ∧ S1 = S') noX') : o = .ok e S' := by
  cases o with
  | ok a S1 => obtain ⟨rfl, rfl⟩ := h; rfl
  | exc C fs S1 => exact h.elim
  | stk => exact h.elim
theorem eq_seq {n : Nat} {d1 d2 : D} {xs ys : List D} (h : (d1 = .tup xs ∧ d2 = .tup ys) ∨ (d1 = .lst xs ∧ d2 = .lst ys)) (h1 : ∀ x ∈ xs, Pl n x) (h2 : ∀ y ∈ ys, Pl n y) (hl : xs.length ≤ sizeLine)
    (ih : ∀ d1 d2 S, Pl n d1 → Pl n d2 → ∃ b, F__law_equal A n [.v d1, .v d2] S = .ok (.v (.bl b)) S ∧ (b = true ↔ d1 = d2)) : ∃ b, F__law_equal A (n + 1) [.v d1, .v d2] S = .ok (.v (.bl b)) S ∧ (b = true ↔ xs = ys) := by
  by_cases el : xs.length = ys.length
  · obtain ⟨bs, e, k, l⟩ := eq_lc (S := S) (o1 := .v d1) (o2 := .v d2) ih xs ys h1 h2 el
    refine ⟨bs.all id, ?_, k⟩
    apply Out.eq_of_w
    rw [F__law_equal, w_run]
    show (b__law_equal A _ [_, _, none, none] S).w _
    unfold b__law_equal
    rcases h with ⟨rfl, rfl⟩ | ⟨rfl, rfl⟩
    · simp [el]
      exact ⟨_, _, e, by simp [l]; exact hl, by simp⟩
    · simp [el]
      exact ⟨_, _, e, by simp [l]; exact hl, by simp⟩
  · refine ⟨false, ?_, by simp; rintro rfl; exact el rfl⟩
    apply Out.eq_of_w
    rw [F__law_equal, w_run]
    show (b__law_equal A _ [_, _, none, none] S).w _
    unfold b__law_equal
    have el' : ¬ (xs.length : Int) = (ys.length : Int) := by omega
    rcases h with ⟨rfl, rfl⟩ | ⟨rfl, rfl⟩
    · simp [el']
    · simp [el']
theorem eq_all : ∀ (n : Nat) (d1 d2 : D) (S : Dr), Pl n d1 → Pl n d2 → ∃ b, F__law_equal A n [.v d1, .v d2] S = .ok (.v (.bl b)) S ∧ (b = true ↔ d1 = d2)
  | 0, _, _, _, h, _ => h.elim
  | n + 1, d1, d2, S, h1, h2 => by
    by_cases k1 : ∃ ds, d1 = .tup ds ∨ d1 = .lst ds
    · obtain ⟨xs, k1⟩ := k1
      by_cases k2 : ∃ ds, d2 = .tup ds ∨ d2 = .lst ds
      · obtain ⟨ys, k2⟩ := k2
        rcases k1 with rfl | rfl <;> rcases k2 with rfl | rfl
        · obtain ⟨b, e, k⟩ := eq_seq (A := A) (S := S) (.inl ⟨rfl, rfl⟩) h1.1 h2.1 h1.2 (eq_all n)
          exact ⟨b, e, by rw [k]; simp⟩
        · exact ⟨false, rfl, by simp⟩
        · exact ⟨false, rfl, by simp⟩
        · obtain ⟨b, e, k⟩ := eq_seq (A := A) (S := S) (.inr ⟨rfl, rfl⟩) h1.1 h2.1 h1.2 (eq_all n)
          exact ⟨b, e, by rw [k]; simp⟩
      · rcases k1 with rfl | rfl <;> cases d2 <;> first | exact h2.elim | exact absurd ⟨_, .inl rfl⟩ k2 | exact absurd ⟨_, .inr rfl⟩ k2 | exact ⟨false, rfl, by simp⟩
    · by_cases k2 : ∃ ds, d2 = .tup ds ∨ d2 = .lst ds
      · obtain ⟨ys, k2⟩ := k2
        rcases k2 with rfl | rfl <;> cases d1 <;> first | exact h1.elim | exact absurd ⟨_, .inl rfl⟩ k1 | exact absurd ⟨_, .inr rfl⟩ k1 | exact ⟨false, rfl, by simp⟩
      · have a1 : Pl 1 d1 := by cases d1 <;> first | exact h1.elim | exact absurd ⟨_, .inl rfl⟩ k1 | exact absurd ⟨_, .inr rfl⟩ k1 | exact h1 | exact trivial
        have a2 : Pl 1 d2 := by cases d2 <;> first | exact h2.elim | exact absurd ⟨_, .inl rfl⟩ k2 | exact absurd ⟨_, .inr rfl⟩ k2 | exact h2 | exact trivial
        exact eq_atom a1 a2 (fun ds => ⟨fun e => k1 ⟨ds, .inl e⟩, fun e => k1 ⟨ds, .inr e⟩⟩) (fun ds => ⟨fun e => k2 ⟨ds, .inl e⟩, fun e => k2 ⟨ds, .inr e⟩⟩)
end
end Dn
set_option Elab.async false
set_option linter.all false
set_option maxRecDepth 100000
set_option maxHeartbeats 4000000
namespace Dn
open PySem PySem.Spec PyProof.Rows L2 TL
/-! ### _law_one -/
section
variable {A : Ad} {S : Dr} {P : E → Dr → Prop} {X : PX}
theorem w_one {t : Nat} {ds : List D} (h : OkD t S) (ht : t < 33554432) (h0 : 0 < ds.length) (h1 : ds.length < 1073741824) (k : ∀ d ∈ ds, ∀ S', OkD (t + 1) S' → P (.v d) S') : (F__law_one A [.v .drw, .v (.lst ds)] S).w P X := by
  rw [F__law_one, w_run]
  show (b__law_one A [some (.v .drw), some (.v (.lst ds))] S).w _
  unfold b__law_one
  simp
  refine w_next h ht (by omega) (by omega) fun r S' h2 h3 hS => ?_
  obtain ⟨d, hd, e⟩ := gIx_any (ds := ds) (.inl rfl) h2 (by omega)
  exact ⟨_, e, _, rfl, k d hd S' hS⟩
end
end Dn
set_option Elab.async false
set_option linter.all false
set_option maxRecDepth 100000
set_option maxHeartbeats 4000000
namespace Dn
open PySem PySem.Spec PyProof.Rows L2 TL
section
variable {A : Ad} {S : Dr} {C : Addr} {fs : List (Str × D)} {i : Nat}
theorem xcs_len (A : Ad) : (xcs A).length = 28 := rfl
theorem xt_at {col : List Bool} (hl : col.length = 28) (h : (xcs A)[i]? = some C) : tabN (xcs A) col C = some (col.getD i false) := by
  have hi : i < 28 := by
    have := List.getElem?_eq_some_iff.mp h
    obtain ⟨k, _⟩ := this
    exact k
  refine tabN_at A.nd h ?_
  rw [List.getD_eq_getElem?_getD]
  rw [List.getElem?_eq_getElem (by omega)]
  rfl
def bI (b : Bool) : Int := if b then 1 else 0
def ownRows : List (List Bool) := [xr_BadTag, xr_BadFrame, xr_BadText, xr_BadNumber, xr_BadList, xr_BadEntry, xr_BadRows, xr_BadNet, xr_BadLinks, xr_NoPort, xr_BadLine, xr_BadWish, xr_BadEdit, xr_Broken, xr_NotIn, xr_Lost, xr_Unheard, xr_Calm, xr_TooFar, xr_TooWide, xr_TooMany, xr_Crowded, xr_UnlikeEnds, xr_NothingToUndo, xr_NoSuchPort, xr_NoEnd, xr_NoSuchLink, xr_NoSuchFrame]
theorem own_sum : ∀ i < 28, (ownRows.map fun r => bI (r.getD i false)).sum = 1 := by decide +kernel
def ownA : List (Addr → Option Bool) → Env → Dr → Out (List O)
  | [] => aNil
  | t :: ts => aCons (fCall gIntOf (aCons (fIsV t (fVar 0)) aNil)) (ownA ts)
theorem ownA_ok (S : Dr) {ρ : Env} (h0 : ρ[0]? = some (some (.v (.exn C fs)))) {f : List Bool → Bool} {g : List Bool → Addr → Option Bool} : ∀ cols : List (List Bool), (∀ c ∈ cols, g c C = some (f c)) → ownA (cols.map g) ρ S = .ok (cols.map fun c => O.v (.int (bI (f c)))) S
  | [], _ => rfl
  | c :: cols, h => by
    have ih := ownA_ok S h0 cols fun c m => h c (by simp [m])
    have e : fIsV (g c) (fVar 0) ρ S = .ok (.v (.bl (f c))) S := by
      unfold fIsV fVar
      rw [h0]
      show (match g c C with
        | some b => Out.ok (E.v (.bl b)) S
        | none => .stk) = _
      rw [h c (by simp)]
    have e2 : fCall gIntOf (aCons (fIsV (g c) (fVar 0)) aNil) ρ S = .ok (.v (.int (bI (f c)))) S := by
      unfold fCall aCons
      rw [e]
      cases f c <;> rfl
    show (fCall gIntOf (aCons (fIsV (g c) (fVar 0)) aNil) ρ S).bind (fun e S1 => (ownA (cols.map g) ρ S1).bind fun os S2 => Out.ok (toO e :: os) S2) = _
    rw [e2]
    show (ownA (cols.map g) ρ S).bind _ = _
    rw [ih]
    rfl
theorem valsV : ∀ ds : List D, vals (ds.map O.v) = some ds
  | [] => rfl
  | d :: ds => by
    show (vals (ds.map O.v)).map (d :: ·) = _
    rw [valsV ds]
    rfl
theorem own_ok (h : (xcs A)[i]? = some C) : F__law_own A [.v (.exn C fs)] S = .ok (.v (.int 1)) S := by
  have hi : i < 28 := (List.getElem?_eq_some_iff.mp h).1
  have T : ∀ c ∈ ownRows, tabN (xcs A) c C = some (c.getD i false) := fun c m => xt_at (by revert c; decide) h
  have e := own_sum i hi
  have t := ownA_ok S (ρ := [some (.v (.exn C fs))]) rfl (g := tabN (xcs A)) (f := fun c => c.getD i false) ownRows T
  have b : b__law_own A = sRet (fCall gSum (aCons (fCall gLstD (ownA (ownRows.map (tabN (xcs A))))) aNil)) := rfl
  apply Out.eq_of_w
  rw [F__law_own, w_run]
  show (b__law_own A [some (.v (.exn C fs))] S).w _
  rw [b]
  have hn : ownRows.length = 28 := rfl
  generalize ownRows.map (tabN (xcs A)) = ts at t ⊢
  generalize ownRows = rows at t e hn
  have q : gLstD (rows.map fun c => O.v (.int (bI (c.getD i false)))) = some (.n ((rows.map fun c => bI (c.getD i false)).map D.int)) := by
    have v := valsV ((rows.map fun c => bI (c.getD i false)).map D.int)
    rw [List.map_map, List.map_map] at v
    unfold gLstD
    rw [show (rows.map fun c => O.v (.int (bI (c.getD i false)))) = rows.map ((O.v ∘ D.int) ∘ fun c => bI (c.getD i false)) from rfl, v]
    show (if _ then _ else _) = _
    rw [if_pos (by simp only [List.length_map]; rw [hn]; decide), List.map_map]
  simp only [w_ret, w_call, w_cons, w_nil]
  rw [t]
  refine ⟨_, q, E.v (.int 1), ?_, _, rfl, rfl, rfl⟩
  show (match intsD ((rows.map fun c => bI (c.getD i false)).map D.int) with
    | some cs => some (E.v (.int cs.sum))
    | none => none) = _
  rw [ints_map]
  show some (E.v (.int (rows.map fun c => bI (c.getD i false)).sum)) = _
  rw [e]
def wrongB (i : Nat) : Bool := xr_TagError.getD i false && xr_ValueError.getD i false && !xr_NoSuch.getD i false && !xr_LookupError.getD i false
def lacksB (i : Nat) : Bool := xr_NoSuch.getD i false && xr_LookupError.getD i false && !xr_TagError.getD i false && !xr_ValueError.getD i false
theorem isV_at {col : List Bool} (hl : col.length = 28) (h : (xcs A)[i]? = some C) {ρ : Env} (h0 : ρ[0]? = some (some (.v (.exn C fs)))) : fIsV (tabN (xcs A) col) (fVar 0) ρ S = .ok (.v (.bl (col.getD i false))) S := by
  unfold fIsV fVar
  rw [h0]
  show (match tabN (xcs A) col C with
    | some b => Out.ok (E.v (.bl b)) S
    | none => .stk) = _
  rw [xt_at hl h]
theorem wrong_ok (h : (xcs A)[i]? = some C) (hw : wrongB i = true) : F__law_wrong A [.v (.exn C fs)] S = .ok (.v (.bl true)) S := by
  unfold wrongB at hw
  simp only [Bool.and_eq_true, Bool.not_eq_true'] at hw
  obtain ⟨⟨⟨h1, h2⟩, h3⟩, h4⟩ := hw
  apply Out.eq_of_w
  rw [F__law_wrong, w_run]
  show (b__law_wrong A [some (.v (.exn C fs))] S).w _
  have e1 := isV_at (S := S) (col := xr_TagError) rfl h (ρ := [some (.v (.exn C fs))]) rfl
  have e2 := isV_at (S := S) (col := xr_ValueError) rfl h (ρ := [some (.v (.exn C fs))]) rfl
  have e3 := isV_at (S := S) (col := xr_NoSuch) rfl h (ρ := [some (.v (.exn C fs))]) rfl
  have e4 := isV_at (S := S) (col := xr_LookupError) rfl h (ρ := [some (.v (.exn C fs))]) rfl
  rw [h1] at e1
  rw [h2] at e2
  rw [h3] at e3
  rw [h4] at e4
  unfold b__law_wrong
  generalize fIsV (xt_TagError A) (fVar 0) = f1 at e1 ⊢
  generalize fIsV (xt_ValueError A) (fVar 0) = f2 at e2 ⊢
  generalize fIsV (xt_NoSuch A) (fVar 0) = f3 at e3 ⊢
  generalize fIsV (xt_LookupError A) (fVar 0) = f4 at e4 ⊢
  simp [e1, e2, e3, e4, own_ok (fs := fs) (S := S) h, gEq]
  exact ⟨_, rfl, rfl⟩
theorem lacks_ok (h : (xcs A)[i]? = some C) (hw : lacksB i = true) : F__law_lacks A [.v (.exn C fs)] S = .ok (.v (.bl true)) S := by
  unfold lacksB at hw
  simp only [Bool.and_eq_true, Bool.not_eq_true'] at hw
  obtain ⟨⟨⟨h3, h4⟩, h1⟩, h2⟩ := hw
  apply Out.eq_of_w
  rw [F__law_lacks, w_run]
  show (b__law_lacks A [some (.v (.exn C fs))] S).w _
  have e1 := isV_at (S := S) (col := xr_TagError) rfl h (ρ := [some (.v (.exn C fs))]) rfl
  have e2 := isV_at (S := S) (col := xr_ValueError) rfl h (ρ := [some (.v (.exn C fs))]) rfl
  have e3 := isV_at (S := S) (col := xr_NoSuch) rfl h (ρ := [some (.v (.exn C fs))]) rfl
  have e4 := isV_at (S := S) (col := xr_LookupError) rfl h (ρ := [some (.v (.exn C fs))]) rfl
  rw [h1] at e1
  rw [h2] at e2
  rw [h3] at e3
  rw [h4] at e4
  unfold b__law_lacks
  generalize fIsV (xt_TagError A) (fVar 0) = f1 at e1 ⊢
  generalize fIsV (xt_ValueError A) (fVar 0) = f2 at e2 ⊢
  generalize fIsV (xt_NoSuch A) (fVar 0) = f3 at e3 ⊢
  generalize fIsV (xt_LookupError A) (fVar 0) = f4 at e4 ⊢
  simp [e1, e2, e3, e4, own_ok (fs := fs) (S := S) h, gEq]
  exact ⟨_, rfl, rfl⟩
end
end Dn
set_option Elab.async false
set_option linter.all false
set_option maxRecDepth 100000
set_option maxHeartbeats 4000000
namespace Dn
open PySem PySem.Spec PyProof.Rows L2 TL
section
variable {A : Ad} {S : Dr} {d e : D}
theorem eq_self (h : Pl 6 d) : F__law_equal A q__law_equal [.v d, .v d] S = .ok (.v (.bl true)) S := by
  obtain ⟨b, e, k⟩ := eq_all (A := A) 6 d d S h h
  rw [k.mpr rfl] at e
  exact e
/-- a row: the class, its place, the field, the classes with this field -/
structure Rw where
  C : Addr
  i : Nat
  f : Str
  xl : List Addr
def rowsA : List Rw → Env → Dr → Out (List O)
  | [] => aNil
  | r :: rs => aCons (fCall gLstD (aCons (fExV r.C [r.f] (aCons (fVar 0) aNil)) (aCons (fExf (okN r.xl) r.f (fExV r.C [r.f] (aCons (fVar 0) aNil))) aNil))) (rowsA rs)
def rowD (d : D) (r : Rw) : D := .lst [.exn r.C [(r.f, d)], d]
theorem row_ok {ρ : Env} (h0 : ρ[0]? = some (some (.v d))) (r : Rw) (h : okN r.xl r.C = true) : fCall gLstD (aCons (fExV r.C [r.f] (aCons (fVar 0) aNil)) (aCons (fExf (okN r.xl) r.f (fExV r.C [r.f] (aCons (fVar 0) aNil))) aNil)) ρ S = .ok (.n [.exn r.C [(r.f, d)], d]) S := by
  have eA : fExV r.C [r.f] (aCons (fVar 0) aNil) ρ S = .ok (.v (.exn r.C [(r.f, d)])) S := by
    unfold fExV aCons aNil fVar
    rw [h0]
    rfl
  have eB : fExf (okN r.xl) r.f (fExV r.C [r.f] (aCons (fVar 0) aNil)) ρ S = .ok (.v d) S := by
    unfold fExf
    rw [eA]
    show (if okN r.xl r.C = true then match List.lookup r.f [(r.f, d)] with
      | some d => Out.ok (E.v d) S
      | none => .stk else .stk) = _
    rw [if_pos h]
    simp [List.lookup]
  apply Out.eq_of_w
  simp only [w_call, w_cons, w_nil]
  rw [eA]
  show (fExf (okN r.xl) r.f (fExV r.C [r.f] (aCons (fVar 0) aNil)) ρ S).w _ _
  rw [eB]
  exact ⟨_, rfl, rfl, rfl⟩
theorem rowsA_ok (S : Dr) {ρ : Env} (h0 : ρ[0]? = some (some (.v d))) : ∀ rs : List Rw, (∀ r ∈ rs, okN r.xl r.C = true) → rowsA rs ρ S = .ok (rs.map fun r => O.v (rowD d r)) S
  | [], _ => rfl
  | r :: rs, h => by
    have ih := rowsA_ok S h0 rs fun r m => h r (by simp [m])
    have e := row_ok (S := S) h0 r (h r (by simp))
    generalize hg : fCall gLstD (aCons (fExV r.C [r.f] (aCons (fVar 0) aNil)) (aCons (fExf (okN r.xl) r.f (fExV r.C [r.f] (aCons (fVar 0) aNil))) aNil)) = g at e
    show aCons (fCall gLstD (aCons (fExV r.C [r.f] (aCons (fVar 0) aNil)) (aCons (fExf (okN r.xl) r.f (fExV r.C [r.f] (aCons (fVar 0) aNil))) aNil))) (rowsA rs) ρ S = _
    rw [hg]
    show (g ρ S).bind (fun e S1 => (rowsA rs ρ S1).bind fun os S2 => Out.ok (toO e :: os) S2) = _
    rw [e]
    show (rowsA rs ρ S).bind _ = _
    rw [ih]
    rfl
def R1 (A : Ad) : List Rw := [⟨A.C_BadTag, 0, "value", xl_value A⟩, ⟨A.C_BadFrame, 1, "index", xl_index A⟩, ⟨A.C_BadText, 2, "index", xl_index A⟩, ⟨A.C_BadNumber, 3, "value", xl_value A⟩, ⟨A.C_BadList, 4, "index", xl_index A⟩, ⟨A.C_BadRows, 6, "index", xl_index A⟩, ⟨A.C_BadLinks, 8, "index", xl_index A⟩, ⟨A.C_NoPort, 9, "value", xl_value A⟩, ⟨A.C_BadLine, 10, "line", xl_line A⟩, ⟨A.C_BadWish, 11, "index", xl_index A⟩, ⟨A.C_BadEdit, 12, "index", xl_index A⟩, ⟨A.C_NotIn, 14, "frame", xl_frame A⟩, ⟨A.C_Lost, 15, "index", xl_index A⟩, ⟨A.C_TooFar, 18, "hops", xl_hops A⟩, ⟨A.C_Crowded, 21, "hops", xl_hops A⟩]
def R2 (A : Ad) : List Rw := [⟨A.C_NoSuchPort, 24, "value", xl_value A⟩, ⟨A.C_NoEnd, 25, "value", xl_value A⟩, ⟨A.C_NoSuchLink, 26, "value", xl_value A⟩, ⟨A.C_NoSuchFrame, 27, "number", xl_number A⟩]
def RowP (A : Ad) (p : Nat → Bool) (r : Rw) : Prop := okN r.xl r.C = true ∧ (xcs A)[r.i]? = some r.C ∧ p r.i = true
theorem R1_ok : ∀ r ∈ R1 A, RowP A wrongB r := by
  intro r m
  simp only [R1, List.mem_cons, List.not_mem_nil, or_false] at m
  rcases m with rfl | rfl | rfl | rfl | rfl | rfl | rfl | rfl | rfl | rfl | rfl | rfl | rfl | rfl | rfl <;> exact ⟨by simp [okN], rfl, rfl⟩
theorem R2_ok : ∀ r ∈ R2 A, RowP A lacksB r := by
  intro r m
  simp only [R2, List.mem_cons, List.not_mem_nil, or_false] at m
  rcases m with rfl | rfl | rfl | rfl <;> exact ⟨by simp [okN], rfl, rfl⟩
theorem b_one (A : Ad) : b__law_one_kept A = sSeq (sSetF 1 (fCall gLstD (rowsA (R1 A)))) (sSeq (sSetF 2 (fCall gLstD (rowsA (R2 A))))
  (sSeq (sIf (fOr (fNot (fTst (fCall gAll (aCons (fLc (fItrs true (fVar 1)) (tgN 3) fYes (c__law_one_kept_e1 A) [3]) aNil)))) (fNot (fTst (fCall gAll (aCons (fLc (fItrs true (fVar 2)) (tgN 3) fYes (c__law_one_kept_e2 A) [3]) aNil))))) (sRet (fC (.bl false))) sNx)
  (sRet (fCall gAll (aCons (fLc (fItrs true (fOp gAdd (fVar 1) (fVar 2))) (tgN 3) fYes (c__law_one_kept_e3 A) [3]) aNil))))) := rfl
theorem lst_rows {ρ : Env} (h0 : ρ[0]? = some (some (.v d))) {p : Nat → Bool} (rs : List Rw) (hl : rs.length ≤ 100) (h : ∀ r ∈ rs, RowP A p r) : fCall gLstD (rowsA rs) ρ S = .ok (.n (rs.map (rowD d))) S := by
  have e := rowsA_ok S h0 rs fun r m => (h r m).1
  unfold fCall
  rw [e]
  show Out.of (gLstD (rs.map fun r => O.v (rowD d r))) S = _
  have v := valsV (rs.map (rowD d))
  rw [List.map_map] at v
  unfold gLstD
  rw [show (rs.map fun r => O.v (rowD d r)) = rs.map (O.v ∘ rowD d) from rfl, v]
  show Out.of (if _ then _ else _) S = _
  rw [if_pos (by rw [List.length_map, sizeLine_eq]; omega)]
  rfl
theorem lc_e1 {ρ : Env} (hl : ρ.length = 4) (rs : List Rw) (h : ∀ r ∈ rs, RowP A wrongB r) : lcD (tgN 3) fYes (c__law_one_kept_e1 A) ρ (rs.map (rowD d)) S = .ok (rs.map fun _ => .bl true) S := by
  refine lc_mapL _ _ rs fun r m => ?_
  obtain ⟨_, h2, h3⟩ := h r m
  have e := wrong_ok (S := S) (fs := [(r.f, d)]) h2 h3
  match ρ, hl with
  | [o0, o1, o2, o3], _ =>
  refine ⟨[o0, o1, o2, some (.v (rowD d r))], rfl, ?_⟩
  unfold c__law_one_kept_e1
  simp [rowD]
  refine ⟨_, rfl, ?_⟩
  show (F__law_wrong A [.v (.exn r.C [(r.f, d)])] S).w _ _
  rw [e]
  exact ⟨rfl, rfl⟩
theorem lc_e2 {ρ : Env} (hl : ρ.length = 4) (rs : List Rw) (h : ∀ r ∈ rs, RowP A lacksB r) : lcD (tgN 3) fYes (c__law_one_kept_e2 A) ρ (rs.map (rowD d)) S = .ok (rs.map fun _ => .bl true) S := by
  refine lc_mapL _ _ rs fun r m => ?_
  obtain ⟨_, h2, h3⟩ := h r m
  have e := lacks_ok (S := S) (fs := [(r.f, d)]) h2 h3
  match ρ, hl with
  | [o0, o1, o2, o3], _ =>
  refine ⟨[o0, o1, o2, some (.v (rowD d r))], rfl, ?_⟩
  unfold c__law_one_kept_e2
  simp [rowD]
  refine ⟨_, rfl, ?_⟩
  show (F__law_lacks A [.v (.exn r.C [(r.f, d)])] S).w _ _
  rw [e]
  exact ⟨rfl, rfl⟩
theorem lc_e3 (hd : Pl 6 d) {o1 o2 o3 : Option O} (rs : List Rw) : lcD (tgN 3) fYes (c__law_one_kept_e3 A) [some (.v d), o1, o2, o3] (rs.map (rowD d)) S = .ok (rs.map fun _ => .bl true) S := by
  refine lc_mapL _ _ rs fun r m => ?_
  have e := eq_self (A := A) (S := S) hd
  refine ⟨[some (.v d), o1, o2, some (.v (rowD d r))], rfl, ?_⟩
  unfold c__law_one_kept_e3
  simp [rowD]
  refine ⟨_, rfl, ?_⟩
  show (F__law_equal A q__law_equal [.v d, .v d] S).w _ _
  rw [e]
  exact ⟨rfl, rfl⟩
theorem blsT {α : Type} (rs : List α) : blsD (rs.map fun _ => D.bl true) = some (rs.map fun _ => true) := by
  induction rs with
  | nil => rfl
  | cons a rs ih => simp [blsD, ih]
theorem all_true {α : Type} (rs : List α) : gAll [.v (.lst (rs.map fun _ => D.bl true))] = some (.v (.bl true)) := by
  show (match blsD (rs.map fun _ => D.bl true) with
    | some cs => some (E.v (.bl (cs.all id)))
    | none => none) = _
  rw [blsT]
  simp
theorem one_kept_ok (hd : Pl 6 d) : F__law_one_kept A [.v d] S = .ok (.v (.bl true)) S := by
  apply Out.eq_of_w
  rw [F__law_one_kept, w_run]
  show (b__law_one_kept A [some (.v d), none, none, none] S).w _
  rw [b_one]
  have h1 := R1_ok (A := A)
  have h2 := R2_ok (A := A)
  have n1 : (R1 A).length = 15 := rfl
  have n2 : (R2 A).length = 4 := rfl
  generalize R1 A = r1 at h1 n1 ⊢
  generalize R2 A = r2 at h2 n2 ⊢
  have e1 := lst_rows (S := S) (ρ := [some (.v d), none, none, none]) (d := d) rfl r1 (by omega) h1
  have e2 := lst_rows (S := S) (ρ := [some (.v d), some (.v (.lst (r1.map (rowD d)))), none, none]) (d := d) rfl r2 (by omega) h2
  generalize fCall gLstD (rowsA r1) = g1 at e1 ⊢
  generalize fCall gLstD (rowsA r2) = g2 at e2 ⊢
  have f1 := lc_e1 (A := A) (S := S) (d := d) (ρ := [some (.v d), some (.v (.lst (r1.map (rowD d)))), some (.v (.lst (r2.map (rowD d)))), none]) rfl r1 h1
  have f2 := lc_e2 (A := A) (S := S) (d := d) (ρ := [some (.v d), some (.v (.lst (r1.map (rowD d)))), some (.v (.lst (r2.map (rowD d)))), none]) rfl r2 h2
  have f3 := lc_e3 (A := A) (S := S) hd (o1 := some (.v (.lst (r1.map (rowD d))))) (o2 := some (.v (.lst (r2.map (rowD d))))) (o3 := none) (r1 ++ r2)
  simp [e1, e2]
  have ga : ∀ rs : List Rw, gAll [.v (.lst (rs.map fun _ => D.bl true))] = some (.v (.bl true)) := all_true
  refine ⟨_, S, f1, by simp; omega, _, ga r1, rfl, _, S, f2, by simp; omega, _, ga r2, rfl, _, ⟨by omega, rfl⟩, (r1 ++ r2).map (rowD d), by rw [List.map_append]; rfl, (r1 ++ r2).map (fun _ => .bl true), S, f3, by simp; omega, _, ga (r1 ++ r2), _, rfl, rfl, rfl⟩
end
end Dn
set_option Elab.async false
set_option linter.all false
set_option maxRecDepth 100000
set_option maxHeartbeats 4000000
namespace Dn
open PySem PySem.Spec PyProof.Rows L2 TL
section
variable {A : Ad} {S : Dr} {d1 d2 : D}
theorem lc_true {tgt : D → Env → Option Env} {fe : Env → Dr → Out E} {ρ : Env} (l : List D) (h : ∀ a ∈ l, ∃ ρ1, tgt a ρ = some ρ1 ∧ fe ρ1 S = .ok (.v (.bl true)) S) : lcD tgt fYes fe ρ l S = .ok (l.map fun _ => .bl true) S := by
  have t := lc_mapL (tgt := tgt) (fe := fe) (ρ := ρ) (S := S) (α := D) id (fun _ => .bl true) l fun a m => by
    obtain ⟨ρ1, e1, e2⟩ := h a m
    refine ⟨ρ1, e1, ?_⟩
    rw [e2]
    exact ⟨rfl, rfl⟩
  rw [List.map_id] at t
  exact t
theorem e1_true {ρ : Env} {i : Nat} {C : Addr} {fs : List (Str × D)} (hl : ρ.length = 9) (h : (xcs A)[i]? = some C) (hw : wrongB i = true) : ∃ ρ1, tgN 7 (.exn C fs) ρ = some ρ1 ∧ c__law_two_kept_e1 A ρ1 S = .ok (.v (.bl true)) S := by
  match ρ, hl with
  | [o0, o1, o2, o3, o4, o5, o6, o7, o8], _ =>
  refine ⟨[o0, o1, o2, o3, o4, o5, o6, some (.v (.exn C fs)), o8], rfl, ?_⟩
  exact wrong_ok h hw
theorem e2_true {o2 o3 o4 o5 o6 o7 o8 : Option O} (h1 : Pl 5 d1) (h2 : Pl 5 d2) : ∃ ρ1, tgN 8 (.tup [d1, d2]) [some (.v d1), some (.v d2), o2, o3, o4, o5, o6, o7, o8] = some ρ1 ∧ c__law_two_kept_e2 A ρ1 S = .ok (.v (.bl true)) S := by
  have q := eq_self (A := A) (S := S) (d := .tup [d1, d2]) ⟨by simp [h1, h2], by simp⟩
  exact ⟨[some (.v d1), some (.v d2), o2, o3, o4, o5, o6, o7, some (.v (.tup [d1, d2]))], rfl, q⟩
theorem two_kept_ok (h1 : Pl 5 d1) (h2 : Pl 5 d2) : F__law_two_kept A [.v d1, .v d2] S = .ok (.v (.bl true)) S := by
  apply Out.eq_of_w
  rw [F__law_two_kept, w_run]
  show (b__law_two_kept A [some (.v d1), some (.v d2), none, none, none, none, none, none, none] S).w _
  unfold b__law_two_kept
  simp [vals]
  refine ⟨_, S, lc_true _ ?_, by simp, _, all_true _, rfl, by simp [okN], _, rfl, by simp [okN], by simp [okN], _, rfl, by simp [okN], by simp [okN], _, rfl, by simp [okN], by simp [okN], _, rfl, by simp [okN], _, S, lc_true _ ?_, by simp, _, all_true _, _, rfl, rfl, rfl⟩
  · intro a m
    simp only [List.mem_cons, List.not_mem_nil, or_false] at m
    rcases m with rfl | rfl | rfl | rfl
    · exact e1_true (i := 5) rfl rfl rfl
    · exact e1_true (i := 7) rfl rfl rfl
    · exact e1_true (i := 13) rfl rfl rfl
    · exact e1_true (i := 22) rfl rfl rfl
  · intro a m
    simp only [List.mem_cons, List.not_mem_nil, or_false, or_self] at m
    subst m
    exact e2_true h1 h2
end
end Dn
set_option Elab.async false
set_option linter.all false
set_option maxRecDepth 100000
set_option maxHeartbeats 4000000
namespace Dn
open PySem PySem.Spec PyProof.Rows L2 TL
section
variable {A : Ad} {S : Dr}
def dueL : List Int := [4094, 60, 8, 4000, 1000, 6, 14, 5, 6, 1000, 400, 1000000000000000000000000000000, 6, 12, 8]
def dueD : D := .lst (dueL.map D.int)
theorem pow30 : gPow (.v (.int 10)) (.v (.int 30)) = some (.v (.int 1000000000000000000000000000000)) := by rfl
theorem limits_ok : F__law_limits A [] S = .ok (.n (dueL.map D.int)) S := by
  apply Out.eq_of_w
  rw [F__law_limits, w_run]
  show (b__law_limits A [none] S).w _
  unfold b__law_limits
  simp [vals, dueD, dueL]
theorem due_pl : Pl 6 dueD := by
  refine ⟨fun d m => ?_, by decide⟩
  obtain ⟨i, _, rfl⟩ := List.mem_map.mp m
  trivial
theorem e_true {ρ : Env} {i : Nat} {C : Addr} {fs : List (Str × D)} (hl : ρ.length = 9) (h : (xcs A)[i]? = some C) (hw : wrongB i = true) : ∃ ρ1, tgN 8 (.exn C fs) ρ = some ρ1 ∧ c_law_e1 A ρ1 S = .ok (.v (.bl true)) S := by
  match ρ, hl with
  | [o0, o1, o2, o3, o4, o5, o6, o7, o8], _ =>
  refine ⟨[o0, o1, o2, o3, o4, o5, o6, o7, some (.v (.exn C fs))], rfl, ?_⟩
  exact wrong_ok h hw
theorem some_pl {c r : Int} : ∀ d ∈ [D.non, .bl true, .int 0, .int (-1), .int 1000000000000000000000000000000, .int c, .tup [], .tup [.int 1, .int 2], .str "a", .lst [.int 1], .int r], Pl 5 d := by
  intro d m
  simp only [List.mem_cons, List.not_mem_nil, or_false] at m
  rcases m with rfl | rfl | rfl | rfl | rfl | rfl | rfl | rfl | rfl | rfl | rfl <;> first | trivial | (refine ⟨by simp [Pl], by simp⟩) | (show SeqAt.shaped _ = true; decide +kernel)
theorem pl_mono6 {d : D} (h : Pl 5 d) : Pl 6 d := pl_mono h (by omega)
theorem atI_at {ns : List Int} {j : Nat} (h : j < ns.length) : atI ns (j : Int) = some ns[j] := atI_nat (by simp [h])
theorem round_w {K : Kt} {t : Nat} {ns : List Int} {turn : Int} {o2 o4 o5 o6 o7 o8 : Option O} (hS : OkD t S) (ht : t < 1000) (h0 : 0 ≤ turn) (k : ∀ o4 o5 o6 o7 S', OkD (t + 3) S' → K.nx [some (.v (.scr ns)), some (.v .drw), o2, some (.v (.int turn)), o4, o5, o6, o7, o8] S') :
    (b_law_l1 A [some (.v (.scr ns)), some (.v .drw), o2, some (.v (.int turn)), o4, o5, o6, o7, o8] S).w K := by
  have main : ∀ c : Int, (b_law_t2 A [some (.v (.scr ns)), some (.v .drw), o2, some (.v (.int turn)), some (.v (.int c)), o5, o6, o7, o8] S).w K := fun c => by
    unfold b_law_t2 b_law_t1
    simp [pow30, vals]
    refine w_next hS (by omega) (by omega) (by omega) fun r S1 r0 r1 hS1 => ?_
    refine ⟨_, rfl, _, rfl, _, rfl, ?_⟩
    have pl := some_pl (c := c) (r := 1 + r)
    refine w_one hS1 (by omega) (by simp) (by simp) fun d1 m1 S2 hS2 => ?_
    refine w_one hS2 (by omega) (by simp) (by simp) fun d2 m2 S3 hS3 => ?_
    refine ⟨d1, d2, ⟨rfl, rfl⟩, ?_⟩
    rw [one_kept_ok (pl_mono6 (pl d1 m1))]
    refine .inr ⟨rfl, ?_⟩
    rw [two_kept_ok (pl d1 m1) (pl d2 m2)]
    exact .inr ⟨rfl, k _ _ _ _ _ hS3⟩
  unfold b_law_l1
  simp
  refine ⟨.v (.int ns.length), rfl, .v (.bl (decide (turn < ns.length))), rfl, ?_⟩
  by_cases hl : turn < ns.length
  · refine .inr ⟨by show some (decide _) = _; rw [decide_eq_true hl], ?_⟩
    obtain ⟨j, rfl⟩ := Int.eq_ofNat_of_zero_le h0
    have hj : j < ns.length := by omega
    have e : gIxN (.v (.scr ns)) (.v (.int (j : Int))) = some (.v (.int ns[j])) := by
      show (atI ns (j : Int)).map _ = _
      rw [atI_at hj]
      rfl
    exact ⟨_, e, .v (.int ns[j]), rfl, .v (.int (ns[j].fmod 10000000000000000000000000000000000000000)), rfl, _, rfl, main _⟩
  · exact .inl ⟨by show some (decide _) = _; rw [decide_eq_false hl], main _⟩
def lawI (o0 : Option O) (o2 : Option O) (ds : List D) (ρ : Env) (S : Dr) : Prop := ds.length ≤ 6 ∧ OkD (100 - 3 * ds.length) S ∧ (∀ d ∈ ds, ∃ i : Int, d = .int i ∧ 0 ≤ i) ∧ ∃ a3 a4 a5 a6 a7 a8, ρ = [o0, some (.v .drw), o2, a3, a4, a5, a6, a7, a8]
end
theorem law_true (A : Ad) : ∀ ns : List Int, ns.length ≤ 63 → ∃ S', b_law A (startL ns_law.length ns) (startS ns) = .rt (.v (.bl true)) S' := by
  intro ns hn
  refine so_true ?_
  show (b_law A [some (.v (.scr ns)), some (.v .drw), none, none, none, none, none, none, none] (startS ns)).w _
  unfold b_law b_law_t5 b_law_t4 b_law_t3
  simp [pow30, vals]
  refine Out.w.of_eq limits_ok ?_
  refine Out.w.of_eq (eq_self due_pl) ?_
  refine ⟨rfl, _, startS ns, lc_true _ ?_, by simp, _, all_true _, rfl, _, rfl, ?_⟩
  · intro a m
    simp only [List.mem_cons, List.not_mem_nil, or_false] at m
    rcases m with rfl | rfl | rfl | rfl | rfl
    · exact e_true (i := 16) rfl rfl rfl
    · exact e_true (i := 17) rfl rfl rfl
    · exact e_true (i := 19) rfl rfl rfl
    · exact e_true (i := 20) rfl rfl rfl
    · exact e_true (i := 23) rfl rfl rfl
  · generalize (some (O.v (D.lst [D.int 4094, _, _, _, _, _, _, _, _, _, _, _, _, _, _])) : Option O) = o2
    refine for_inv (lawI (some (.v (.scr ns))) o2) (fun d ds ρ S ⟨hr, hS, hi, a3, a4, a5, a6, a7, a8, er⟩ => ?_) (fun ρ S _ => trivial) _ _ _ ⟨by decide, (startS_ok hn).mono (by simp), fun d m => ?_, _, _, _, _, _, _, rfl⟩
    · subst er
      simp at hr
      obtain ⟨i, rfl, i0⟩ := hi d (by simp)
      refine ⟨_, rfl, ?_⟩
      exact round_w hS (by simp; omega) i0 fun o4 o5 o6 o7 S' hS' => ⟨by omega, hS'.mono (by simp <;> omega), fun d m => hi d (by simp [m]), _, _, _, _, _, _, rfl⟩
    · have : d ∈ ([.int 0, .int 1, .int 2, .int 3, .int 4, .int 5] : List D) := m
      simp only [List.mem_cons, List.not_mem_nil, or_false] at this
      rcases this with rfl | rfl | rfl | rfl | rfl | rfl <;> exact ⟨_, rfl, by decide⟩
end Dn
set_option Elab.async false
set_option linter.all false
set_option maxRecDepth 100000
set_option maxHeartbeats 4000000
namespace Dn
open PySem PySem.Spec PyProof.Rows L2
theorem all_mk {l : PySem.W.OpenLaw} {w : World} {K : PySem.W.Frag} {h : Heap} {mg : Str → Option Value} {fa : Addr} (X : K.In h) (G : h.Ns mainGlobals mg) (hfa : mg "law" = some (.ref fa))
    {f0 : Addr} {oc0 kV0 cd0 dc0 pm0 ct0 : Value} {od0 an0 : Option Addr} {sl0 : Array (Option Value)}
    {f1 : Addr} {oc1 kV1 cd1 dc1 pm1 ct1 : Value} {od1 an1 : Option Addr} {sl1 : Array (Option Value)}
    {f2 : Addr} {oc2 kV2 cd2 dc2 pm2 ct2 : Value} {od2 an2 : Option Addr} {sl2 : Array (Option Value)}
    {f3 : Addr} {oc3 kV3 cd3 dc3 pm3 ct3 : Value} {od3 an3 : Option Addr} {sl3 : Array (Option Value)}
    {f4 : Addr} {oc4 kV4 cd4 dc4 pm4 ct4 : Value} {od4 an4 : Option Addr} {sl4 : Array (Option Value)}
    {f5 : Addr} {oc5 kV5 cd5 dc5 pm5 ct5 : Value} {od5 an5 : Option Addr} {sl5 : Array (Option Value)}
    {f6 : Addr} {oc6 kV6 cd6 dc6 pm6 ct6 : Value} {od6 an6 : Option Addr} {sl6 : Array (Option Value)}
    {f7 : Addr} {oc7 kV7 cd7 dc7 pm7 ct7 : Value} {od7 an7 : Option Addr} {sl7 : Array (Option Value)}
    {f8 : Addr} {oc8 kV8 cd8 dc8 pm8 ct8 : Value} {od8 an8 : Option Addr} {sl8 : Array (Option Value)}
    {f9 : Addr} {oc9 kV9 cd9 dc9 pm9 ct9 : Value} {od9 an9 : Option Addr} {sl9 : Array (Option Value)}
    {f10 : Addr} {oc10 kV10 cd10 dc10 pm10 ct10 : Value} {od10 an10 : Option Addr} {sl10 : Array (Option Value)}
    {C0 g0 N0 : Addr} {xoc0 xkV0 xdc0 xpm0 xcd0 xct0 : Value} {xod0 xan0 : Option Addr} {xsl0 : Array (Option Value)} {nm0 qn0 : Str} {bs0 bm0 sub0 : List Value} {sn0 : List Str} {ab0 : Bool} {col0 : Option Bool} {dd0 : Option Addr} {m00 m10 m20 m30 m50 : Option Value}
    {C1 g1 N1 : Addr} {xoc1 xkV1 xdc1 xpm1 xcd1 xct1 : Value} {xod1 xan1 : Option Addr} {xsl1 : Array (Option Value)} {nm1 qn1 : Str} {bs1 bm1 sub1 : List Value} {sn1 : List Str} {ab1 : Bool} {col1 : Option Bool} {dd1 : Option Addr} {m01 m11 m21 m31 m51 : Option Value}
    {C2 g2 N2 : Addr} {xoc2 xkV2 xdc2 xpm2 xcd2 xct2 : Value} {xod2 xan2 : Option Addr} {xsl2 : Array (Option Value)} {nm2 qn2 : Str} {bs2 bm2 sub2 : List Value} {sn2 : List Str} {ab2 : Bool} {col2 : Option Bool} {dd2 : Option Addr} {m02 m12 m22 m32 m52 : Option Value}
    {C3 g3 N3 : Addr} {xoc3 xkV3 xdc3 xpm3 xcd3 xct3 : Value} {xod3 xan3 : Option Addr} {xsl3 : Array (Option Value)} {nm3 qn3 : Str} {bs3 bm3 sub3 : List Value} {sn3 : List Str} {ab3 : Bool} {col3 : Option Bool} {dd3 : Option Addr} {m03 m13 m23 m33 m53 : Option Value}
    {C4 g4 N4 : Addr} {xoc4 xkV4 xdc4 xpm4 xcd4 xct4 : Value} {xod4 xan4 : Option Addr} {xsl4 : Array (Option Value)} {nm4 qn4 : Str} {bs4 bm4 sub4 : List Value} {sn4 : List Str} {ab4 : Bool} {col4 : Option Bool} {dd4 : Option Addr} {m04 m14 m24 m34 m54 : Option Value}
    {C5 g5 N5 : Addr} {xoc5 xkV5 xdc5 xpm5 xcd5 xct5 : Value} {xod5 xan5 : Option Addr} {xsl5 : Array (Option Value)} {nm5 qn5 : Str} {bs5 bm5 sub5 : List Value} {sn5 : List Str} {ab5 : Bool} {col5 : Option Bool} {dd5 : Option Addr} {m05 m15 m25 m35 m55 : Option Value}
    {C6 g6 N6 : Addr} {xoc6 xkV6 xdc6 xpm6 xcd6 xct6 : Value} {xod6 xan6 : Option Addr} {xsl6 : Array (Option Value)} {nm6 qn6 : Str} {bs6 bm6 sub6 : List Value} {sn6 : List Str} {ab6 : Bool} {col6 : Option Bool} {dd6 : Option Addr} {m06 m16 m26 m36 m56 : Option Value}
    {C7 g7 N7 : Addr} {xoc7 xkV7 xdc7 xpm7 xcd7 xct7 : Value} {xod7 xan7 : Option Addr} {xsl7 : Array (Option Value)} {nm7 qn7 : Str} {bs7 bm7 sub7 : List Value} {sn7 : List Str} {ab7 : Bool} {col7 : Option Bool} {dd7 : Option Addr} {m07 m17 m27 m37 m57 : Option Value}
    {C8 g8 N8 : Addr} {xoc8 xkV8 xdc8 xpm8 xcd8 xct8 : Value} {xod8 xan8 : Option Addr} {xsl8 : Array (Option Value)} {nm8 qn8 : Str} {bs8 bm8 sub8 : List Value} {sn8 : List Str} {ab8 : Bool} {col8 : Option Bool} {dd8 : Option Addr} {m08 m18 m28 m38 m58 : Option Value}
    {C9 g9 N9 : Addr} {xoc9 xkV9 xdc9 xpm9 xcd9 xct9 : Value} {xod9 xan9 : Option Addr} {xsl9 : Array (Option Value)} {nm9 qn9 : Str} {bs9 bm9 sub9 : List Value} {sn9 : List Str} {ab9 : Bool} {col9 : Option Bool} {dd9 : Option Addr} {m09 m19 m29 m39 m59 : Option Value}
    {C10 g10 N10 : Addr} {xoc10 xkV10 xdc10 xpm10 xcd10 xct10 : Value} {xod10 xan10 : Option Addr} {xsl10 : Array (Option Value)} {nm10 qn10 : Str} {bs10 bm10 sub10 : List Value} {sn10 : List Str} {ab10 : Bool} {col10 : Option Bool} {dd10 : Option Addr} {m010 m110 m210 m310 m510 : Option Value}
    {C11 g11 N11 : Addr} {xoc11 xkV11 xdc11 xpm11 xcd11 xct11 : Value} {xod11 xan11 : Option Addr} {xsl11 : Array (Option Value)} {nm11 qn11 : Str} {bs11 bm11 sub11 : List Value} {sn11 : List Str} {ab11 : Bool} {col11 : Option Bool} {dd11 : Option Addr} {m011 m111 m211 m311 m511 : Option Value}
    {C12 g12 N12 : Addr} {xoc12 xkV12 xdc12 xpm12 xcd12 xct12 : Value} {xod12 xan12 : Option Addr} {xsl12 : Array (Option Value)} {nm12 qn12 : Str} {bs12 bm12 sub12 : List Value} {sn12 : List Str} {ab12 : Bool} {col12 : Option Bool} {dd12 : Option Addr} {m012 m112 m212 m312 m512 : Option Value}
    {C13 g13 N13 : Addr} {xoc13 xkV13 xdc13 xpm13 xcd13 xct13 : Value} {xod13 xan13 : Option Addr} {xsl13 : Array (Option Value)} {nm13 qn13 : Str} {bs13 bm13 sub13 : List Value} {sn13 : List Str} {ab13 : Bool} {col13 : Option Bool} {dd13 : Option Addr} {m013 m113 m213 m313 m513 : Option Value}
    {C14 g14 N14 : Addr} {xoc14 xkV14 xdc14 xpm14 xcd14 xct14 : Value} {xod14 xan14 : Option Addr} {xsl14 : Array (Option Value)} {nm14 qn14 : Str} {bs14 bm14 sub14 : List Value} {sn14 : List Str} {ab14 : Bool} {col14 : Option Bool} {dd14 : Option Addr} {m014 m114 m214 m314 m514 : Option Value}
    {C15 g15 N15 : Addr} {xoc15 xkV15 xdc15 xpm15 xcd15 xct15 : Value} {xod15 xan15 : Option Addr} {xsl15 : Array (Option Value)} {nm15 qn15 : Str} {bs15 bm15 sub15 : List Value} {sn15 : List Str} {ab15 : Bool} {col15 : Option Bool} {dd15 : Option Addr} {m015 m115 m215 m315 m515 : Option Value}
    {C16 g16 N16 : Addr} {xoc16 xkV16 xdc16 xpm16 xcd16 xct16 : Value} {xod16 xan16 : Option Addr} {xsl16 : Array (Option Value)} {nm16 qn16 : Str} {bs16 bm16 sub16 : List Value} {sn16 : List Str} {ab16 : Bool} {col16 : Option Bool} {dd16 : Option Addr} {m016 m116 m216 m316 m516 : Option Value}
    {C17 g17 N17 : Addr} {xoc17 xkV17 xdc17 xpm17 xcd17 xct17 : Value} {xod17 xan17 : Option Addr} {xsl17 : Array (Option Value)} {nm17 qn17 : Str} {bs17 bm17 sub17 : List Value} {sn17 : List Str} {ab17 : Bool} {col17 : Option Bool} {dd17 : Option Addr} {m017 m117 m217 m317 m517 : Option Value}
    {C18 g18 N18 : Addr} {xoc18 xkV18 xdc18 xpm18 xcd18 xct18 : Value} {xod18 xan18 : Option Addr} {xsl18 : Array (Option Value)} {nm18 qn18 : Str} {bs18 bm18 sub18 : List Value} {sn18 : List Str} {ab18 : Bool} {col18 : Option Bool} {dd18 : Option Addr} {m018 m118 m218 m318 m518 : Option Value}
    {C19 g19 N19 : Addr} {xoc19 xkV19 xdc19 xpm19 xcd19 xct19 : Value} {xod19 xan19 : Option Addr} {xsl19 : Array (Option Value)} {nm19 qn19 : Str} {bs19 bm19 sub19 : List Value} {sn19 : List Str} {ab19 : Bool} {col19 : Option Bool} {dd19 : Option Addr} {m019 m119 m219 m319 m519 : Option Value}
    {C20 g20 N20 : Addr} {xoc20 xkV20 xdc20 xpm20 xcd20 xct20 : Value} {xod20 xan20 : Option Addr} {xsl20 : Array (Option Value)} {nm20 qn20 : Str} {bs20 bm20 sub20 : List Value} {sn20 : List Str} {ab20 : Bool} {col20 : Option Bool} {dd20 : Option Addr} {m020 m120 m220 m320 m520 : Option Value}
    {C21 g21 N21 : Addr} {xoc21 xkV21 xdc21 xpm21 xcd21 xct21 : Value} {xod21 xan21 : Option Addr} {xsl21 : Array (Option Value)} {nm21 qn21 : Str} {bs21 bm21 sub21 : List Value} {sn21 : List Str} {ab21 : Bool} {col21 : Option Bool} {dd21 : Option Addr} {m021 m121 m221 m321 m521 : Option Value}
    {C22 g22 N22 : Addr} {xoc22 xkV22 xdc22 xpm22 xcd22 xct22 : Value} {xod22 xan22 : Option Addr} {xsl22 : Array (Option Value)} {nm22 qn22 : Str} {bs22 bm22 sub22 : List Value} {sn22 : List Str} {ab22 : Bool} {col22 : Option Bool} {dd22 : Option Addr} {m022 m122 m222 m322 m522 : Option Value}
    {tk_HOPS : Tok}
    {tk_MOST_ARRIVALS : Tok}
    {tk_MOST_BRIDGES : Tok}
    {tk_MOST_COPIES : Tok}
    {tk_MOST_EDITS : Tok}
    {tk_MOST_ENTRIES : Tok}
    {tk_MOST_FRAME : Tok}
    {tk_MOST_HOPS : Tok}
    {tk_MOST_KEPT : Tok}
    {tk_MOST_LINKS : Tok}
    {tk_MOST_LISTED : Tok}
    {tk_MOST_PORTS : Tok}
    {tk_MOST_STATES : Tok}
    {tk_MOST_TAG : Tok}
    {tk_MOST_WISHES : Tok}
    {B_TagError : Addr}
    {B_NoSuch : Addr}
    {B_Unheard : Addr}
    {B_Calm : Addr}
    {B_TooWide : Addr}
    {B_TooMany : Addr}
    {B_NothingToUndo : Addr}
    (a0 : PySem.W.nsIn K mainGlobals "_law_draws" = some (some (.ref f0)))
    (l0 : K.lookup f0 = some ⟨oc0, od0, .func (PySem.W.fnOf "_law_draws" "_law_draws" (defArgs s__law_draws) (defBody s__law_draws) (defScope s__law_draws) .none kV0 dc0 pm0 an0 cd0 ct0), sl0⟩)
    (c0 : PySem.W.codeIn K cd0 "_law_draws" = true)
    (k0 : PySem.W.keepIn K (.ref f0) = true)
    (a1 : PySem.W.nsIn K mainGlobals "_law_next" = some (some (.ref f1)))
    (l1 : K.lookup f1 = some ⟨oc1, od1, .func (PySem.W.fnOf "_law_next" "_law_next" (defArgs s__law_next) (defBody s__law_next) (defScope s__law_next) .none kV1 dc1 pm1 an1 cd1 ct1), sl1⟩)
    (c1 : PySem.W.codeIn K cd1 "_law_next" = true)
    (k1 : PySem.W.keepIn K (.ref f1) = true)
    (a2 : PySem.W.nsIn K mainGlobals "_law_limits" = some (some (.ref f2)))
    (l2 : K.lookup f2 = some ⟨oc2, od2, .func (PySem.W.fnOf "_law_limits" "_law_limits" (defArgs s__law_limits) (defBody s__law_limits) (defScope s__law_limits) .none kV2 dc2 pm2 an2 cd2 ct2), sl2⟩)
    (c2 : PySem.W.codeIn K cd2 "_law_limits" = true)
    (k2 : PySem.W.keepIn K (.ref f2) = true)
    (a3 : PySem.W.nsIn K mainGlobals "_law_equal" = some (some (.ref f3)))
    (l3 : K.lookup f3 = some ⟨oc3, od3, .func (PySem.W.fnOf "_law_equal" "_law_equal" (defArgs s__law_equal) (defBody s__law_equal) (defScope s__law_equal) .none kV3 dc3 pm3 an3 cd3 ct3), sl3⟩)
    (c3 : PySem.W.codeIn K cd3 "_law_equal" = true)
    (k3 : PySem.W.keepIn K (.ref f3) = true)
    (a4 : PySem.W.nsIn K mainGlobals "_law_own" = some (some (.ref f4)))
    (l4 : K.lookup f4 = some ⟨oc4, od4, .func (PySem.W.fnOf "_law_own" "_law_own" (defArgs s__law_own) (defBody s__law_own) (defScope s__law_own) .none kV4 dc4 pm4 an4 cd4 ct4), sl4⟩)
    (c4 : PySem.W.codeIn K cd4 "_law_own" = true)
    (k4 : PySem.W.keepIn K (.ref f4) = true)
    (a5 : PySem.W.nsIn K mainGlobals "_law_wrong" = some (some (.ref f5)))
    (l5 : K.lookup f5 = some ⟨oc5, od5, .func (PySem.W.fnOf "_law_wrong" "_law_wrong" (defArgs s__law_wrong) (defBody s__law_wrong) (defScope s__law_wrong) .none kV5 dc5 pm5 an5 cd5 ct5), sl5⟩)
    (c5 : PySem.W.codeIn K cd5 "_law_wrong" = true)
    (k5 : PySem.W.keepIn K (.ref f5) = true)
    (a6 : PySem.W.nsIn K mainGlobals "_law_one" = some (some (.ref f6)))
    (l6 : K.lookup f6 = some ⟨oc6, od6, .func (PySem.W.fnOf "_law_one" "_law_one" (defArgs s__law_one) (defBody s__law_one) (defScope s__law_one) .none kV6 dc6 pm6 an6 cd6 ct6), sl6⟩)
    (c6 : PySem.W.codeIn K cd6 "_law_one" = true)
    (k6 : PySem.W.keepIn K (.ref f6) = true)
    (a7 : PySem.W.nsIn K mainGlobals "_law_lacks" = some (some (.ref f7)))
    (l7 : K.lookup f7 = some ⟨oc7, od7, .func (PySem.W.fnOf "_law_lacks" "_law_lacks" (defArgs s__law_lacks) (defBody s__law_lacks) (defScope s__law_lacks) .none kV7 dc7 pm7 an7 cd7 ct7), sl7⟩)
    (c7 : PySem.W.codeIn K cd7 "_law_lacks" = true)
    (k7 : PySem.W.keepIn K (.ref f7) = true)
    (a8 : PySem.W.nsIn K mainGlobals "_law_one_kept" = some (some (.ref f8)))
    (l8 : K.lookup f8 = some ⟨oc8, od8, .func (PySem.W.fnOf "_law_one_kept" "_law_one_kept" (defArgs s__law_one_kept) (defBody s__law_one_kept) (defScope s__law_one_kept) .none kV8 dc8 pm8 an8 cd8 ct8), sl8⟩)
    (c8 : PySem.W.codeIn K cd8 "_law_one_kept" = true)
    (k8 : PySem.W.keepIn K (.ref f8) = true)
    (a9 : PySem.W.nsIn K mainGlobals "_law_two_kept" = some (some (.ref f9)))
    (l9 : K.lookup f9 = some ⟨oc9, od9, .func (PySem.W.fnOf "_law_two_kept" "_law_two_kept" (defArgs s__law_two_kept) (defBody s__law_two_kept) (defScope s__law_two_kept) .none kV9 dc9 pm9 an9 cd9 ct9), sl9⟩)
    (c9 : PySem.W.codeIn K cd9 "_law_two_kept" = true)
    (k9 : PySem.W.keepIn K (.ref f9) = true)
    (a10 : PySem.W.nsIn K mainGlobals "law" = some (some (.ref f10)))
    (l10 : K.lookup f10 = some ⟨oc10, od10, .func (PySem.W.fnOf "law" "law" (defArgs s_law) (defBody s_law) (defScope s_law) .none kV10 dc10 pm10 an10 cd10 ct10), sl10⟩)
    (c10 : PySem.W.codeIn K cd10 "law" = true)
    (k10 : PySem.W.keepIn K (.ref f10) = true)
    (xa0 : PySem.W.nsIn K mainGlobals "BadTag" = some (some (.ref C0)))
    (xi0 : PySem.W.findIn K (.ref C0) "__init__" = some (some (.ref g0)))
    (xt0 : PySem.W.typeIn K (.ref g0) = some (.type "function"))
    (xl0 : K.lookup g0 = some ⟨xoc0, xod0, .func (PySem.W.fnOf "__init__" "BadTag.__init__" (defArgs s_x_BadTag) (defBody s_x_BadTag) (defScope s_x_BadTag) .none xkV0 xdc0 xpm0 xan0 xcd0 xct0), xsl0⟩)
    (xc0 : PySem.W.codeIn K xcd0 "BadTag.__init__" = true)
    (xk0 : PySem.W.keepIn K (.ref g0) = true)
    (xL0 : K.lookup C0 = some (excClassObj nm0 qn0 C0 N0 bs0 bm0 true sn0 sub0 ab0 col0 dd0 m00 m10 m20 m30 m50 "ValueError.__new__"))
    (xr0 : PySem.HandSPX.refsVE bm0 = true)
    (xs0 : PySem.W.findIn K (.ref C0) "__setattr__" = some (some (.builtin "object.__setattr__")))
    (xe0 : PySem.W.subIn K (.ref C0) (.type "BaseException") = some true)
    (xy0 : PySem.W.typeIn K (.ref C0) = some (.type "type"))
    (xq0 : PySem.W.keepIn K (.ref C0) = true)
    (xg0 : PySem.W.findIn K (.ref C0) "__getattribute__" = some (some (.builtin "BaseException.__getattribute__")))
    (xh0 : PySem.W.findIn K (.ref C0) "__getattr__" = some none)
    (xd0 : PySem.W.hasDictIn K C0 = true)
    (xn0_value : PySem.W.findIn K (.ref C0) "value" = some none)
    (xa1 : PySem.W.nsIn K mainGlobals "BadFrame" = some (some (.ref C1)))
    (xi1 : PySem.W.findIn K (.ref C1) "__init__" = some (some (.ref g1)))
    (xt1 : PySem.W.typeIn K (.ref g1) = some (.type "function"))
    (xl1 : K.lookup g1 = some ⟨xoc1, xod1, .func (PySem.W.fnOf "__init__" "BadFrame.__init__" (defArgs s_x_BadFrame) (defBody s_x_BadFrame) (defScope s_x_BadFrame) .none xkV1 xdc1 xpm1 xan1 xcd1 xct1), xsl1⟩)
    (xc1 : PySem.W.codeIn K xcd1 "BadFrame.__init__" = true)
    (xk1 : PySem.W.keepIn K (.ref g1) = true)
    (xL1 : K.lookup C1 = some (excClassObj nm1 qn1 C1 N1 bs1 bm1 true sn1 sub1 ab1 col1 dd1 m01 m11 m21 m31 m51 "ValueError.__new__"))
    (xr1 : PySem.HandSPX.refsVE bm1 = true)
    (xs1 : PySem.W.findIn K (.ref C1) "__setattr__" = some (some (.builtin "object.__setattr__")))
    (xe1 : PySem.W.subIn K (.ref C1) (.type "BaseException") = some true)
    (xy1 : PySem.W.typeIn K (.ref C1) = some (.type "type"))
    (xq1 : PySem.W.keepIn K (.ref C1) = true)
    (xg1 : PySem.W.findIn K (.ref C1) "__getattribute__" = some (some (.builtin "BaseException.__getattribute__")))
    (xh1 : PySem.W.findIn K (.ref C1) "__getattr__" = some none)
    (xd1 : PySem.W.hasDictIn K C1 = true)
    (xn1_index : PySem.W.findIn K (.ref C1) "index" = some none)
    (xa2 : PySem.W.nsIn K mainGlobals "BadText" = some (some (.ref C2)))
    (xi2 : PySem.W.findIn K (.ref C2) "__init__" = some (some (.ref g2)))
    (xt2 : PySem.W.typeIn K (.ref g2) = some (.type "function"))
    (xl2 : K.lookup g2 = some ⟨xoc2, xod2, .func (PySem.W.fnOf "__init__" "BadText.__init__" (defArgs s_x_BadText) (defBody s_x_BadText) (defScope s_x_BadText) .none xkV2 xdc2 xpm2 xan2 xcd2 xct2), xsl2⟩)
    (xc2 : PySem.W.codeIn K xcd2 "BadText.__init__" = true)
    (xk2 : PySem.W.keepIn K (.ref g2) = true)
    (xL2 : K.lookup C2 = some (excClassObj nm2 qn2 C2 N2 bs2 bm2 true sn2 sub2 ab2 col2 dd2 m02 m12 m22 m32 m52 "ValueError.__new__"))
    (xr2 : PySem.HandSPX.refsVE bm2 = true)
    (xs2 : PySem.W.findIn K (.ref C2) "__setattr__" = some (some (.builtin "object.__setattr__")))
    (xe2 : PySem.W.subIn K (.ref C2) (.type "BaseException") = some true)
    (xy2 : PySem.W.typeIn K (.ref C2) = some (.type "type"))
    (xq2 : PySem.W.keepIn K (.ref C2) = true)
    (xg2 : PySem.W.findIn K (.ref C2) "__getattribute__" = some (some (.builtin "BaseException.__getattribute__")))
    (xh2 : PySem.W.findIn K (.ref C2) "__getattr__" = some none)
    (xd2 : PySem.W.hasDictIn K C2 = true)
    (xn2_index : PySem.W.findIn K (.ref C2) "index" = some none)
    (xa3 : PySem.W.nsIn K mainGlobals "BadNumber" = some (some (.ref C3)))
    (xi3 : PySem.W.findIn K (.ref C3) "__init__" = some (some (.ref g3)))
    (xt3 : PySem.W.typeIn K (.ref g3) = some (.type "function"))
    (xl3 : K.lookup g3 = some ⟨xoc3, xod3, .func (PySem.W.fnOf "__init__" "BadNumber.__init__" (defArgs s_x_BadNumber) (defBody s_x_BadNumber) (defScope s_x_BadNumber) .none xkV3 xdc3 xpm3 xan3 xcd3 xct3), xsl3⟩)
    (xc3 : PySem.W.codeIn K xcd3 "BadNumber.__init__" = true)
    (xk3 : PySem.W.keepIn K (.ref g3) = true)
    (xL3 : K.lookup C3 = some (excClassObj nm3 qn3 C3 N3 bs3 bm3 true sn3 sub3 ab3 col3 dd3 m03 m13 m23 m33 m53 "ValueError.__new__"))
    (xr3 : PySem.HandSPX.refsVE bm3 = true)
    (xs3 : PySem.W.findIn K (.ref C3) "__setattr__" = some (some (.builtin "object.__setattr__")))
    (xe3 : PySem.W.subIn K (.ref C3) (.type "BaseException") = some true)
    (xy3 : PySem.W.typeIn K (.ref C3) = some (.type "type"))
    (xq3 : PySem.W.keepIn K (.ref C3) = true)
    (xg3 : PySem.W.findIn K (.ref C3) "__getattribute__" = some (some (.builtin "BaseException.__getattribute__")))
    (xh3 : PySem.W.findIn K (.ref C3) "__getattr__" = some none)
    (xd3 : PySem.W.hasDictIn K C3 = true)
    (xn3_value : PySem.W.findIn K (.ref C3) "value" = some none)
    (xa4 : PySem.W.nsIn K mainGlobals "BadList" = some (some (.ref C4)))
    (xi4 : PySem.W.findIn K (.ref C4) "__init__" = some (some (.ref g4)))
    (xt4 : PySem.W.typeIn K (.ref g4) = some (.type "function"))
    (xl4 : K.lookup g4 = some ⟨xoc4, xod4, .func (PySem.W.fnOf "__init__" "BadList.__init__" (defArgs s_x_BadList) (defBody s_x_BadList) (defScope s_x_BadList) .none xkV4 xdc4 xpm4 xan4 xcd4 xct4), xsl4⟩)
    (xc4 : PySem.W.codeIn K xcd4 "BadList.__init__" = true)
    (xk4 : PySem.W.keepIn K (.ref g4) = true)
    (xL4 : K.lookup C4 = some (excClassObj nm4 qn4 C4 N4 bs4 bm4 true sn4 sub4 ab4 col4 dd4 m04 m14 m24 m34 m54 "ValueError.__new__"))
    (xr4 : PySem.HandSPX.refsVE bm4 = true)
    (xs4 : PySem.W.findIn K (.ref C4) "__setattr__" = some (some (.builtin "object.__setattr__")))
    (xe4 : PySem.W.subIn K (.ref C4) (.type "BaseException") = some true)
    (xy4 : PySem.W.typeIn K (.ref C4) = some (.type "type"))
    (xq4 : PySem.W.keepIn K (.ref C4) = true)
    (xg4 : PySem.W.findIn K (.ref C4) "__getattribute__" = some (some (.builtin "BaseException.__getattribute__")))
    (xh4 : PySem.W.findIn K (.ref C4) "__getattr__" = some none)
    (xd4 : PySem.W.hasDictIn K C4 = true)
    (xn4_index : PySem.W.findIn K (.ref C4) "index" = some none)
    (xa5 : PySem.W.nsIn K mainGlobals "BadEntry" = some (some (.ref C5)))
    (xi5 : PySem.W.findIn K (.ref C5) "__init__" = some (some (.ref g5)))
    (xt5 : PySem.W.typeIn K (.ref g5) = some (.type "function"))
    (xl5 : K.lookup g5 = some ⟨xoc5, xod5, .func (PySem.W.fnOf "__init__" "BadEntry.__init__" (defArgs s_x_BadEntry) (defBody s_x_BadEntry) (defScope s_x_BadEntry) .none xkV5 xdc5 xpm5 xan5 xcd5 xct5), xsl5⟩)
    (xc5 : PySem.W.codeIn K xcd5 "BadEntry.__init__" = true)
    (xk5 : PySem.W.keepIn K (.ref g5) = true)
    (xL5 : K.lookup C5 = some (excClassObj nm5 qn5 C5 N5 bs5 bm5 true sn5 sub5 ab5 col5 dd5 m05 m15 m25 m35 m55 "ValueError.__new__"))
    (xr5 : PySem.HandSPX.refsVE bm5 = true)
    (xs5 : PySem.W.findIn K (.ref C5) "__setattr__" = some (some (.builtin "object.__setattr__")))
    (xe5 : PySem.W.subIn K (.ref C5) (.type "BaseException") = some true)
    (xy5 : PySem.W.typeIn K (.ref C5) = some (.type "type"))
    (xq5 : PySem.W.keepIn K (.ref C5) = true)
    (xg5 : PySem.W.findIn K (.ref C5) "__getattribute__" = some (some (.builtin "BaseException.__getattribute__")))
    (xh5 : PySem.W.findIn K (.ref C5) "__getattr__" = some none)
    (xd5 : PySem.W.hasDictIn K C5 = true)
    (xn5_part : PySem.W.findIn K (.ref C5) "part" = some none)
    (xn5_index : PySem.W.findIn K (.ref C5) "index" = some none)
    (xa6 : PySem.W.nsIn K mainGlobals "BadRows" = some (some (.ref C6)))
    (xi6 : PySem.W.findIn K (.ref C6) "__init__" = some (some (.ref g6)))
    (xt6 : PySem.W.typeIn K (.ref g6) = some (.type "function"))
    (xl6 : K.lookup g6 = some ⟨xoc6, xod6, .func (PySem.W.fnOf "__init__" "BadRows.__init__" (defArgs s_x_BadRows) (defBody s_x_BadRows) (defScope s_x_BadRows) .none xkV6 xdc6 xpm6 xan6 xcd6 xct6), xsl6⟩)
    (xc6 : PySem.W.codeIn K xcd6 "BadRows.__init__" = true)
    (xk6 : PySem.W.keepIn K (.ref g6) = true)
    (xL6 : K.lookup C6 = some (excClassObj nm6 qn6 C6 N6 bs6 bm6 true sn6 sub6 ab6 col6 dd6 m06 m16 m26 m36 m56 "ValueError.__new__"))
    (xr6 : PySem.HandSPX.refsVE bm6 = true)
    (xs6 : PySem.W.findIn K (.ref C6) "__setattr__" = some (some (.builtin "object.__setattr__")))
    (xe6 : PySem.W.subIn K (.ref C6) (.type "BaseException") = some true)
    (xy6 : PySem.W.typeIn K (.ref C6) = some (.type "type"))
    (xq6 : PySem.W.keepIn K (.ref C6) = true)
    (xg6 : PySem.W.findIn K (.ref C6) "__getattribute__" = some (some (.builtin "BaseException.__getattribute__")))
    (xh6 : PySem.W.findIn K (.ref C6) "__getattr__" = some none)
    (xd6 : PySem.W.hasDictIn K C6 = true)
    (xn6_index : PySem.W.findIn K (.ref C6) "index" = some none)
    (xa7 : PySem.W.nsIn K mainGlobals "BadNet" = some (some (.ref C7)))
    (xi7 : PySem.W.findIn K (.ref C7) "__init__" = some (some (.ref g7)))
    (xt7 : PySem.W.typeIn K (.ref g7) = some (.type "function"))
    (xl7 : K.lookup g7 = some ⟨xoc7, xod7, .func (PySem.W.fnOf "__init__" "BadNet.__init__" (defArgs s_x_BadNet) (defBody s_x_BadNet) (defScope s_x_BadNet) .none xkV7 xdc7 xpm7 xan7 xcd7 xct7), xsl7⟩)
    (xc7 : PySem.W.codeIn K xcd7 "BadNet.__init__" = true)
    (xk7 : PySem.W.keepIn K (.ref g7) = true)
    (xL7 : K.lookup C7 = some (excClassObj nm7 qn7 C7 N7 bs7 bm7 true sn7 sub7 ab7 col7 dd7 m07 m17 m27 m37 m57 "ValueError.__new__"))
    (xr7 : PySem.HandSPX.refsVE bm7 = true)
    (xs7 : PySem.W.findIn K (.ref C7) "__setattr__" = some (some (.builtin "object.__setattr__")))
    (xe7 : PySem.W.subIn K (.ref C7) (.type "BaseException") = some true)
    (xy7 : PySem.W.typeIn K (.ref C7) = some (.type "type"))
    (xq7 : PySem.W.keepIn K (.ref C7) = true)
    (xg7 : PySem.W.findIn K (.ref C7) "__getattribute__" = some (some (.builtin "BaseException.__getattribute__")))
    (xh7 : PySem.W.findIn K (.ref C7) "__getattr__" = some none)
    (xd7 : PySem.W.hasDictIn K C7 = true)
    (xn7_bridge : PySem.W.findIn K (.ref C7) "bridge" = some none)
    (xn7_port : PySem.W.findIn K (.ref C7) "port" = some none)
    (xa8 : PySem.W.nsIn K mainGlobals "BadLinks" = some (some (.ref C8)))
    (xi8 : PySem.W.findIn K (.ref C8) "__init__" = some (some (.ref g8)))
    (xt8 : PySem.W.typeIn K (.ref g8) = some (.type "function"))
    (xl8 : K.lookup g8 = some ⟨xoc8, xod8, .func (PySem.W.fnOf "__init__" "BadLinks.__init__" (defArgs s_x_BadLinks) (defBody s_x_BadLinks) (defScope s_x_BadLinks) .none xkV8 xdc8 xpm8 xan8 xcd8 xct8), xsl8⟩)
    (xc8 : PySem.W.codeIn K xcd8 "BadLinks.__init__" = true)
    (xk8 : PySem.W.keepIn K (.ref g8) = true)
    (xL8 : K.lookup C8 = some (excClassObj nm8 qn8 C8 N8 bs8 bm8 true sn8 sub8 ab8 col8 dd8 m08 m18 m28 m38 m58 "ValueError.__new__"))
    (xr8 : PySem.HandSPX.refsVE bm8 = true)
    (xs8 : PySem.W.findIn K (.ref C8) "__setattr__" = some (some (.builtin "object.__setattr__")))
    (xe8 : PySem.W.subIn K (.ref C8) (.type "BaseException") = some true)
    (xy8 : PySem.W.typeIn K (.ref C8) = some (.type "type"))
    (xq8 : PySem.W.keepIn K (.ref C8) = true)
    (xg8 : PySem.W.findIn K (.ref C8) "__getattribute__" = some (some (.builtin "BaseException.__getattribute__")))
    (xh8 : PySem.W.findIn K (.ref C8) "__getattr__" = some none)
    (xd8 : PySem.W.hasDictIn K C8 = true)
    (xn8_index : PySem.W.findIn K (.ref C8) "index" = some none)
    (xa9 : PySem.W.nsIn K mainGlobals "NoPort" = some (some (.ref C9)))
    (xi9 : PySem.W.findIn K (.ref C9) "__init__" = some (some (.ref g9)))
    (xt9 : PySem.W.typeIn K (.ref g9) = some (.type "function"))
    (xl9 : K.lookup g9 = some ⟨xoc9, xod9, .func (PySem.W.fnOf "__init__" "NoPort.__init__" (defArgs s_x_NoPort) (defBody s_x_NoPort) (defScope s_x_NoPort) .none xkV9 xdc9 xpm9 xan9 xcd9 xct9), xsl9⟩)
    (xc9 : PySem.W.codeIn K xcd9 "NoPort.__init__" = true)
    (xk9 : PySem.W.keepIn K (.ref g9) = true)
    (xL9 : K.lookup C9 = some (excClassObj nm9 qn9 C9 N9 bs9 bm9 true sn9 sub9 ab9 col9 dd9 m09 m19 m29 m39 m59 "ValueError.__new__"))
    (xr9 : PySem.HandSPX.refsVE bm9 = true)
    (xs9 : PySem.W.findIn K (.ref C9) "__setattr__" = some (some (.builtin "object.__setattr__")))
    (xe9 : PySem.W.subIn K (.ref C9) (.type "BaseException") = some true)
    (xy9 : PySem.W.typeIn K (.ref C9) = some (.type "type"))
    (xq9 : PySem.W.keepIn K (.ref C9) = true)
    (xg9 : PySem.W.findIn K (.ref C9) "__getattribute__" = some (some (.builtin "BaseException.__getattribute__")))
    (xh9 : PySem.W.findIn K (.ref C9) "__getattr__" = some none)
    (xd9 : PySem.W.hasDictIn K C9 = true)
    (xn9_value : PySem.W.findIn K (.ref C9) "value" = some none)
    (xa10 : PySem.W.nsIn K mainGlobals "BadLine" = some (some (.ref C10)))
    (xi10 : PySem.W.findIn K (.ref C10) "__init__" = some (some (.ref g10)))
    (xt10 : PySem.W.typeIn K (.ref g10) = some (.type "function"))
    (xl10 : K.lookup g10 = some ⟨xoc10, xod10, .func (PySem.W.fnOf "__init__" "BadLine.__init__" (defArgs s_x_BadLine) (defBody s_x_BadLine) (defScope s_x_BadLine) .none xkV10 xdc10 xpm10 xan10 xcd10 xct10), xsl10⟩)
    (xc10 : PySem.W.codeIn K xcd10 "BadLine.__init__" = true)
    (xk10 : PySem.W.keepIn K (.ref g10) = true)
    (xL10 : K.lookup C10 = some (excClassObj nm10 qn10 C10 N10 bs10 bm10 true sn10 sub10 ab10 col10 dd10 m010 m110 m210 m310 m510 "ValueError.__new__"))
    (xr10 : PySem.HandSPX.refsVE bm10 = true)
    (xs10 : PySem.W.findIn K (.ref C10) "__setattr__" = some (some (.builtin "object.__setattr__")))
    (xe10 : PySem.W.subIn K (.ref C10) (.type "BaseException") = some true)
    (xy10 : PySem.W.typeIn K (.ref C10) = some (.type "type"))
    (xq10 : PySem.W.keepIn K (.ref C10) = true)
    (xg10 : PySem.W.findIn K (.ref C10) "__getattribute__" = some (some (.builtin "BaseException.__getattribute__")))
    (xh10 : PySem.W.findIn K (.ref C10) "__getattr__" = some none)
    (xd10 : PySem.W.hasDictIn K C10 = true)
    (xn10_line : PySem.W.findIn K (.ref C10) "line" = some none)
    (xa11 : PySem.W.nsIn K mainGlobals "BadWish" = some (some (.ref C11)))
    (xi11 : PySem.W.findIn K (.ref C11) "__init__" = some (some (.ref g11)))
    (xt11 : PySem.W.typeIn K (.ref g11) = some (.type "function"))
    (xl11 : K.lookup g11 = some ⟨xoc11, xod11, .func (PySem.W.fnOf "__init__" "BadWish.__init__" (defArgs s_x_BadWish) (defBody s_x_BadWish) (defScope s_x_BadWish) .none xkV11 xdc11 xpm11 xan11 xcd11 xct11), xsl11⟩)
    (xc11 : PySem.W.codeIn K xcd11 "BadWish.__init__" = true)
    (xk11 : PySem.W.keepIn K (.ref g11) = true)
    (xL11 : K.lookup C11 = some (excClassObj nm11 qn11 C11 N11 bs11 bm11 true sn11 sub11 ab11 col11 dd11 m011 m111 m211 m311 m511 "ValueError.__new__"))
    (xr11 : PySem.HandSPX.refsVE bm11 = true)
    (xs11 : PySem.W.findIn K (.ref C11) "__setattr__" = some (some (.builtin "object.__setattr__")))
    (xe11 : PySem.W.subIn K (.ref C11) (.type "BaseException") = some true)
    (xy11 : PySem.W.typeIn K (.ref C11) = some (.type "type"))
    (xq11 : PySem.W.keepIn K (.ref C11) = true)
    (xg11 : PySem.W.findIn K (.ref C11) "__getattribute__" = some (some (.builtin "BaseException.__getattribute__")))
    (xh11 : PySem.W.findIn K (.ref C11) "__getattr__" = some none)
    (xd11 : PySem.W.hasDictIn K C11 = true)
    (xn11_index : PySem.W.findIn K (.ref C11) "index" = some none)
    (xa12 : PySem.W.nsIn K mainGlobals "BadEdit" = some (some (.ref C12)))
    (xi12 : PySem.W.findIn K (.ref C12) "__init__" = some (some (.ref g12)))
    (xt12 : PySem.W.typeIn K (.ref g12) = some (.type "function"))
    (xl12 : K.lookup g12 = some ⟨xoc12, xod12, .func (PySem.W.fnOf "__init__" "BadEdit.__init__" (defArgs s_x_BadEdit) (defBody s_x_BadEdit) (defScope s_x_BadEdit) .none xkV12 xdc12 xpm12 xan12 xcd12 xct12), xsl12⟩)
    (xc12 : PySem.W.codeIn K xcd12 "BadEdit.__init__" = true)
    (xk12 : PySem.W.keepIn K (.ref g12) = true)
    (xL12 : K.lookup C12 = some (excClassObj nm12 qn12 C12 N12 bs12 bm12 true sn12 sub12 ab12 col12 dd12 m012 m112 m212 m312 m512 "ValueError.__new__"))
    (xr12 : PySem.HandSPX.refsVE bm12 = true)
    (xs12 : PySem.W.findIn K (.ref C12) "__setattr__" = some (some (.builtin "object.__setattr__")))
    (xe12 : PySem.W.subIn K (.ref C12) (.type "BaseException") = some true)
    (xy12 : PySem.W.typeIn K (.ref C12) = some (.type "type"))
    (xq12 : PySem.W.keepIn K (.ref C12) = true)
    (xg12 : PySem.W.findIn K (.ref C12) "__getattribute__" = some (some (.builtin "BaseException.__getattribute__")))
    (xh12 : PySem.W.findIn K (.ref C12) "__getattr__" = some none)
    (xd12 : PySem.W.hasDictIn K C12 = true)
    (xn12_index : PySem.W.findIn K (.ref C12) "index" = some none)
    (xa13 : PySem.W.nsIn K mainGlobals "Broken" = some (some (.ref C13)))
    (xi13 : PySem.W.findIn K (.ref C13) "__init__" = some (some (.ref g13)))
    (xt13 : PySem.W.typeIn K (.ref g13) = some (.type "function"))
    (xl13 : K.lookup g13 = some ⟨xoc13, xod13, .func (PySem.W.fnOf "__init__" "Broken.__init__" (defArgs s_x_Broken) (defBody s_x_Broken) (defScope s_x_Broken) .none xkV13 xdc13 xpm13 xan13 xcd13 xct13), xsl13⟩)
    (xc13 : PySem.W.codeIn K xcd13 "Broken.__init__" = true)
    (xk13 : PySem.W.keepIn K (.ref g13) = true)
    (xL13 : K.lookup C13 = some (excClassObj nm13 qn13 C13 N13 bs13 bm13 true sn13 sub13 ab13 col13 dd13 m013 m113 m213 m313 m513 "ValueError.__new__"))
    (xr13 : PySem.HandSPX.refsVE bm13 = true)
    (xs13 : PySem.W.findIn K (.ref C13) "__setattr__" = some (some (.builtin "object.__setattr__")))
    (xe13 : PySem.W.subIn K (.ref C13) (.type "BaseException") = some true)
    (xy13 : PySem.W.typeIn K (.ref C13) = some (.type "type"))
    (xq13 : PySem.W.keepIn K (.ref C13) = true)
    (xg13 : PySem.W.findIn K (.ref C13) "__getattribute__" = some (some (.builtin "BaseException.__getattribute__")))
    (xh13 : PySem.W.findIn K (.ref C13) "__getattr__" = some none)
    (xd13 : PySem.W.hasDictIn K C13 = true)
    (xn13_index : PySem.W.findIn K (.ref C13) "index" = some none)
    (xn13_frame : PySem.W.findIn K (.ref C13) "frame" = some none)
    (xa14 : PySem.W.nsIn K mainGlobals "NotIn" = some (some (.ref C14)))
    (xi14 : PySem.W.findIn K (.ref C14) "__init__" = some (some (.ref g14)))
    (xt14 : PySem.W.typeIn K (.ref g14) = some (.type "function"))
    (xl14 : K.lookup g14 = some ⟨xoc14, xod14, .func (PySem.W.fnOf "__init__" "NotIn.__init__" (defArgs s_x_NotIn) (defBody s_x_NotIn) (defScope s_x_NotIn) .none xkV14 xdc14 xpm14 xan14 xcd14 xct14), xsl14⟩)
    (xc14 : PySem.W.codeIn K xcd14 "NotIn.__init__" = true)
    (xk14 : PySem.W.keepIn K (.ref g14) = true)
    (xL14 : K.lookup C14 = some (excClassObj nm14 qn14 C14 N14 bs14 bm14 true sn14 sub14 ab14 col14 dd14 m014 m114 m214 m314 m514 "ValueError.__new__"))
    (xr14 : PySem.HandSPX.refsVE bm14 = true)
    (xs14 : PySem.W.findIn K (.ref C14) "__setattr__" = some (some (.builtin "object.__setattr__")))
    (xe14 : PySem.W.subIn K (.ref C14) (.type "BaseException") = some true)
    (xy14 : PySem.W.typeIn K (.ref C14) = some (.type "type"))
    (xq14 : PySem.W.keepIn K (.ref C14) = true)
    (xg14 : PySem.W.findIn K (.ref C14) "__getattribute__" = some (some (.builtin "BaseException.__getattribute__")))
    (xh14 : PySem.W.findIn K (.ref C14) "__getattr__" = some none)
    (xd14 : PySem.W.hasDictIn K C14 = true)
    (xn14_frame : PySem.W.findIn K (.ref C14) "frame" = some none)
    (xa15 : PySem.W.nsIn K mainGlobals "Lost" = some (some (.ref C15)))
    (xi15 : PySem.W.findIn K (.ref C15) "__init__" = some (some (.ref g15)))
    (xt15 : PySem.W.typeIn K (.ref g15) = some (.type "function"))
    (xl15 : K.lookup g15 = some ⟨xoc15, xod15, .func (PySem.W.fnOf "__init__" "Lost.__init__" (defArgs s_x_Lost) (defBody s_x_Lost) (defScope s_x_Lost) .none xkV15 xdc15 xpm15 xan15 xcd15 xct15), xsl15⟩)
    (xc15 : PySem.W.codeIn K xcd15 "Lost.__init__" = true)
    (xk15 : PySem.W.keepIn K (.ref g15) = true)
    (xL15 : K.lookup C15 = some (excClassObj nm15 qn15 C15 N15 bs15 bm15 true sn15 sub15 ab15 col15 dd15 m015 m115 m215 m315 m515 "ValueError.__new__"))
    (xr15 : PySem.HandSPX.refsVE bm15 = true)
    (xs15 : PySem.W.findIn K (.ref C15) "__setattr__" = some (some (.builtin "object.__setattr__")))
    (xe15 : PySem.W.subIn K (.ref C15) (.type "BaseException") = some true)
    (xy15 : PySem.W.typeIn K (.ref C15) = some (.type "type"))
    (xq15 : PySem.W.keepIn K (.ref C15) = true)
    (xg15 : PySem.W.findIn K (.ref C15) "__getattribute__" = some (some (.builtin "BaseException.__getattribute__")))
    (xh15 : PySem.W.findIn K (.ref C15) "__getattr__" = some none)
    (xd15 : PySem.W.hasDictIn K C15 = true)
    (xn15_index : PySem.W.findIn K (.ref C15) "index" = some none)
    (xa16 : PySem.W.nsIn K mainGlobals "TooFar" = some (some (.ref C16)))
    (xi16 : PySem.W.findIn K (.ref C16) "__init__" = some (some (.ref g16)))
    (xt16 : PySem.W.typeIn K (.ref g16) = some (.type "function"))
    (xl16 : K.lookup g16 = some ⟨xoc16, xod16, .func (PySem.W.fnOf "__init__" "TooFar.__init__" (defArgs s_x_TooFar) (defBody s_x_TooFar) (defScope s_x_TooFar) .none xkV16 xdc16 xpm16 xan16 xcd16 xct16), xsl16⟩)
    (xc16 : PySem.W.codeIn K xcd16 "TooFar.__init__" = true)
    (xk16 : PySem.W.keepIn K (.ref g16) = true)
    (xL16 : K.lookup C16 = some (excClassObj nm16 qn16 C16 N16 bs16 bm16 true sn16 sub16 ab16 col16 dd16 m016 m116 m216 m316 m516 "ValueError.__new__"))
    (xr16 : PySem.HandSPX.refsVE bm16 = true)
    (xs16 : PySem.W.findIn K (.ref C16) "__setattr__" = some (some (.builtin "object.__setattr__")))
    (xe16 : PySem.W.subIn K (.ref C16) (.type "BaseException") = some true)
    (xy16 : PySem.W.typeIn K (.ref C16) = some (.type "type"))
    (xq16 : PySem.W.keepIn K (.ref C16) = true)
    (xg16 : PySem.W.findIn K (.ref C16) "__getattribute__" = some (some (.builtin "BaseException.__getattribute__")))
    (xh16 : PySem.W.findIn K (.ref C16) "__getattr__" = some none)
    (xd16 : PySem.W.hasDictIn K C16 = true)
    (xn16_hops : PySem.W.findIn K (.ref C16) "hops" = some none)
    (xa17 : PySem.W.nsIn K mainGlobals "Crowded" = some (some (.ref C17)))
    (xi17 : PySem.W.findIn K (.ref C17) "__init__" = some (some (.ref g17)))
    (xt17 : PySem.W.typeIn K (.ref g17) = some (.type "function"))
    (xl17 : K.lookup g17 = some ⟨xoc17, xod17, .func (PySem.W.fnOf "__init__" "Crowded.__init__" (defArgs s_x_Crowded) (defBody s_x_Crowded) (defScope s_x_Crowded) .none xkV17 xdc17 xpm17 xan17 xcd17 xct17), xsl17⟩)
    (xc17 : PySem.W.codeIn K xcd17 "Crowded.__init__" = true)
    (xk17 : PySem.W.keepIn K (.ref g17) = true)
    (xL17 : K.lookup C17 = some (excClassObj nm17 qn17 C17 N17 bs17 bm17 true sn17 sub17 ab17 col17 dd17 m017 m117 m217 m317 m517 "ValueError.__new__"))
    (xr17 : PySem.HandSPX.refsVE bm17 = true)
    (xs17 : PySem.W.findIn K (.ref C17) "__setattr__" = some (some (.builtin "object.__setattr__")))
    (xe17 : PySem.W.subIn K (.ref C17) (.type "BaseException") = some true)
    (xy17 : PySem.W.typeIn K (.ref C17) = some (.type "type"))
    (xq17 : PySem.W.keepIn K (.ref C17) = true)
    (xg17 : PySem.W.findIn K (.ref C17) "__getattribute__" = some (some (.builtin "BaseException.__getattribute__")))
    (xh17 : PySem.W.findIn K (.ref C17) "__getattr__" = some none)
    (xd17 : PySem.W.hasDictIn K C17 = true)
    (xn17_hops : PySem.W.findIn K (.ref C17) "hops" = some none)
    (xa18 : PySem.W.nsIn K mainGlobals "UnlikeEnds" = some (some (.ref C18)))
    (xi18 : PySem.W.findIn K (.ref C18) "__init__" = some (some (.ref g18)))
    (xt18 : PySem.W.typeIn K (.ref g18) = some (.type "function"))
    (xl18 : K.lookup g18 = some ⟨xoc18, xod18, .func (PySem.W.fnOf "__init__" "UnlikeEnds.__init__" (defArgs s_x_UnlikeEnds) (defBody s_x_UnlikeEnds) (defScope s_x_UnlikeEnds) .none xkV18 xdc18 xpm18 xan18 xcd18 xct18), xsl18⟩)
    (xc18 : PySem.W.codeIn K xcd18 "UnlikeEnds.__init__" = true)
    (xk18 : PySem.W.keepIn K (.ref g18) = true)
    (xL18 : K.lookup C18 = some (excClassObj nm18 qn18 C18 N18 bs18 bm18 true sn18 sub18 ab18 col18 dd18 m018 m118 m218 m318 m518 "ValueError.__new__"))
    (xr18 : PySem.HandSPX.refsVE bm18 = true)
    (xs18 : PySem.W.findIn K (.ref C18) "__setattr__" = some (some (.builtin "object.__setattr__")))
    (xe18 : PySem.W.subIn K (.ref C18) (.type "BaseException") = some true)
    (xy18 : PySem.W.typeIn K (.ref C18) = some (.type "type"))
    (xq18 : PySem.W.keepIn K (.ref C18) = true)
    (xg18 : PySem.W.findIn K (.ref C18) "__getattribute__" = some (some (.builtin "BaseException.__getattribute__")))
    (xh18 : PySem.W.findIn K (.ref C18) "__getattr__" = some none)
    (xd18 : PySem.W.hasDictIn K C18 = true)
    (xn18_one : PySem.W.findIn K (.ref C18) "one" = some none)
    (xn18_other : PySem.W.findIn K (.ref C18) "other" = some none)
    (xa19 : PySem.W.nsIn K mainGlobals "NoSuchPort" = some (some (.ref C19)))
    (xi19 : PySem.W.findIn K (.ref C19) "__init__" = some (some (.ref g19)))
    (xt19 : PySem.W.typeIn K (.ref g19) = some (.type "function"))
    (xl19 : K.lookup g19 = some ⟨xoc19, xod19, .func (PySem.W.fnOf "__init__" "NoSuchPort.__init__" (defArgs s_x_NoSuchPort) (defBody s_x_NoSuchPort) (defScope s_x_NoSuchPort) .none xkV19 xdc19 xpm19 xan19 xcd19 xct19), xsl19⟩)
    (xc19 : PySem.W.codeIn K xcd19 "NoSuchPort.__init__" = true)
    (xk19 : PySem.W.keepIn K (.ref g19) = true)
    (xL19 : K.lookup C19 = some (excClassObj nm19 qn19 C19 N19 bs19 bm19 true sn19 sub19 ab19 col19 dd19 m019 m119 m219 m319 m519 "LookupError.__new__"))
    (xr19 : PySem.HandSPX.refsG [.type "LookupError", .type "Exception", .type "BaseException", .type "object"] bm19 = true)
    (xs19 : PySem.W.findIn K (.ref C19) "__setattr__" = some (some (.builtin "object.__setattr__")))
    (xe19 : PySem.W.subIn K (.ref C19) (.type "BaseException") = some true)
    (xy19 : PySem.W.typeIn K (.ref C19) = some (.type "type"))
    (xq19 : PySem.W.keepIn K (.ref C19) = true)
    (xg19 : PySem.W.findIn K (.ref C19) "__getattribute__" = some (some (.builtin "BaseException.__getattribute__")))
    (xh19 : PySem.W.findIn K (.ref C19) "__getattr__" = some none)
    (xd19 : PySem.W.hasDictIn K C19 = true)
    (xn19_value : PySem.W.findIn K (.ref C19) "value" = some none)
    (xa20 : PySem.W.nsIn K mainGlobals "NoEnd" = some (some (.ref C20)))
    (xi20 : PySem.W.findIn K (.ref C20) "__init__" = some (some (.ref g20)))
    (xt20 : PySem.W.typeIn K (.ref g20) = some (.type "function"))
    (xl20 : K.lookup g20 = some ⟨xoc20, xod20, .func (PySem.W.fnOf "__init__" "NoEnd.__init__" (defArgs s_x_NoEnd) (defBody s_x_NoEnd) (defScope s_x_NoEnd) .none xkV20 xdc20 xpm20 xan20 xcd20 xct20), xsl20⟩)
    (xc20 : PySem.W.codeIn K xcd20 "NoEnd.__init__" = true)
    (xk20 : PySem.W.keepIn K (.ref g20) = true)
    (xL20 : K.lookup C20 = some (excClassObj nm20 qn20 C20 N20 bs20 bm20 true sn20 sub20 ab20 col20 dd20 m020 m120 m220 m320 m520 "LookupError.__new__"))
    (xr20 : PySem.HandSPX.refsG [.type "LookupError", .type "Exception", .type "BaseException", .type "object"] bm20 = true)
    (xs20 : PySem.W.findIn K (.ref C20) "__setattr__" = some (some (.builtin "object.__setattr__")))
    (xe20 : PySem.W.subIn K (.ref C20) (.type "BaseException") = some true)
    (xy20 : PySem.W.typeIn K (.ref C20) = some (.type "type"))
    (xq20 : PySem.W.keepIn K (.ref C20) = true)
    (xg20 : PySem.W.findIn K (.ref C20) "__getattribute__" = some (some (.builtin "BaseException.__getattribute__")))
    (xh20 : PySem.W.findIn K (.ref C20) "__getattr__" = some none)
    (xd20 : PySem.W.hasDictIn K C20 = true)
    (xn20_value : PySem.W.findIn K (.ref C20) "value" = some none)
    (xa21 : PySem.W.nsIn K mainGlobals "NoSuchLink" = some (some (.ref C21)))
    (xi21 : PySem.W.findIn K (.ref C21) "__init__" = some (some (.ref g21)))
    (xt21 : PySem.W.typeIn K (.ref g21) = some (.type "function"))
    (xl21 : K.lookup g21 = some ⟨xoc21, xod21, .func (PySem.W.fnOf "__init__" "NoSuchLink.__init__" (defArgs s_x_NoSuchLink) (defBody s_x_NoSuchLink) (defScope s_x_NoSuchLink) .none xkV21 xdc21 xpm21 xan21 xcd21 xct21), xsl21⟩)
    (xc21 : PySem.W.codeIn K xcd21 "NoSuchLink.__init__" = true)
    (xk21 : PySem.W.keepIn K (.ref g21) = true)
    (xL21 : K.lookup C21 = some (excClassObj nm21 qn21 C21 N21 bs21 bm21 true sn21 sub21 ab21 col21 dd21 m021 m121 m221 m321 m521 "LookupError.__new__"))
    (xr21 : PySem.HandSPX.refsG [.type "LookupError", .type "Exception", .type "BaseException", .type "object"] bm21 = true)
    (xs21 : PySem.W.findIn K (.ref C21) "__setattr__" = some (some (.builtin "object.__setattr__")))
    (xe21 : PySem.W.subIn K (.ref C21) (.type "BaseException") = some true)
    (xy21 : PySem.W.typeIn K (.ref C21) = some (.type "type"))
    (xq21 : PySem.W.keepIn K (.ref C21) = true)
    (xg21 : PySem.W.findIn K (.ref C21) "__getattribute__" = some (some (.builtin "BaseException.__getattribute__")))
    (xh21 : PySem.W.findIn K (.ref C21) "__getattr__" = some none)
    (xd21 : PySem.W.hasDictIn K C21 = true)
    (xn21_value : PySem.W.findIn K (.ref C21) "value" = some none)
    (xa22 : PySem.W.nsIn K mainGlobals "NoSuchFrame" = some (some (.ref C22)))
    (xi22 : PySem.W.findIn K (.ref C22) "__init__" = some (some (.ref g22)))
    (xt22 : PySem.W.typeIn K (.ref g22) = some (.type "function"))
    (xl22 : K.lookup g22 = some ⟨xoc22, xod22, .func (PySem.W.fnOf "__init__" "NoSuchFrame.__init__" (defArgs s_x_NoSuchFrame) (defBody s_x_NoSuchFrame) (defScope s_x_NoSuchFrame) .none xkV22 xdc22 xpm22 xan22 xcd22 xct22), xsl22⟩)
    (xc22 : PySem.W.codeIn K xcd22 "NoSuchFrame.__init__" = true)
    (xk22 : PySem.W.keepIn K (.ref g22) = true)
    (xL22 : K.lookup C22 = some (excClassObj nm22 qn22 C22 N22 bs22 bm22 true sn22 sub22 ab22 col22 dd22 m022 m122 m222 m322 m522 "LookupError.__new__"))
    (xr22 : PySem.HandSPX.refsG [.type "LookupError", .type "Exception", .type "BaseException", .type "object"] bm22 = true)
    (xs22 : PySem.W.findIn K (.ref C22) "__setattr__" = some (some (.builtin "object.__setattr__")))
    (xe22 : PySem.W.subIn K (.ref C22) (.type "BaseException") = some true)
    (xy22 : PySem.W.typeIn K (.ref C22) = some (.type "type"))
    (xq22 : PySem.W.keepIn K (.ref C22) = true)
    (xg22 : PySem.W.findIn K (.ref C22) "__getattribute__" = some (some (.builtin "BaseException.__getattribute__")))
    (xh22 : PySem.W.findIn K (.ref C22) "__getattr__" = some none)
    (xd22 : PySem.W.hasDictIn K C22 = true)
    (xn22_number : PySem.W.findIn K (.ref C22) "number" = some none)
    (z_LookupError : PySem.W.nsIn K mainGlobals "LookupError" = some none)
    (z_ValueError : PySem.W.nsIn K mainGlobals "ValueError" = some none)
    (z_all : PySem.W.nsIn K mainGlobals "all" = some none)
    (z_bool : PySem.W.nsIn K mainGlobals "bool" = some none)
    (z_int : PySem.W.nsIn K mainGlobals "int" = some none)
    (z_isinstance : PySem.W.nsIn K mainGlobals "isinstance" = some none)
    (z_len : PySem.W.nsIn K mainGlobals "len" = some none)
    (z_list : PySem.W.nsIn K mainGlobals "list" = some none)
    (z_range : PySem.W.nsIn K mainGlobals "range" = some none)
    (z_str : PySem.W.nsIn K mainGlobals "str" = some none)
    (z_sum : PySem.W.nsIn K mainGlobals "sum" = some none)
    (z_tuple : PySem.W.nsIn K mainGlobals "tuple" = some none)
    (z_zip : PySem.W.nsIn K mainGlobals "zip" = some none)
    (k_HOPS : PySem.W.nsIn K mainGlobals "HOPS" = some (some (.int 6 tk_HOPS)))
    (k_MOST_ARRIVALS : PySem.W.nsIn K mainGlobals "MOST_ARRIVALS" = some (some (.int 1000 tk_MOST_ARRIVALS)))
    (k_MOST_BRIDGES : PySem.W.nsIn K mainGlobals "MOST_BRIDGES" = some (some (.int 6 tk_MOST_BRIDGES)))
    (k_MOST_COPIES : PySem.W.nsIn K mainGlobals "MOST_COPIES" = some (some (.int 1000000000000000000000000000000 tk_MOST_COPIES)))
    (k_MOST_EDITS : PySem.W.nsIn K mainGlobals "MOST_EDITS" = some (some (.int 12 tk_MOST_EDITS)))
    (k_MOST_ENTRIES : PySem.W.nsIn K mainGlobals "MOST_ENTRIES" = some (some (.int 8 tk_MOST_ENTRIES)))
    (k_MOST_FRAME : PySem.W.nsIn K mainGlobals "MOST_FRAME" = some (some (.int 60 tk_MOST_FRAME)))
    (k_MOST_HOPS : PySem.W.nsIn K mainGlobals "MOST_HOPS" = some (some (.int 400 tk_MOST_HOPS)))
    (k_MOST_KEPT : PySem.W.nsIn K mainGlobals "MOST_KEPT" = some (some (.int 8 tk_MOST_KEPT)))
    (k_MOST_LINKS : PySem.W.nsIn K mainGlobals "MOST_LINKS" = some (some (.int 5 tk_MOST_LINKS)))
    (k_MOST_LISTED : PySem.W.nsIn K mainGlobals "MOST_LISTED" = some (some (.int 1000 tk_MOST_LISTED)))
    (k_MOST_PORTS : PySem.W.nsIn K mainGlobals "MOST_PORTS" = some (some (.int 14 tk_MOST_PORTS)))
    (k_MOST_STATES : PySem.W.nsIn K mainGlobals "MOST_STATES" = some (some (.int 4000 tk_MOST_STATES)))
    (k_MOST_TAG : PySem.W.nsIn K mainGlobals "MOST_TAG" = some (some (.int 4094 tk_MOST_TAG)))
    (k_MOST_WISHES : PySem.W.nsIn K mainGlobals "MOST_WISHES" = some (some (.int 6 tk_MOST_WISHES)))
    (ba_Calm : PySem.W.nsIn K mainGlobals "Calm" = some (some (.ref B_Calm)))
    (ba_NoSuch : PySem.W.nsIn K mainGlobals "NoSuch" = some (some (.ref B_NoSuch)))
    (ba_NothingToUndo : PySem.W.nsIn K mainGlobals "NothingToUndo" = some (some (.ref B_NothingToUndo)))
    (ba_TagError : PySem.W.nsIn K mainGlobals "TagError" = some (some (.ref B_TagError)))
    (ba_TooMany : PySem.W.nsIn K mainGlobals "TooMany" = some (some (.ref B_TooMany)))
    (ba_TooWide : PySem.W.nsIn K mainGlobals "TooWide" = some (some (.ref B_TooWide)))
    (ba_Unheard : PySem.W.nsIn K mainGlobals "Unheard" = some (some (.ref B_Unheard)))
    (xq_Calm : PySem.W.excIn K B_Calm [.type "ValueError", .type "Exception", .type "BaseException", .type "object"] "ValueError.__new__" = true)
    (xk_Calm : PySem.W.keepIn K (.ref B_Calm) = true)
    (xq_NothingToUndo : PySem.W.excIn K B_NothingToUndo [.type "ValueError", .type "Exception", .type "BaseException", .type "object"] "ValueError.__new__" = true)
    (xk_NothingToUndo : PySem.W.keepIn K (.ref B_NothingToUndo) = true)
    (xq_TooMany : PySem.W.excIn K B_TooMany [.type "ValueError", .type "Exception", .type "BaseException", .type "object"] "ValueError.__new__" = true)
    (xk_TooMany : PySem.W.keepIn K (.ref B_TooMany) = true)
    (xq_TooWide : PySem.W.excIn K B_TooWide [.type "ValueError", .type "Exception", .type "BaseException", .type "object"] "ValueError.__new__" = true)
    (xk_TooWide : PySem.W.keepIn K (.ref B_TooWide) = true)
    (xq_Unheard : PySem.W.excIn K B_Unheard [.type "ValueError", .type "Exception", .type "BaseException", .type "object"] "ValueError.__new__" = true)
    (xk_Unheard : PySem.W.keepIn K (.ref B_Unheard) = true)
    (xall : exAll K [C0, C1, C2, C3, C4, C5, C6, C7, C8, C9, C10, C11, C12, C13, C14, C15, B_Unheard, B_Calm, C16, B_TooWide, B_TooMany, C17, C18, B_NothingToUndo, C19, C20, C21, C22] = true)
    (xc_BadEdit : exCol K [C0, C1, C2, C3, C4, C5, C6, C7, C8, C9, C10, C11, C12, C13, C14, C15, B_Unheard, B_Calm, C16, B_TooWide, B_TooMany, C17, C18, B_NothingToUndo, C19, C20, C21, C22] (.ref C12) xr_BadEdit = true)
    (xc_BadEntry : exCol K [C0, C1, C2, C3, C4, C5, C6, C7, C8, C9, C10, C11, C12, C13, C14, C15, B_Unheard, B_Calm, C16, B_TooWide, B_TooMany, C17, C18, B_NothingToUndo, C19, C20, C21, C22] (.ref C5) xr_BadEntry = true)
    (xc_BadFrame : exCol K [C0, C1, C2, C3, C4, C5, C6, C7, C8, C9, C10, C11, C12, C13, C14, C15, B_Unheard, B_Calm, C16, B_TooWide, B_TooMany, C17, C18, B_NothingToUndo, C19, C20, C21, C22] (.ref C1) xr_BadFrame = true)
    (xc_BadLine : exCol K [C0, C1, C2, C3, C4, C5, C6, C7, C8, C9, C10, C11, C12, C13, C14, C15, B_Unheard, B_Calm, C16, B_TooWide, B_TooMany, C17, C18, B_NothingToUndo, C19, C20, C21, C22] (.ref C10) xr_BadLine = true)
    (xc_BadLinks : exCol K [C0, C1, C2, C3, C4, C5, C6, C7, C8, C9, C10, C11, C12, C13, C14, C15, B_Unheard, B_Calm, C16, B_TooWide, B_TooMany, C17, C18, B_NothingToUndo, C19, C20, C21, C22] (.ref C8) xr_BadLinks = true)
    (xc_BadList : exCol K [C0, C1, C2, C3, C4, C5, C6, C7, C8, C9, C10, C11, C12, C13, C14, C15, B_Unheard, B_Calm, C16, B_TooWide, B_TooMany, C17, C18, B_NothingToUndo, C19, C20, C21, C22] (.ref C4) xr_BadList = true)
    (xc_BadNet : exCol K [C0, C1, C2, C3, C4, C5, C6, C7, C8, C9, C10, C11, C12, C13, C14, C15, B_Unheard, B_Calm, C16, B_TooWide, B_TooMany, C17, C18, B_NothingToUndo, C19, C20, C21, C22] (.ref C7) xr_BadNet = true)
    (xc_BadNumber : exCol K [C0, C1, C2, C3, C4, C5, C6, C7, C8, C9, C10, C11, C12, C13, C14, C15, B_Unheard, B_Calm, C16, B_TooWide, B_TooMany, C17, C18, B_NothingToUndo, C19, C20, C21, C22] (.ref C3) xr_BadNumber = true)
    (xc_BadRows : exCol K [C0, C1, C2, C3, C4, C5, C6, C7, C8, C9, C10, C11, C12, C13, C14, C15, B_Unheard, B_Calm, C16, B_TooWide, B_TooMany, C17, C18, B_NothingToUndo, C19, C20, C21, C22] (.ref C6) xr_BadRows = true)
    (xc_BadTag : exCol K [C0, C1, C2, C3, C4, C5, C6, C7, C8, C9, C10, C11, C12, C13, C14, C15, B_Unheard, B_Calm, C16, B_TooWide, B_TooMany, C17, C18, B_NothingToUndo, C19, C20, C21, C22] (.ref C0) xr_BadTag = true)
    (xc_BadText : exCol K [C0, C1, C2, C3, C4, C5, C6, C7, C8, C9, C10, C11, C12, C13, C14, C15, B_Unheard, B_Calm, C16, B_TooWide, B_TooMany, C17, C18, B_NothingToUndo, C19, C20, C21, C22] (.ref C2) xr_BadText = true)
    (xc_BadWish : exCol K [C0, C1, C2, C3, C4, C5, C6, C7, C8, C9, C10, C11, C12, C13, C14, C15, B_Unheard, B_Calm, C16, B_TooWide, B_TooMany, C17, C18, B_NothingToUndo, C19, C20, C21, C22] (.ref C11) xr_BadWish = true)
    (xc_Broken : exCol K [C0, C1, C2, C3, C4, C5, C6, C7, C8, C9, C10, C11, C12, C13, C14, C15, B_Unheard, B_Calm, C16, B_TooWide, B_TooMany, C17, C18, B_NothingToUndo, C19, C20, C21, C22] (.ref C13) xr_Broken = true)
    (xc_Calm : exCol K [C0, C1, C2, C3, C4, C5, C6, C7, C8, C9, C10, C11, C12, C13, C14, C15, B_Unheard, B_Calm, C16, B_TooWide, B_TooMany, C17, C18, B_NothingToUndo, C19, C20, C21, C22] (.ref B_Calm) xr_Calm = true)
    (xc_Crowded : exCol K [C0, C1, C2, C3, C4, C5, C6, C7, C8, C9, C10, C11, C12, C13, C14, C15, B_Unheard, B_Calm, C16, B_TooWide, B_TooMany, C17, C18, B_NothingToUndo, C19, C20, C21, C22] (.ref C17) xr_Crowded = true)
    (xc_Lost : exCol K [C0, C1, C2, C3, C4, C5, C6, C7, C8, C9, C10, C11, C12, C13, C14, C15, B_Unheard, B_Calm, C16, B_TooWide, B_TooMany, C17, C18, B_NothingToUndo, C19, C20, C21, C22] (.ref C15) xr_Lost = true)
    (xc_NoEnd : exCol K [C0, C1, C2, C3, C4, C5, C6, C7, C8, C9, C10, C11, C12, C13, C14, C15, B_Unheard, B_Calm, C16, B_TooWide, B_TooMany, C17, C18, B_NothingToUndo, C19, C20, C21, C22] (.ref C20) xr_NoEnd = true)
    (xc_NoPort : exCol K [C0, C1, C2, C3, C4, C5, C6, C7, C8, C9, C10, C11, C12, C13, C14, C15, B_Unheard, B_Calm, C16, B_TooWide, B_TooMany, C17, C18, B_NothingToUndo, C19, C20, C21, C22] (.ref C9) xr_NoPort = true)
    (xc_NoSuch : exCol K [C0, C1, C2, C3, C4, C5, C6, C7, C8, C9, C10, C11, C12, C13, C14, C15, B_Unheard, B_Calm, C16, B_TooWide, B_TooMany, C17, C18, B_NothingToUndo, C19, C20, C21, C22] (.ref B_NoSuch) xr_NoSuch = true)
    (xc_NoSuchFrame : exCol K [C0, C1, C2, C3, C4, C5, C6, C7, C8, C9, C10, C11, C12, C13, C14, C15, B_Unheard, B_Calm, C16, B_TooWide, B_TooMany, C17, C18, B_NothingToUndo, C19, C20, C21, C22] (.ref C22) xr_NoSuchFrame = true)
    (xc_NoSuchLink : exCol K [C0, C1, C2, C3, C4, C5, C6, C7, C8, C9, C10, C11, C12, C13, C14, C15, B_Unheard, B_Calm, C16, B_TooWide, B_TooMany, C17, C18, B_NothingToUndo, C19, C20, C21, C22] (.ref C21) xr_NoSuchLink = true)
    (xc_NoSuchPort : exCol K [C0, C1, C2, C3, C4, C5, C6, C7, C8, C9, C10, C11, C12, C13, C14, C15, B_Unheard, B_Calm, C16, B_TooWide, B_TooMany, C17, C18, B_NothingToUndo, C19, C20, C21, C22] (.ref C19) xr_NoSuchPort = true)
    (xc_NotIn : exCol K [C0, C1, C2, C3, C4, C5, C6, C7, C8, C9, C10, C11, C12, C13, C14, C15, B_Unheard, B_Calm, C16, B_TooWide, B_TooMany, C17, C18, B_NothingToUndo, C19, C20, C21, C22] (.ref C14) xr_NotIn = true)
    (xc_NothingToUndo : exCol K [C0, C1, C2, C3, C4, C5, C6, C7, C8, C9, C10, C11, C12, C13, C14, C15, B_Unheard, B_Calm, C16, B_TooWide, B_TooMany, C17, C18, B_NothingToUndo, C19, C20, C21, C22] (.ref B_NothingToUndo) xr_NothingToUndo = true)
    (xc_TagError : exCol K [C0, C1, C2, C3, C4, C5, C6, C7, C8, C9, C10, C11, C12, C13, C14, C15, B_Unheard, B_Calm, C16, B_TooWide, B_TooMany, C17, C18, B_NothingToUndo, C19, C20, C21, C22] (.ref B_TagError) xr_TagError = true)
    (xc_TooFar : exCol K [C0, C1, C2, C3, C4, C5, C6, C7, C8, C9, C10, C11, C12, C13, C14, C15, B_Unheard, B_Calm, C16, B_TooWide, B_TooMany, C17, C18, B_NothingToUndo, C19, C20, C21, C22] (.ref C16) xr_TooFar = true)
    (xc_TooMany : exCol K [C0, C1, C2, C3, C4, C5, C6, C7, C8, C9, C10, C11, C12, C13, C14, C15, B_Unheard, B_Calm, C16, B_TooWide, B_TooMany, C17, C18, B_NothingToUndo, C19, C20, C21, C22] (.ref B_TooMany) xr_TooMany = true)
    (xc_TooWide : exCol K [C0, C1, C2, C3, C4, C5, C6, C7, C8, C9, C10, C11, C12, C13, C14, C15, B_Unheard, B_Calm, C16, B_TooWide, B_TooMany, C17, C18, B_NothingToUndo, C19, C20, C21, C22] (.ref B_TooWide) xr_TooWide = true)
    (xc_Unheard : exCol K [C0, C1, C2, C3, C4, C5, C6, C7, C8, C9, C10, C11, C12, C13, C14, C15, B_Unheard, B_Calm, C16, B_TooWide, B_TooMany, C17, C18, B_NothingToUndo, C19, C20, C21, C22] (.ref B_Unheard) xr_Unheard = true)
    (xc_UnlikeEnds : exCol K [C0, C1, C2, C3, C4, C5, C6, C7, C8, C9, C10, C11, C12, C13, C14, C15, B_Unheard, B_Calm, C16, B_TooWide, B_TooMany, C17, C18, B_NothingToUndo, C19, C20, C21, C22] (.ref C18) xr_UnlikeEnds = true)
    (xc_LookupError : exCol K [C0, C1, C2, C3, C4, C5, C6, C7, C8, C9, C10, C11, C12, C13, C14, C15, B_Unheard, B_Calm, C16, B_TooWide, B_TooMany, C17, C18, B_NothingToUndo, C19, C20, C21, C22] (.type "LookupError") xr_LookupError = true)
    (xc_ValueError : exCol K [C0, C1, C2, C3, C4, C5, C6, C7, C8, C9, C10, C11, C12, C13, C14, C15, B_Unheard, B_Calm, C16, B_TooWide, B_TooMany, C17, C18, B_NothingToUndo, C19, C20, C21, C22] (.type "ValueError") xr_ValueError = true)
    (xf_bridge : exFld K [C7] "bridge" = true)
    (xf_frame : exFld K [C13, C14] "frame" = true)
    (xf_hops : exFld K [C16, C17] "hops" = true)
    (xf_index : exFld K [C1, C2, C4, C5, C6, C8, C11, C12, C13, C15] "index" = true)
    (xf_line : exFld K [C10] "line" = true)
    (xf_number : exFld K [C22] "number" = true)
    (xf_one : exFld K [C18] "one" = true)
    (xf_other : exFld K [C18] "other" = true)
    (xf_part : exFld K [C5] "part" = true)
    (xf_port : exFld K [C7] "port" = true)
    (xf_value : exFld K [C0, C3, C9, C19, C20, C21] "value" = true)
    (nd : ([C0, C1, C2, C3, C4, C5, C6, C7, C8, C9, C10, C11, C12, C13, C14, C15, B_Unheard, B_Calm, C16, B_TooWide, B_TooMany, C17, C18, B_NothingToUndo, C19, C20, C21, C22] : List Addr).Nodup)
    : ∃ fd : FuncData, (∀ (s : Shared) (v : Value), BindsTo s fd ⟨[v], []⟩ [("_law_script", v)]) ∧ ∀ base : Heap, K.In base → base.Ns mainGlobals mg → FnOk l.prog w K mg base (L2.CX l.prog w) 9 fa fd ["_law_script"] (spLaw K) := by
  have e := hfa.symm.trans (PySem.W.mg_of X G a10)
  cases e
  let T : Txt l.prog w K mg ⟨B_TagError, B_NoSuch, C0, C1, C2, C3, C4, C5, C6, C7, C8, C9, C10, C11, C12, C13, C14, C15, B_Unheard, B_Calm, C16, B_TooWide, B_TooMany, C17, C18, B_NothingToUndo, C19, C20, C21, C22, nd⟩ := {
    d__law_draws := FnA.mk' (l := l) X G a0 l0 c0 k0 fun _ _ _ _ _ _ us hl => match us, hl with | [_], _ => rfl,
    d__law_next := FnA.mk' (l := l) X G a1 l1 c1 k1 fun _ _ _ _ _ _ us hl => match us, hl with | [_, _], _ => rfl,
    d__law_limits := FnA.mk' (l := l) X G a2 l2 c2 k2 fun _ _ _ _ _ _ us hl => match us, hl with | [], _ => rfl,
    d__law_equal := FnA.mk' (l := l) X G a3 l3 c3 k3 fun _ _ _ _ _ _ us hl => match us, hl with | [_, _], _ => rfl,
    d__law_own := FnA.mk' (l := l) X G a4 l4 c4 k4 fun _ _ _ _ _ _ us hl => match us, hl with | [_], _ => rfl,
    d__law_wrong := FnA.mk' (l := l) X G a5 l5 c5 k5 fun _ _ _ _ _ _ us hl => match us, hl with | [_], _ => rfl,
    d__law_one := FnA.mk' (l := l) X G a6 l6 c6 k6 fun _ _ _ _ _ _ us hl => match us, hl with | [_, _], _ => rfl,
    d__law_lacks := FnA.mk' (l := l) X G a7 l7 c7 k7 fun _ _ _ _ _ _ us hl => match us, hl with | [_], _ => rfl,
    d__law_one_kept := FnA.mk' (l := l) X G a8 l8 c8 k8 fun _ _ _ _ _ _ us hl => match us, hl with | [_], _ => rfl,
    d__law_two_kept := FnA.mk' (l := l) X G a9 l9 c9 k9 fun _ _ _ _ _ _ us hl => match us, hl with | [_, _], _ => rfl,
    x_BadTag := ExA.mk' X G xa0 xi0 xt0 xl0 xc0 xk0 ⟨⟨_, _, _, _, _, _, _, _, _, _, _, _, _, _, _, xL0, xr0⟩, xs0, xe0, xy0, xq0⟩ ⟨xg0, xh0, xe0, xd0⟩ fun _ _ _ _ _ _ us hl => match us, hl with | [_, _], _ => rfl,
    n_BadTag_value := xn0_value,
    x_BadFrame := ExA.mk' X G xa1 xi1 xt1 xl1 xc1 xk1 ⟨⟨_, _, _, _, _, _, _, _, _, _, _, _, _, _, _, xL1, xr1⟩, xs1, xe1, xy1, xq1⟩ ⟨xg1, xh1, xe1, xd1⟩ fun _ _ _ _ _ _ us hl => match us, hl with | [_, _], _ => rfl,
    n_BadFrame_index := xn1_index,
    x_BadText := ExA.mk' X G xa2 xi2 xt2 xl2 xc2 xk2 ⟨⟨_, _, _, _, _, _, _, _, _, _, _, _, _, _, _, xL2, xr2⟩, xs2, xe2, xy2, xq2⟩ ⟨xg2, xh2, xe2, xd2⟩ fun _ _ _ _ _ _ us hl => match us, hl with | [_, _], _ => rfl,
    n_BadText_index := xn2_index,
    x_BadNumber := ExA.mk' X G xa3 xi3 xt3 xl3 xc3 xk3 ⟨⟨_, _, _, _, _, _, _, _, _, _, _, _, _, _, _, xL3, xr3⟩, xs3, xe3, xy3, xq3⟩ ⟨xg3, xh3, xe3, xd3⟩ fun _ _ _ _ _ _ us hl => match us, hl with | [_, _], _ => rfl,
    n_BadNumber_value := xn3_value,
    x_BadList := ExA.mk' X G xa4 xi4 xt4 xl4 xc4 xk4 ⟨⟨_, _, _, _, _, _, _, _, _, _, _, _, _, _, _, xL4, xr4⟩, xs4, xe4, xy4, xq4⟩ ⟨xg4, xh4, xe4, xd4⟩ fun _ _ _ _ _ _ us hl => match us, hl with | [_, _], _ => rfl,
    n_BadList_index := xn4_index,
    x_BadEntry := ExA.mk' X G xa5 xi5 xt5 xl5 xc5 xk5 ⟨⟨_, _, _, _, _, _, _, _, _, _, _, _, _, _, _, xL5, xr5⟩, xs5, xe5, xy5, xq5⟩ ⟨xg5, xh5, xe5, xd5⟩ fun _ _ _ _ _ _ us hl => match us, hl with | [_, _, _], _ => rfl,
    n_BadEntry_part := xn5_part,
    n_BadEntry_index := xn5_index,
    x_BadRows := ExA.mk' X G xa6 xi6 xt6 xl6 xc6 xk6 ⟨⟨_, _, _, _, _, _, _, _, _, _, _, _, _, _, _, xL6, xr6⟩, xs6, xe6, xy6, xq6⟩ ⟨xg6, xh6, xe6, xd6⟩ fun _ _ _ _ _ _ us hl => match us, hl with | [_, _], _ => rfl,
    n_BadRows_index := xn6_index,
    x_BadNet := ExA.mk' X G xa7 xi7 xt7 xl7 xc7 xk7 ⟨⟨_, _, _, _, _, _, _, _, _, _, _, _, _, _, _, xL7, xr7⟩, xs7, xe7, xy7, xq7⟩ ⟨xg7, xh7, xe7, xd7⟩ fun _ _ _ _ _ _ us hl => match us, hl with | [_, _, _], _ => rfl,
    n_BadNet_bridge := xn7_bridge,
    n_BadNet_port := xn7_port,
    x_BadLinks := ExA.mk' X G xa8 xi8 xt8 xl8 xc8 xk8 ⟨⟨_, _, _, _, _, _, _, _, _, _, _, _, _, _, _, xL8, xr8⟩, xs8, xe8, xy8, xq8⟩ ⟨xg8, xh8, xe8, xd8⟩ fun _ _ _ _ _ _ us hl => match us, hl with | [_, _], _ => rfl,
    n_BadLinks_index := xn8_index,
    x_NoPort := ExA.mk' X G xa9 xi9 xt9 xl9 xc9 xk9 ⟨⟨_, _, _, _, _, _, _, _, _, _, _, _, _, _, _, xL9, xr9⟩, xs9, xe9, xy9, xq9⟩ ⟨xg9, xh9, xe9, xd9⟩ fun _ _ _ _ _ _ us hl => match us, hl with | [_, _], _ => rfl,
    n_NoPort_value := xn9_value,
    x_BadLine := ExA.mk' X G xa10 xi10 xt10 xl10 xc10 xk10 ⟨⟨_, _, _, _, _, _, _, _, _, _, _, _, _, _, _, xL10, xr10⟩, xs10, xe10, xy10, xq10⟩ ⟨xg10, xh10, xe10, xd10⟩ fun _ _ _ _ _ _ us hl => match us, hl with | [_, _], _ => rfl,
    n_BadLine_line := xn10_line,
    x_BadWish := ExA.mk' X G xa11 xi11 xt11 xl11 xc11 xk11 ⟨⟨_, _, _, _, _, _, _, _, _, _, _, _, _, _, _, xL11, xr11⟩, xs11, xe11, xy11, xq11⟩ ⟨xg11, xh11, xe11, xd11⟩ fun _ _ _ _ _ _ us hl => match us, hl with | [_, _], _ => rfl,
    n_BadWish_index := xn11_index,
    x_BadEdit := ExA.mk' X G xa12 xi12 xt12 xl12 xc12 xk12 ⟨⟨_, _, _, _, _, _, _, _, _, _, _, _, _, _, _, xL12, xr12⟩, xs12, xe12, xy12, xq12⟩ ⟨xg12, xh12, xe12, xd12⟩ fun _ _ _ _ _ _ us hl => match us, hl with | [_, _], _ => rfl,
    n_BadEdit_index := xn12_index,
    x_Broken := ExA.mk' X G xa13 xi13 xt13 xl13 xc13 xk13 ⟨⟨_, _, _, _, _, _, _, _, _, _, _, _, _, _, _, xL13, xr13⟩, xs13, xe13, xy13, xq13⟩ ⟨xg13, xh13, xe13, xd13⟩ fun _ _ _ _ _ _ us hl => match us, hl with | [_, _, _], _ => rfl,
    n_Broken_index := xn13_index,
    n_Broken_frame := xn13_frame,
    x_NotIn := ExA.mk' X G xa14 xi14 xt14 xl14 xc14 xk14 ⟨⟨_, _, _, _, _, _, _, _, _, _, _, _, _, _, _, xL14, xr14⟩, xs14, xe14, xy14, xq14⟩ ⟨xg14, xh14, xe14, xd14⟩ fun _ _ _ _ _ _ us hl => match us, hl with | [_, _], _ => rfl,
    n_NotIn_frame := xn14_frame,
    x_Lost := ExA.mk' X G xa15 xi15 xt15 xl15 xc15 xk15 ⟨⟨_, _, _, _, _, _, _, _, _, _, _, _, _, _, _, xL15, xr15⟩, xs15, xe15, xy15, xq15⟩ ⟨xg15, xh15, xe15, xd15⟩ fun _ _ _ _ _ _ us hl => match us, hl with | [_, _], _ => rfl,
    n_Lost_index := xn15_index,
    x_TooFar := ExA.mk' X G xa16 xi16 xt16 xl16 xc16 xk16 ⟨⟨_, _, _, _, _, _, _, _, _, _, _, _, _, _, _, xL16, xr16⟩, xs16, xe16, xy16, xq16⟩ ⟨xg16, xh16, xe16, xd16⟩ fun _ _ _ _ _ _ us hl => match us, hl with | [_, _], _ => rfl,
    n_TooFar_hops := xn16_hops,
    x_Crowded := ExA.mk' X G xa17 xi17 xt17 xl17 xc17 xk17 ⟨⟨_, _, _, _, _, _, _, _, _, _, _, _, _, _, _, xL17, xr17⟩, xs17, xe17, xy17, xq17⟩ ⟨xg17, xh17, xe17, xd17⟩ fun _ _ _ _ _ _ us hl => match us, hl with | [_, _], _ => rfl,
    n_Crowded_hops := xn17_hops,
    x_UnlikeEnds := ExA.mk' X G xa18 xi18 xt18 xl18 xc18 xk18 ⟨⟨_, _, _, _, _, _, _, _, _, _, _, _, _, _, _, xL18, xr18⟩, xs18, xe18, xy18, xq18⟩ ⟨xg18, xh18, xe18, xd18⟩ fun _ _ _ _ _ _ us hl => match us, hl with | [_, _, _], _ => rfl,
    n_UnlikeEnds_one := xn18_one,
    n_UnlikeEnds_other := xn18_other,
    x_NoSuchPort := ExG.mk' X G xa19 xi19 xt19 xl19 xc19 xk19 (gex_LE xL19 xr19 xs19 xq19) fun _ _ _ _ _ _ us hl => match us, hl with | [_, _], _ => rfl,
    n_NoSuchPort_value := xn19_value,
    x_NoEnd := ExG.mk' X G xa20 xi20 xt20 xl20 xc20 xk20 (gex_LE xL20 xr20 xs20 xq20) fun _ _ _ _ _ _ us hl => match us, hl with | [_, _], _ => rfl,
    n_NoEnd_value := xn20_value,
    x_NoSuchLink := ExG.mk' X G xa21 xi21 xt21 xl21 xc21 xk21 (gex_LE xL21 xr21 xs21 xq21) fun _ _ _ _ _ _ us hl => match us, hl with | [_, _], _ => rfl,
    n_NoSuchLink_value := xn21_value,
    x_NoSuchFrame := ExG.mk' X G xa22 xi22 xt22 xl22 xc22 xk22 (gex_LE xL22 xr22 xs22 xq22) fun _ _ _ _ _ _ us hl => match us, hl with | [_, _], _ => rfl,
    n_NoSuchFrame_number := xn22_number,
    z_LookupError := PySem.W.mg_none_of X G z_LookupError,
    z_ValueError := PySem.W.mg_none_of X G z_ValueError,
    z_all := PySem.W.mg_none_of X G z_all,
    z_bool := PySem.W.mg_none_of X G z_bool,
    z_int := PySem.W.mg_none_of X G z_int,
    z_isinstance := PySem.W.mg_none_of X G z_isinstance,
    z_len := PySem.W.mg_none_of X G z_len,
    z_list := PySem.W.mg_none_of X G z_list,
    z_range := PySem.W.mg_none_of X G z_range,
    z_str := PySem.W.mg_none_of X G z_str,
    z_sum := PySem.W.mg_none_of X G z_sum,
    z_tuple := PySem.W.mg_none_of X G z_tuple,
    z_zip := PySem.W.mg_none_of X G z_zip,
    k_HOPS := ⟨_, PySem.W.mg_of X G k_HOPS⟩,
    k_MOST_ARRIVALS := ⟨_, PySem.W.mg_of X G k_MOST_ARRIVALS⟩,
    k_MOST_BRIDGES := ⟨_, PySem.W.mg_of X G k_MOST_BRIDGES⟩,
    k_MOST_COPIES := ⟨_, PySem.W.mg_of X G k_MOST_COPIES⟩,
    k_MOST_EDITS := ⟨_, PySem.W.mg_of X G k_MOST_EDITS⟩,
    k_MOST_ENTRIES := ⟨_, PySem.W.mg_of X G k_MOST_ENTRIES⟩,
    k_MOST_FRAME := ⟨_, PySem.W.mg_of X G k_MOST_FRAME⟩,
    k_MOST_HOPS := ⟨_, PySem.W.mg_of X G k_MOST_HOPS⟩,
    k_MOST_KEPT := ⟨_, PySem.W.mg_of X G k_MOST_KEPT⟩,
    k_MOST_LINKS := ⟨_, PySem.W.mg_of X G k_MOST_LINKS⟩,
    k_MOST_LISTED := ⟨_, PySem.W.mg_of X G k_MOST_LISTED⟩,
    k_MOST_PORTS := ⟨_, PySem.W.mg_of X G k_MOST_PORTS⟩,
    k_MOST_STATES := ⟨_, PySem.W.mg_of X G k_MOST_STATES⟩,
    k_MOST_TAG := ⟨_, PySem.W.mg_of X G k_MOST_TAG⟩,
    k_MOST_WISHES := ⟨_, PySem.W.mg_of X G k_MOST_WISHES⟩,
    t_BadEdit := PySem.W.mg_of X G xa12,
    t_BadEntry := PySem.W.mg_of X G xa5,
    t_BadFrame := PySem.W.mg_of X G xa1,
    t_BadLine := PySem.W.mg_of X G xa10,
    t_BadLinks := PySem.W.mg_of X G xa8,
    t_BadList := PySem.W.mg_of X G xa4,
    t_BadNet := PySem.W.mg_of X G xa7,
    t_BadNumber := PySem.W.mg_of X G xa3,
    t_BadRows := PySem.W.mg_of X G xa6,
    t_BadTag := PySem.W.mg_of X G xa0,
    t_BadText := PySem.W.mg_of X G xa2,
    t_BadWish := PySem.W.mg_of X G xa11,
    t_Broken := PySem.W.mg_of X G xa13,
    t_Calm := PySem.W.mg_of X G ba_Calm,
    t_Crowded := PySem.W.mg_of X G xa17,
    t_Lost := PySem.W.mg_of X G xa15,
    t_NoEnd := PySem.W.mg_of X G xa20,
    t_NoPort := PySem.W.mg_of X G xa9,
    t_NoSuch := PySem.W.mg_of X G ba_NoSuch,
    t_NoSuchFrame := PySem.W.mg_of X G xa22,
    t_NoSuchLink := PySem.W.mg_of X G xa21,
    t_NoSuchPort := PySem.W.mg_of X G xa19,
    t_NotIn := PySem.W.mg_of X G xa14,
    t_NothingToUndo := PySem.W.mg_of X G ba_NothingToUndo,
    t_TagError := PySem.W.mg_of X G ba_TagError,
    t_TooFar := PySem.W.mg_of X G xa16,
    t_TooMany := PySem.W.mg_of X G ba_TooMany,
    t_TooWide := PySem.W.mg_of X G ba_TooWide,
    t_Unheard := PySem.W.mg_of X G ba_Unheard,
    t_UnlikeEnds := PySem.W.mg_of X G xa18,
    xq_Calm := xq_Calm,
    xk_Calm := xk_Calm,
    xq_NothingToUndo := xq_NothingToUndo,
    xk_NothingToUndo := xk_NothingToUndo,
    xq_TooMany := xq_TooMany,
    xk_TooMany := xk_TooMany,
    xq_TooWide := xq_TooWide,
    xk_TooWide := xk_TooWide,
    xq_Unheard := xq_Unheard,
    xk_Unheard := xk_Unheard,
    xall := xall,
    xc_BadEdit := xc_BadEdit,
    xc_BadEntry := xc_BadEntry,
    xc_BadFrame := xc_BadFrame,
    xc_BadLine := xc_BadLine,
    xc_BadLinks := xc_BadLinks,
    xc_BadList := xc_BadList,
    xc_BadNet := xc_BadNet,
    xc_BadNumber := xc_BadNumber,
    xc_BadRows := xc_BadRows,
    xc_BadTag := xc_BadTag,
    xc_BadText := xc_BadText,
    xc_BadWish := xc_BadWish,
    xc_Broken := xc_Broken,
    xc_Calm := xc_Calm,
    xc_Crowded := xc_Crowded,
    xc_Lost := xc_Lost,
    xc_NoEnd := xc_NoEnd,
    xc_NoPort := xc_NoPort,
    xc_NoSuch := xc_NoSuch,
    xc_NoSuchFrame := xc_NoSuchFrame,
    xc_NoSuchLink := xc_NoSuchLink,
    xc_NoSuchPort := xc_NoSuchPort,
    xc_NotIn := xc_NotIn,
    xc_NothingToUndo := xc_NothingToUndo,
    xc_TagError := xc_TagError,
    xc_TooFar := xc_TooFar,
    xc_TooMany := xc_TooMany,
    xc_TooWide := xc_TooWide,
    xc_Unheard := xc_Unheard,
    xc_UnlikeEnds := xc_UnlikeEnds,
    xc_LookupError := xc_LookupError,
    xc_ValueError := xc_ValueError,
    xf_bridge := xf_bridge,
    xf_frame := xf_frame,
    xf_hops := xf_hops,
    xf_index := xf_index,
    xf_line := xf_line,
    xf_number := xf_number,
    xf_one := xf_one,
    xf_other := xf_other,
    xf_part := xf_part,
    xf_port := xf_port,
    xf_value := xf_value }
  exact ⟨PySem.W.fnOf "law" "law" (defArgs s_law) (defBody s_law) (defScope s_law) .none kV10 dc10 pm10 an10 cd10 ct10, fun s v => .of_eq rfl, fun base _ _ => ok_law (fun_mk (st := s_law) l10 c10 k10) T (law_true _)⟩
theorem walk {l : PySem.W.OpenLaw} {q : Program} {loose : List Str} {XP : (Str → Option Value) → Heap → Prop} {YP : World → Heap → Prop} {d : DefRec} {K : Params → PySem.W.Frag} (hn : l.most = some 63) (hdf : d.params.defaults = [])
    (hY : ∀ (w : World) (h : Heap), YP w h → (K w.params).In h)
    (F : ∀ (w : World) (mg : Str → Option Value) (fa : Addr) (h : Heap), (K w.params).In h → h.Ns mainGlobals mg → mg d.name = some (.ref fa) →
      ∃ fd : FuncData, (∀ (s : Shared) (u : Value), BindsTo s fd ⟨[u], []⟩ [("_law_script", u)]) ∧ ∀ base : Heap, (K w.params).In base → base.Ns mainGlobals mg → FnOk l.prog w (K w.params) mg base (L2.CX l.prog w) 9 fa fd ["_law_script"] (spLaw (K w.params))) :
    PySem.W.WalkO q loose XP YP l.row.toRowW d [] (fun f vs => PySem.call f vs) :=
  L2.walk_of (n := 63) (k := 9) (x := "_law_script") (CX := fun w => L2.CX l.prog w) (sp := fun w => spLaw (K w.params)) hn (by decide) hdf ⟨rfl, by decide, by decide⟩ hY F (fun _ _ a ns hl _ hS => ⟨a, ns, rfl, hS, hl, fun _ => rfl⟩) fun _ _ _ _ _ ⟨_, _, _, _, _, _, _, _, _, _, _, _, z⟩ => z
end Dn
open PySem PySem.W PyProof.Rows in
set_option maxRecDepth 100000 in
set_option maxHeartbeats 0 in
theorem PySem.Challenge.cw_tagrooms_k00_errors_and_limits_holds : PySem.Challenge.rw_tagrooms_k00_errors_and_limits.Holds := by
  w_on; o_law; k_head; (case hw => w_witness2)
  k_fill
  refine Dn.walk (l := PySem.Challenge.rw_tagrooms_k00_errors_and_limits) rfl rfl (fun w h Y => PySem.W.kIn_of Y) ?F
  case F =>
    intro w mg fa h KX G hmg
    refine' Dn.all_mk KX G hmg ?a0 ?l0 ?c0 ?k0 ?a1 ?l1 ?c1 ?k1 ?a2 ?l2 ?c2 ?k2 ?a3 ?l3 ?c3 ?k3 ?a4 ?l4 ?c4 ?k4 ?a5 ?l5 ?c5 ?k5 ?a6 ?l6 ?c6 ?k6 ?a7 ?l7 ?c7 ?k7 ?a8 ?l8 ?c8 ?k8 ?a9 ?l9 ?c9 ?k9 ?a10 ?l10 ?c10 ?k10 ?xa0 ?xi0 ?xt0 ?xl0 ?xc0 ?xk0 ?xL0 ?xr0 ?xs0 ?xe0 ?xy0 ?xq0 ?xg0 ?xh0 ?xd0 ?xn0_value ?xa1 ?xi1 ?xt1 ?xl1 ?xc1 ?xk1 ?xL1 ?xr1 ?xs1 ?xe1 ?xy1 ?xq1 ?xg1 ?xh1 ?xd1 ?xn1_index ?xa2 ?xi2 ?xt2 ?xl2 ?xc2 ?xk2 ?xL2 ?xr2 ?xs2 ?xe2 ?xy2 ?xq2 ?xg2 ?xh2 ?xd2 ?xn2_index ?xa3 ?xi3 ?xt3 ?xl3 ?xc3 ?xk3 ?xL3 ?xr3 ?xs3 ?xe3 ?xy3 ?xq3 ?xg3 ?xh3 ?xd3 ?xn3_value ?xa4 ?xi4 ?xt4 ?xl4 ?xc4 ?xk4 ?xL4 ?xr4 ?xs4 ?xe4 ?xy4 ?xq4 ?xg4 ?xh4 ?xd4 ?xn4_index ?xa5 ?xi5 ?xt5 ?xl5 ?xc5 ?xk5 ?xL5 ?xr5 ?xs5 ?xe5 ?xy5 ?xq5 ?xg5 ?xh5 ?xd5 ?xn5_part ?xn5_index ?xa6 ?xi6 ?xt6 ?xl6 ?xc6 ?xk6 ?xL6 ?xr6 ?xs6 ?xe6 ?xy6 ?xq6 ?xg6 ?xh6 ?xd6 ?xn6_index ?xa7 ?xi7 ?xt7 ?xl7 ?xc7 ?xk7 ?xL7 ?xr7 ?xs7 ?xe7 ?xy7 ?xq7 ?xg7 ?xh7 ?xd7 ?xn7_bridge ?xn7_port ?xa8 ?xi8 ?xt8 ?xl8 ?xc8 ?xk8 ?xL8 ?xr8 ?xs8 ?xe8 ?xy8 ?xq8 ?xg8 ?xh8 ?xd8 ?xn8_index ?xa9 ?xi9 ?xt9 ?xl9 ?xc9 ?xk9 ?xL9 ?xr9 ?xs9 ?xe9 ?xy9 ?xq9 ?xg9 ?xh9 ?xd9 ?xn9_value ?xa10 ?xi10 ?xt10 ?xl10 ?xc10 ?xk10 ?xL10 ?xr10 ?xs10 ?xe10 ?xy10 ?xq10 ?xg10 ?xh10 ?xd10 ?xn10_line ?xa11 ?xi11 ?xt11 ?xl11 ?xc11 ?xk11 ?xL11 ?xr11 ?xs11 ?xe11 ?xy11 ?xq11 ?xg11 ?xh11 ?xd11 ?xn11_index ?xa12 ?xi12 ?xt12 ?xl12 ?xc12 ?xk12 ?xL12 ?xr12 ?xs12 ?xe12 ?xy12 ?xq12 ?xg12 ?xh12 ?xd12 ?xn12_index ?xa13 ?xi13 ?xt13 ?xl13 ?xc13 ?xk13 ?xL13 ?xr13 ?xs13 ?xe13 ?xy13 ?xq13 ?xg13 ?xh13 ?xd13 ?xn13_index ?xn13_frame ?xa14 ?xi14 ?xt14 ?xl14 ?xc14 ?xk14 ?xL14 ?xr14 ?xs14 ?xe14 ?xy14 ?xq14 ?xg14 ?xh14 ?xd14 ?xn14_frame ?xa15 ?xi15 ?xt15 ?xl15 ?xc15 ?xk15 ?xL15 ?xr15 ?xs15 ?xe15 ?xy15 ?xq15 ?xg15 ?xh15 ?xd15 ?xn15_index ?xa16 ?xi16 ?xt16 ?xl16 ?xc16 ?xk16 ?xL16 ?xr16 ?xs16 ?xe16 ?xy16 ?xq16 ?xg16 ?xh16 ?xd16 ?xn16_hops ?xa17 ?xi17 ?xt17 ?xl17 ?xc17 ?xk17 ?xL17 ?xr17 ?xs17 ?xe17 ?xy17 ?xq17 ?xg17 ?xh17 ?xd17 ?xn17_hops ?xa18 ?xi18 ?xt18 ?xl18 ?xc18 ?xk18 ?xL18 ?xr18 ?xs18 ?xe18 ?xy18 ?xq18 ?xg18 ?xh18 ?xd18 ?xn18_one ?xn18_other ?xa19 ?xi19 ?xt19 ?xl19 ?xc19 ?xk19 ?xL19 ?xr19 ?xs19 ?xe19 ?xy19 ?xq19 ?xg19 ?xh19 ?xd19 ?xn19_value ?xa20 ?xi20 ?xt20 ?xl20 ?xc20 ?xk20 ?xL20 ?xr20 ?xs20 ?xe20 ?xy20 ?xq20 ?xg20 ?xh20 ?xd20 ?xn20_value ?xa21 ?xi21 ?xt21 ?xl21 ?xc21 ?xk21 ?xL21 ?xr21 ?xs21 ?xe21 ?xy21 ?xq21 ?xg21 ?xh21 ?xd21 ?xn21_value ?xa22 ?xi22 ?xt22 ?xl22 ?xc22 ?xk22 ?xL22 ?xr22 ?xs22 ?xe22 ?xy22 ?xq22 ?xg22 ?xh22 ?xd22 ?xn22_number ?z_LookupError ?z_ValueError ?z_all ?z_bool ?z_int ?z_isinstance ?z_len ?z_list ?z_range ?z_str ?z_sum ?z_tuple ?z_zip ?k_HOPS ?k_MOST_ARRIVALS ?k_MOST_BRIDGES ?k_MOST_COPIES ?k_MOST_EDITS ?k_MOST_ENTRIES ?k_MOST_FRAME ?k_MOST_HOPS ?k_MOST_KEPT ?k_MOST_LINKS ?k_MOST_LISTED ?k_MOST_PORTS ?k_MOST_STATES ?k_MOST_TAG ?k_MOST_WISHES ?ba_Calm ?ba_NoSuch ?ba_NothingToUndo ?ba_TagError ?ba_TooMany ?ba_TooWide ?ba_Unheard ?xq_Calm ?xk_Calm ?xq_NothingToUndo ?xk_NothingToUndo ?xq_TooMany ?xk_TooMany ?xq_TooWide ?xk_TooWide ?xq_Unheard ?xk_Unheard ?xall ?xc_BadEdit ?xc_BadEntry ?xc_BadFrame ?xc_BadLine ?xc_BadLinks ?xc_BadList ?xc_BadNet ?xc_BadNumber ?xc_BadRows ?xc_BadTag ?xc_BadText ?xc_BadWish ?xc_Broken ?xc_Calm ?xc_Crowded ?xc_Lost ?xc_NoEnd ?xc_NoPort ?xc_NoSuch ?xc_NoSuchFrame ?xc_NoSuchLink ?xc_NoSuchPort ?xc_NotIn ?xc_NothingToUndo ?xc_TagError ?xc_TooFar ?xc_TooMany ?xc_TooWide ?xc_Unheard ?xc_UnlikeEnds ?xc_LookupError ?xc_ValueError ?xf_bridge ?xf_frame ?xf_hops ?xf_index ?xf_line ?xf_number ?xf_one ?xf_other ?xf_part ?xf_port ?xf_value ?nd
    (case a0 => first | k_is | ks_is | rfl | decide | decide +kernel)
    (case l0 => first | k_is | ks_is | rfl | decide | decide +kernel)
    (case c0 => first | k_is | ks_is | rfl | decide | decide +kernel)
    (case k0 => first | k_is | ks_is | rfl | decide | decide +kernel)
    (case a1 => first | k_is | ks_is | rfl | decide | decide +kernel)
    (case l1 => first | k_is | ks_is | rfl | decide | decide +kernel)
    (case c1 => first | k_is | ks_is | rfl | decide | decide +kernel)
    (case k1 => first | k_is | ks_is | rfl | decide | decide +kernel)
    (case a2 => first | k_is | ks_is | rfl | decide | decide +kernel)
    (case l2 => first | k_is | ks_is | rfl | decide | decide +kernel)
    (case c2 => first | k_is | ks_is | rfl | decide | decide +kernel)
    (case k2 => first | k_is | ks_is | rfl | decide | decide +kernel)
    (case a3 => first | k_is | ks_is | rfl | decide | decide +kernel)
    (case l3 => first | k_is | ks_is | rfl | decide | decide +kernel)
    (case c3 => first | k_is | ks_is | rfl | decide | decide +kernel)
    (case k3 => first | k_is | ks_is | rfl | decide | decide +kernel)
    (case a4 => first | k_is | ks_is | rfl | decide | decide +kernel)
    (case l4 => first | k_is | ks_is | rfl | decide | decide +kernel)
    (case c4 => first | k_is | ks_is | rfl | decide | decide +kernel)
    (case k4 => first | k_is | ks_is | rfl | decide | decide +kernel)
    (case a5 => first | k_is | ks_is | rfl | decide | decide +kernel)
    (case l5 => first | k_is | ks_is | rfl | decide | decide +kernel)
    (case c5 => first | k_is | ks_is | rfl | decide | decide +kernel)
    (case k5 => first | k_is | ks_is | rfl | decide | decide +kernel)
    (case a6 => first | k_is | ks_is | rfl | decide | decide +kernel)
    (case l6 => first | k_is | ks_is | rfl | decide | decide +kernel)
    (case c6 => first | k_is | ks_is | rfl | decide | decide +kernel)
    (case k6 => first | k_is | ks_is | rfl | decide | decide +kernel)
    (case a7 => first | k_is | ks_is | rfl | decide | decide +kernel)
    (case l7 => first | k_is | ks_is | rfl | decide | decide +kernel)
    (case c7 => first | k_is | ks_is | rfl | decide | decide +kernel)
    (case k7 => first | k_is | ks_is | rfl | decide | decide +kernel)
    (case a8 => first | k_is | ks_is | rfl | decide | decide +kernel)
    (case l8 => first | k_is | ks_is | rfl | decide | decide +kernel)
    (case c8 => first | k_is | ks_is | rfl | decide | decide +kernel)
    (case k8 => first | k_is | ks_is | rfl | decide | decide +kernel)
    (case a9 => first | k_is | ks_is | rfl | decide | decide +kernel)
    (case l9 => first | k_is | ks_is | rfl | decide | decide +kernel)
    (case c9 => first | k_is | ks_is | rfl | decide | decide +kernel)
    (case k9 => first | k_is | ks_is | rfl | decide | decide +kernel)
    (case a10 => first | k_is | ks_is | rfl | decide | decide +kernel)
    (case l10 => first | k_is | ks_is | rfl | decide | decide +kernel)
    (case c10 => first | k_is | ks_is | rfl | decide | decide +kernel)
    (case k10 => first | k_is | ks_is | rfl | decide | decide +kernel)
    (case xa0 => first | k_is | ks_is | rfl | decide | decide +kernel)
    (case xi0 => first | k_is | ks_is | rfl | decide | decide +kernel)
    (case xt0 => first | k_is | ks_is | rfl | decide | decide +kernel)
    (case xl0 => first | k_is | ks_is | rfl | decide | decide +kernel)
    (case xc0 => first | k_is | ks_is | rfl | decide | decide +kernel)
    (case xk0 => first | k_is | ks_is | rfl | decide | decide +kernel)
    (case xL0 => first | k_is | ks_is | rfl | decide | decide +kernel)
    (case xr0 => first | k_is | ks_is | rfl | decide | decide +kernel)
    (case xs0 => first | k_is | ks_is | rfl | decide | decide +kernel)
    (case xe0 => first | k_is | ks_is | rfl | decide | decide +kernel)
    (case xy0 => first | k_is | ks_is | rfl | decide | decide +kernel)
    (case xq0 => first | k_is | ks_is | rfl | decide | decide +kernel)
    (case xg0 => first | k_is | ks_is | rfl | decide | decide +kernel)
    (case xh0 => first | k_is | ks_is | rfl | decide | decide +kernel)
    (case xd0 => first | k_is | ks_is | rfl | decide | decide +kernel)
    (case xn0_value => first | k_is | ks_is | rfl | decide | decide +kernel)
    (case xa1 => first | k_is | ks_is | rfl | decide | decide +kernel)
    (case xi1 => first | k_is | ks_is | rfl | decide | decide +kernel)
    (case xt1 => first | k_is | ks_is | rfl | decide | decide +kernel)
    (case xl1 => first | k_is | ks_is | rfl | decide | decide +kernel)
    (case xc1 => first | k_is | ks_is | rfl | decide | decide +kernel)
    (case xk1 => first | k_is | ks_is | rfl | decide | decide +kernel)
    (case xL1 => first | k_is | ks_is | rfl | decide | decide +kernel)
    (case xr1 => first | k_is | ks_is | rfl | decide | decide +kernel)
    (case xs1 => first | k_is | ks_is | rfl | decide | decide +kernel)
    (case xe1 => first | k_is | ks_is | rfl | decide | decide +kernel)
    (case xy1 => first | k_is | ks_is | rfl | decide | decide +kernel)
    (case xq1 => first | k_is | ks_is | rfl | decide | decide +kernel)
    (case xg1 => first | k_is | ks_is | rfl | decide | decide +kernel)
    (case xh1 => first | k_is | ks_is | rfl | decide | decide +kernel)
    (case xd1 => first | k_is | ks_is | rfl | decide | decide +kernel)
    (case xn1_index => first | k_is | ks_is | rfl | decide | decide +kernel)
    (case xa2 => first | k_is | ks_is | rfl | decide | decide +kernel)
    (case xi2 => first | k_is | ks_is | rfl | decide | decide +kernel)
    (case xt2 => first | k_is | ks_is | rfl | decide | decide +kernel)
    (case xl2 => first | k_is | ks_is | rfl | decide | decide +kernel)
    (case xc2 => first | k_is | ks_is | rfl | decide | decide +kernel)
    (case xk2 => first | k_is | ks_is | rfl | decide | decide +kernel)
    (case xL2 => first | k_is | ks_is | rfl | decide | decide +kernel)
    (case xr2 => first | k_is | ks_is | rfl | decide | decide +kernel)
    (case xs2 => first | k_is | ks_is | rfl | decide | decide +kernel)
    (case xe2 => first | k_is | ks_is | rfl | decide | decide +kernel)
    (case xy2 => first | k_is | ks_is | rfl | decide | decide +kernel)
    (case xq2 => first | k_is | ks_is | rfl | decide | decide +kernel)
    (case xg2 => first | k_is | ks_is | rfl | decide | decide +kernel)
    (case xh2 => first | k_is | ks_is | rfl | decide | decide +kernel)
    (case xd2 => first | k_is | ks_is | rfl | decide | decide +kernel)
    (case xn2_index => first | k_is | ks_is | rfl | decide | decide +kernel)
    (case xa3 => first | k_is | ks_is | rfl | decide | decide +kernel)
    (case xi3 => first | k_is | ks_is | rfl | decide | decide +kernel)
    (case xt3 => first | k_is | ks_is | rfl | decide | decide +kernel)
    (case xl3 => first | k_is | ks_is | rfl | decide | decide +kernel)
    (case xc3 => first | k_is | ks_is | rfl | decide | decide +kernel)
    (case xk3 => first | k_is | ks_is | rfl | decide | decide +kernel)
    (case xL3 => first | k_is | ks_is | rfl | decide | decide +kernel)
    (case xr3 => first | k_is | ks_is | rfl | decide | decide +kernel)
    (case xs3 => first | k_is | ks_is | rfl | decide | decide +kernel)
    (case xe3 => first | k_is | ks_is | rfl | decide | decide +kernel)
    (case xy3 => first | k_is | ks_is | rfl | decide | decide +kernel)
    (case xq3 => first | k_is | ks_is | rfl | decide | decide +kernel)
    (case xg3 => first | k_is | ks_is | rfl | decide | decide +kernel)
    (case xh3 => first | k_is | ks_is | rfl | decide | decide +kernel)
    (case xd3 => first | k_is | ks_is | rfl | decide | decide +kernel)
    (case xn3_value => first | k_is | ks_is | rfl | decide | decide +kernel)
    (case xa4 => first | k_is | ks_is | rfl | decide | decide +kernel)
    (case xi4 => first | k_is | ks_is | rfl | decide | decide +kernel)
    (case xt4 => first | k_is | ks_is | rfl | decide | decide +kernel)
    (case xl4 => first | k_is | ks_is | rfl | decide | decide +kernel)
    (case xc4 => first | k_is | ks_is | rfl | decide | decide +kernel)
    (case xk4 => first | k_is | ks_is | rfl | decide | decide +kernel)
    (case xL4 => first | k_is | ks_is | rfl | decide | decide +kernel)
    (case xr4 => first | k_is | ks_is | rfl | decide | decide +kernel)
    (case xs4 => first | k_is | ks_is | rfl | decide | decide +kernel)
    (case xe4 => first | k_is | ks_is | rfl | decide | decide +kernel)
    (case xy4 => first | k_is | ks_is | rfl | decide | decide +kernel)
    (case xq4 => first | k_is | ks_is | rfl | decide | decide +kernel)
    (case xg4 => first | k_is | ks_is | rfl | decide | decide +kernel)
    (case xh4 => first | k_is | ks_is | rfl | decide | decide +kernel)
    (case xd4 => first | k_is | ks_is | rfl | decide | decide +kernel)
    (case xn4_index => first | k_is | ks_is | rfl | decide | decide +kernel)
    (case xa5 => first | k_is | ks_is | rfl | decide | decide +kernel)
    (case xi5 => first | k_is | ks_is | rfl | decide | decide +kernel)
    (case xt5 => first | k_is | ks_is | rfl | decide | decide +kernel)
    (case xl5 => first | k_is | ks_is | rfl | decide | decide +kernel)
    (case xc5 => first | k_is | ks_is | rfl | decide | decide +kernel)
    (case xk5 => first | k_is | ks_is | rfl | decide | decide +kernel)
    (case xL5 => first | k_is | ks_is | rfl | decide | decide +kernel)
    (case xr5 => first | k_is | ks_is | rfl | decide | decide +kernel)
    (case xs5 => first | k_is | ks_is | rfl | decide | decide +kernel)
    (case xe5 => first | k_is | ks_is | rfl | decide | decide +kernel)
    (case xy5 => first | k_is | ks_is | rfl | decide | decide +kernel)
    (case xq5 => first | k_is | ks_is | rfl | decide | decide +kernel)
    (case xg5 => first | k_is | ks_is | rfl | decide | decide +kernel)
    (case xh5 => first | k_is | ks_is | rfl | decide | decide +kernel)
    (case xd5 => first | k_is | ks_is | rfl | decide | decide +kernel)
    (case xn5_part => first | k_is | ks_is | rfl | decide | decide +kernel)
    (case xn5_index => first | k_is | ks_is | rfl | decide | decide +kernel)
    (case xa6 => first | k_is | ks_is | rfl | decide | decide +kernel)
    (case xi6 => first | k_is | ks_is | rfl | decide | decide +kernel)
    (case xt6 => first | k_is | ks_is | rfl | decide | decide +kernel)
    (case xl6 => first | k_is | ks_is | rfl | decide | decide +kernel)
    (case xc6 => first | k_is | ks_is | rfl | decide | decide +kernel)
    (case xk6 => first | k_is | ks_is | rfl | decide | decide +kernel)
    (case xL6 => first | k_is | ks_is | rfl | decide | decide +kernel)
    (case xr6 => first | k_is | ks_is | rfl | decide | decide +kernel)
    (case xs6 => first | k_is | ks_is | rfl | decide | decide +kernel)
    (case xe6 => first | k_is | ks_is | rfl | decide | decide +kernel)
    (case xy6 => first | k_is | ks_is | rfl | decide | decide +kernel)
    (case xq6 => first | k_is | ks_is | rfl | decide | decide +kernel)
    (case xg6 => first | k_is | ks_is | rfl | decide | decide +kernel)
    (case xh6 => first | k_is | ks_is | rfl | decide | decide +kernel)
    (case xd6 => first | k_is | ks_is | rfl | decide | decide +kernel)
    (case xn6_index => first | k_is | ks_is | rfl | decide | decide +kernel)
    (case xa7 => first | k_is | ks_is | rfl | decide | decide +kernel)
    (case xi7 => first | k_is | ks_is | rfl | decide | decide +kernel)
    (case xt7 => first | k_is | ks_is | rfl | decide | decide +kernel)
    (case xl7 => first | k_is | ks_is | rfl | decide | decide +kernel)
    (case xc7 => first | k_is | ks_is | rfl | decide | decide +kernel)
    (case xk7 => first | k_is | ks_is | rfl | decide | decide +kernel)
    (case xL7 => first | k_is | ks_is | rfl | decide | decide +kernel)
    (case xr7 => first | k_is | ks_is | rfl | decide | decide +kernel)
    (case xs7 => first | k_is | ks_is | rfl | decide | decide +kernel)
    (case xe7 => first | k_is | ks_is | rfl | decide | decide +kernel)
    (case xy7 => first | k_is | ks_is | rfl | decide | decide +kernel)
    (case xq7 => first | k_is | ks_is | rfl | decide | decide +kernel)
    (case xg7 => first | k_is | ks_is | rfl | decide | decide +kernel)
    (case xh7 => first | k_is | ks_is | rfl | decide | decide +kernel)
    (case xd7 => first | k_is | ks_is | rfl | decide | decide +kernel)
    (case xn7_bridge => first | k_is | ks_is | rfl | decide | decide +kernel)
    (case xn7_port => first | k_is | ks_is | rfl | decide | decide +kernel)
    (case xa8 => first | k_is | ks_is | rfl | decide | decide +kernel)
    (case xi8 => first | k_is | ks_is | rfl | decide | decide +kernel)
    (case xt8 => first | k_is | ks_is | rfl | decide | decide +kernel)
    (case xl8 => first | k_is | ks_is | rfl | decide | decide +kernel)
    (case xc8 => first | k_is | ks_is | rfl | decide | decide +kernel)
    (case xk8 => first | k_is | ks_is | rfl | decide | decide +kernel)
    (case xL8 => first | k_is | ks_is | rfl | decide | decide +kernel)
    (case xr8 => first | k_is | ks_is | rfl | decide | decide +kernel)
    (case xs8 => first | k_is | ks_is | rfl | decide | decide +kernel)
    (case xe8 => first | k_is | ks_is | rfl | decide | decide +kernel)
    (case xy8 => first | k_is | ks_is | rfl | decide | decide +kernel)
    (case xq8 => first | k_is | ks_is | rfl | decide | decide +kernel)
    (case xg8 => first | k_is | ks_is | rfl | decide | decide +kernel)
    (case xh8 => first | k_is | ks_is | rfl | decide | decide +kernel)
    (case xd8 => first | k_is | ks_is | rfl | decide | decide +kernel)
    (case xn8_index => first | k_is | ks_is | rfl | decide | decide +kernel)
    (case xa9 => first | k_is | ks_is | rfl | decide | decide +kernel)
    (case xi9 => first | k_is | ks_is | rfl | decide | decide +kernel)
    (case xt9 => first | k_is | ks_is | rfl | decide | decide +kernel)
    (case xl9 => first | k_is | ks_is | rfl | decide | decide +kernel)
    (case xc9 => first | k_is | ks_is | rfl | decide | decide +kernel)
    (case xk9 => first | k_is | ks_is | rfl | decide | decide +kernel)
    (case xL9 => first | k_is | ks_is | rfl | decide | decide +kernel)
    (case xr9 => first | k_is | ks_is | rfl | decide | decide +kernel)
    (case xs9 => first | k_is | ks_is | rfl | decide | decide +kernel)
    (case xe9 => first | k_is | ks_is | rfl | decide | decide +kernel)
    (case xy9 => first | k_is | ks_is | rfl | decide | decide +kernel)
    (case xq9 => first | k_is | ks_is | rfl | decide | decide +kernel)
    (case xg9 => first | k_is | ks_is | rfl | decide | decide +kernel)
    (case xh9 => first | k_is | ks_is | rfl | decide | decide +kernel)
    (case xd9 => first | k_is | ks_is | rfl | decide | decide +kernel)
    (case xn9_value => first | k_is | ks_is | rfl | decide | decide +kernel)
    (case xa10 => first | k_is | ks_is | rfl | decide | decide +kernel)
    (case xi10 => first | k_is | ks_is | rfl | decide | decide +kernel)
    (case xt10 => first | k_is | ks_is | rfl | decide | decide +kernel)
    (case xl10 => first | k_is | ks_is | rfl | decide | decide +kernel)
    (case xc10 => first | k_is | ks_is | rfl | decide | decide +kernel)
    (case xk10 => first | k_is | ks_is | rfl | decide | decide +kernel)
    (case xL10 => first | k_is | ks_is | rfl | decide | decide +kernel)
    (case xr10 => first | k_is | ks_is | rfl | decide | decide +kernel)
    (case xs10 => first | k_is | ks_is | rfl | decide | decide +kernel)
    (case xe10 => first | k_is | ks_is | rfl | decide | decide +kernel)
    (case xy10 => first | k_is | ks_is | rfl | decide | decide +kernel)
    (case xq10 => first | k_is | ks_is | rfl | decide | decide +kernel)
    (case xg10 => first | k_is | ks_is | rfl | decide | decide +kernel)
    (case xh10 => first | k_is | ks_is | rfl | decide | decide +kernel)
    (case xd10 => first | k_is | ks_is | rfl | decide | decide +kernel)
    (case xn10_line => first | k_is | ks_is | rfl | decide | decide +kernel)
    (case xa11 => first | k_is | ks_is | rfl | decide | decide +kernel)
    (case xi11 => first | k_is | ks_is | rfl | decide | decide +kernel)
    (case xt11 => first | k_is | ks_is | rfl | decide | decide +kernel)
    (case xl11 => first | k_is | ks_is | rfl | decide | decide +kernel)
    (case xc11 => first | k_is | ks_is | rfl | decide | decide +kernel)
    (case xk11 => first | k_is | ks_is | rfl | decide | decide +kernel)
    (case xL11 => first | k_is | ks_is | rfl | decide | decide +kernel)
    (case xr11 => first | k_is | ks_is | rfl | decide | decide +kernel)
    (case xs11 => first | k_is | ks_is | rfl | decide | decide +kernel)
    (case xe11 => first | k_is | ks_is | rfl | decide | decide +kernel)
    (case xy11 => first | k_is | ks_is | rfl | decide | decide +kernel)
    (case xq11 => first | k_is | ks_is | rfl | decide | decide +kernel)
    (case xg11 => first | k_is | ks_is | rfl | decide | decide +kernel)
    (case xh11 => first | k_is | ks_is | rfl | decide | decide +kernel)
    (case xd11 => first | k_is | ks_is | rfl | decide | decide +kernel)
    (case xn11_index => first | k_is | ks_is | rfl | decide | decide +kernel)
    (case xa12 => first | k_is | ks_is | rfl | decide | decide +kernel)
    (case xi12 => first | k_is | ks_is | rfl | decide | decide +kernel)
    (case xt12 => first | k_is | ks_is | rfl | decide | decide +kernel)
    (case xl12 => first | k_is | ks_is | rfl | decide | decide +kernel)
    (case xc12 => first | k_is | ks_is | rfl | decide | decide +kernel)
    (case xk12 => first | k_is | ks_is | rfl | decide | decide +kernel)
    (case xL12 => first | k_is | ks_is | rfl | decide | decide +kernel)
    (case xr12 => first | k_is | ks_is | rfl | decide | decide +kernel)
    (case xs12 => first | k_is | ks_is | rfl | decide | decide +kernel)
    (case xe12 => first | k_is | ks_is | rfl | decide | decide +kernel)
    (case xy12 => first | k_is | ks_is | rfl | decide | decide +kernel)
    (case xq12 => first | k_is | ks_is | rfl | decide | decide +kernel)
    (case xg12 => first | k_is | ks_is | rfl | decide | decide +kernel)
    (case xh12 => first | k_is | ks_is | rfl | decide | decide +kernel)
    (case xd12 => first | k_is | ks_is | rfl | decide | decide +kernel)
    (case xn12_index => first | k_is | ks_is | rfl | decide | decide +kernel)
    (case xa13 => first | k_is | ks_is | rfl | decide | decide +kernel)
    (case xi13 => first | k_is | ks_is | rfl | decide | decide +kernel)
    (case xt13 => first | k_is | ks_is | rfl | decide | decide +kernel)
    (case xl13 => first | k_is | ks_is | rfl | decide | decide +kernel)
    (case xc13 => first | k_is | ks_is | rfl | decide | decide +kernel)
    (case xk13 => first | k_is | ks_is | rfl | decide | decide +kernel)
    (case xL13 => first | k_is | ks_is | rfl | decide | decide +kernel)
    (case xr13 => first | k_is | ks_is | rfl | decide | decide +kernel)
    (case xs13 => first | k_is | ks_is | rfl | decide | decide +kernel)
    (case xe13 => first | k_is | ks_is | rfl | decide | decide +kernel)
    (case xy13 => first | k_is | ks_is | rfl | decide | decide +kernel)
    (case xq13 => first | k_is | ks_is | rfl | decide | decide +kernel)
    (case xg13 => first | k_is | ks_is | rfl | decide | decide +kernel)
    (case xh13 => first | k_is | ks_is | rfl | decide | decide +kernel)
    (case xd13 => first | k_is | ks_is | rfl | decide | decide +kernel)
    (case xn13_index => first | k_is | ks_is | rfl | decide | decide +kernel)
    (case xn13_frame => first | k_is | ks_is | rfl | decide | decide +kernel)
    (case xa14 => first | k_is | ks_is | rfl | decide | decide +kernel)
    (case xi14 => first | k_is | ks_is | rfl | decide | decide +kernel)
    (case xt14 => first | k_is | ks_is | rfl | decide | decide +kernel)
    (case xl14 => first | k_is | ks_is | rfl | decide | decide +kernel)
    (case xc14 => first | k_is | ks_is | rfl | decide | decide +kernel)
    (case xk14 => first | k_is | ks_is | rfl | decide | decide +kernel)
    (case xL14 => first | k_is | ks_is | rfl | decide | decide +kernel)
    (case xr14 => first | k_is | ks_is | rfl | decide | decide +kernel)
    (case xs14 => first | k_is | ks_is | rfl | decide | decide +kernel)
    (case xe14 => first | k_is | ks_is | rfl | decide | decide +kernel)
    (case xy14 => first | k_is | ks_is | rfl | decide | decide +kernel)
    (case xq14 => first | k_is | ks_is | rfl | decide | decide +kernel)
    (case xg14 => first | k_is | ks_is | rfl | decide | decide +kernel)
    (case xh14 => first | k_is | ks_is | rfl | decide | decide +kernel)
    (case xd14 => first | k_is | ks_is | rfl | decide | decide +kernel)
    (case xn14_frame => first | k_is | ks_is | rfl | decide | decide +kernel)
    (case xa15 => first | k_is | ks_is | rfl | decide | decide +kernel)
    (case xi15 => first | k_is | ks_is | rfl | decide | decide +kernel)
    (case xt15 => first | k_is | ks_is | rfl | decide | decide +kernel)
    (case xl15 => first | k_is | ks_is | rfl | decide | decide +kernel)
    (case xc15 => first | k_is | ks_is | rfl | decide | decide +kernel)
    (case xk15 => first | k_is | ks_is | rfl | decide | decide +kernel)
    (case xL15 => first | k_is | ks_is | rfl | decide | decide +kernel)
    (case xr15 => first | k_is | ks_is | rfl | decide | decide +kernel)
    (case xs15 => first | k_is | ks_is | rfl | decide | decide +kernel)
    (case xe15 => first | k_is | ks_is | rfl | decide | decide +kernel)
    (case xy15 => first | k_is | ks_is | rfl | decide | decide +kernel)
    (case xq15 => first | k_is | ks_is | rfl | decide | decide +kernel)
    (case xg15 => first | k_is | ks_is | rfl | decide | decide +kernel)
    (case xh15 => first | k_is | ks_is | rfl | decide | decide +kernel)
    (case xd15 => first | k_is | ks_is | rfl | decide | decide +kernel)
    (case xn15_index => first | k_is | ks_is | rfl | decide | decide +kernel)
    (case xa16 => first | k_is | ks_is | rfl | decide | decide +kernel)
    (case xi16 => first | k_is | ks_is | rfl | decide | decide +kernel)
    (case xt16 => first | k_is | ks_is | rfl | decide | decide +kernel)
    (case xl16 => first | k_is | ks_is | rfl | decide | decide +kernel)
    (case xc16 => first | k_is | ks_is | rfl | decide | decide +kernel)
    (case xk16 => first | k_is | ks_is | rfl | decide | decide +kernel)
    (case xL16 => first | k_is | ks_is | rfl | decide | decide +kernel)
    (case xr16 => first | k_is | ks_is | rfl | decide | decide +kernel)
    (case xs16 => first | k_is | ks_is | rfl | decide | decide +kernel)
    (case xe16 => first | k_is | ks_is | rfl | decide | decide +kernel)
    (case xy16 => first | k_is | ks_is | rfl | decide | decide +kernel)
    (case xq16 => first | k_is | ks_is | rfl | decide | decide +kernel)
    (case xg16 => first | k_is | ks_is | rfl | decide | decide +kernel)
    (case xh16 => first | k_is | ks_is | rfl | decide | decide +kernel)
    (case xd16 => first | k_is | ks_is | rfl | decide | decide +kernel)
    (case xn16_hops => first | k_is | ks_is | rfl | decide | decide +kernel)
    (case xa17 => first | k_is | ks_is | rfl | decide | decide +kernel)
    (case xi17 => first | k_is | ks_is | rfl | decide | decide +kernel)
    (case xt17 => first | k_is | ks_is | rfl | decide | decide +kernel)
    (case xl17 => first | k_is | ks_is | rfl | decide | decide +kernel)
    (case xc17 => first | k_is | ks_is | rfl | decide | decide +kernel)
    (case xk17 => first | k_is | ks_is | rfl | decide | decide +kernel)
    (case xL17 => first | k_is | ks_is | rfl | decide | decide +kernel)
    (case xr17 => first | k_is | ks_is | rfl | decide | decide +kernel)
    (case xs17 => first | k_is | ks_is | rfl | decide | decide +kernel)
    (case xe17 => first | k_is | ks_is | rfl | decide | decide +kernel)
    (case xy17 => first | k_is | ks_is | rfl | decide | decide +kernel)
    (case xq17 => first | k_is | ks_is | rfl | decide | decide +kernel)
    (case xg17 => first | k_is | ks_is | rfl | decide | decide +kernel)
    (case xh17 => first | k_is | ks_is | rfl | decide | decide +kernel)
    (case xd17 => first | k_is | ks_is | rfl | decide | decide +kernel)
    (case xn17_hops => first | k_is | ks_is | rfl | decide | decide +kernel)
    (case xa18 => first | k_is | ks_is | rfl | decide | decide +kernel)
    (case xi18 => first | k_is | ks_is | rfl | decide | decide +kernel)
    (case xt18 => first | k_is | ks_is | rfl | decide | decide +kernel)
    (case xl18 => first | k_is | ks_is | rfl | decide | decide +kernel)
    (case xc18 => first | k_is | ks_is | rfl | decide | decide +kernel)
    (case xk18 => first | k_is | ks_is | rfl | decide | decide +kernel)
    (case xL18 => first | k_is | ks_is | rfl | decide | decide +kernel)
    (case xr18 => first | k_is | ks_is | rfl | decide | decide +kernel)
    (case xs18 => first | k_is | ks_is | rfl | decide | decide +kernel)
    (case xe18 => first | k_is | ks_is | rfl | decide | decide +kernel)
    (case xy18 => first | k_is | ks_is | rfl | decide | decide +kernel)
    (case xq18 => first | k_is | ks_is | rfl | decide | decide +kernel)
    (case xg18 => first | k_is | ks_is | rfl | decide | decide +kernel)
    (case xh18 => first | k_is | ks_is | rfl | decide | decide +kernel)
    (case xd18 => first | k_is | ks_is | rfl | decide | decide +kernel)
    (case xn18_one => first | k_is | ks_is | rfl | decide | decide +kernel)
    (case xn18_other => first | k_is | ks_is | rfl | decide | decide +kernel)
    (case xa19 => first | k_is | ks_is | rfl | decide | decide +kernel)
    (case xi19 => first | k_is | ks_is | rfl | decide | decide +kernel)
    (case xt19 => first | k_is | ks_is | rfl | decide | decide +kernel)
    (case xl19 => first | k_is | ks_is | rfl | decide | decide +kernel)
    (case xc19 => first | k_is | ks_is | rfl | decide | decide +kernel)
    (case xk19 => first | k_is | ks_is | rfl | decide | decide +kernel)
    (case xL19 => first | k_is | ks_is | rfl | decide | decide +kernel)
    (case xr19 => first | k_is | ks_is | rfl | decide | decide +kernel)
    (case xs19 => first | k_is | ks_is | rfl | decide | decide +kernel)
    (case xe19 => first | k_is | ks_is | rfl | decide | decide +kernel)
    (case xy19 => first | k_is | ks_is | rfl | decide | decide +kernel)
    (case xq19 => first | k_is | ks_is | rfl | decide | decide +kernel)
    (case xg19 => first | k_is | ks_is | rfl | decide | decide +kernel)
    (case xh19 => first | k_is | ks_is | rfl | decide | decide +kernel)
    (case xd19 => first | k_is | ks_is | rfl | decide | decide +kernel)
    (case xn19_value => first | k_is | ks_is | rfl | decide | decide +kernel)
    (case xa20 => first | k_is | ks_is | rfl | decide | decide +kernel)
    (case xi20 => first | k_is | ks_is | rfl | decide | decide +kernel)
    (case xt20 => first | k_is | ks_is | rfl | decide | decide +kernel)
    (case xl20 => first | k_is | ks_is | rfl | decide | decide +kernel)
    (case xc20 => first | k_is | ks_is | rfl | decide | decide +kernel)
    (case xk20 => first | k_is | ks_is | rfl | decide | decide +kernel)
    (case xL20 => first | k_is | ks_is | rfl | decide | decide +kernel)
    (case xr20 => first | k_is | ks_is | rfl | decide | decide +kernel)
    (case xs20 => first | k_is | ks_is | rfl | decide | decide +kernel)
    (case xe20 => first | k_is | ks_is | rfl | decide | decide +kernel)
    (case xy20 => first | k_is | ks_is | rfl | decide | decide +kernel)
    (case xq20 => first | k_is | ks_is | rfl | decide | decide +kernel)
    (case xg20 => first | k_is | ks_is | rfl | decide | decide +kernel)
    (case xh20 => first | k_is | ks_is | rfl | decide | decide +kernel)
    (case xd20 => first | k_is | ks_is | rfl | decide | decide +kernel)
    (case xn20_value => first | k_is | ks_is | rfl | decide | decide +kernel)
    (case xa21 => first | k_is | ks_is | rfl | decide | decide +kernel)
    (case xi21 => first | k_is | ks_is | rfl | decide | decide +kernel)
    (case xt21 => first | k_is | ks_is | rfl | decide | decide +kernel)
    (case xl21 => first | k_is | ks_is | rfl | decide | decide +kernel)
    (case xc21 => first | k_is | ks_is | rfl | decide | decide +kernel)
    (case xk21 => first | k_is | ks_is | rfl | decide | decide +kernel)
    (case xL21 => first | k_is | ks_is | rfl | decide | decide +kernel)
    (case xr21 => first | k_is | ks_is | rfl | decide | decide +kernel)
    (case xs21 => first | k_is | ks_is | rfl | decide | decide +kernel)
    (case xe21 => first | k_is | ks_is | rfl | decide | decide +kernel)
    (case xy21 => first | k_is | ks_is | rfl | decide | decide +kernel)
    (case xq21 => first | k_is | ks_is | rfl | decide | decide +kernel)
    (case xg21 => first | k_is | ks_is | rfl | decide | decide +kernel)
    (case xh21 => first | k_is | ks_is | rfl | decide | decide +kernel)
    (case xd21 => first | k_is | ks_is | rfl | decide | decide +kernel)
    (case xn21_value => first | k_is | ks_is | rfl | decide | decide +kernel)
    (case xa22 => first | k_is | ks_is | rfl | decide | decide +kernel)
    (case xi22 => first | k_is | ks_is | rfl | decide | decide +kernel)
    (case xt22 => first | k_is | ks_is | rfl | decide | decide +kernel)
    (case xl22 => first | k_is | ks_is | rfl | decide | decide +kernel)
    (case xc22 => first | k_is | ks_is | rfl | decide | decide +kernel)
    (case xk22 => first | k_is | ks_is | rfl | decide | decide +kernel)
    (case xL22 => first | k_is | ks_is | rfl | decide | decide +kernel)
    (case xr22 => first | k_is | ks_is | rfl | decide | decide +kernel)
    (case xs22 => first | k_is | ks_is | rfl | decide | decide +kernel)
    (case xe22 => first | k_is | ks_is | rfl | decide | decide +kernel)
    (case xy22 => first | k_is | ks_is | rfl | decide | decide +kernel)
    (case xq22 => first | k_is | ks_is | rfl | decide | decide +kernel)
    (case xg22 => first | k_is | ks_is | rfl | decide | decide +kernel)
    (case xh22 => first | k_is | ks_is | rfl | decide | decide +kernel)
    (case xd22 => first | k_is | ks_is | rfl | decide | decide +kernel)
    (case xn22_number => first | k_is | ks_is | rfl | decide | decide +kernel)
    (case z_LookupError => first | k_is | ks_is | rfl | decide | decide +kernel)
    (case z_ValueError => first | k_is | ks_is | rfl | decide | decide +kernel)
    (case z_all => first | k_is | ks_is | rfl | decide | decide +kernel)
    (case z_bool => first | k_is | ks_is | rfl | decide | decide +kernel)
    (case z_int => first | k_is | ks_is | rfl | decide | decide +kernel)
    (case z_isinstance => first | k_is | ks_is | rfl | decide | decide +kernel)
    (case z_len => first | k_is | ks_is | rfl | decide | decide +kernel)
    (case z_list => first | k_is | ks_is | rfl | decide | decide +kernel)
    (case z_range => first | k_is | ks_is | rfl | decide | decide +kernel)
    (case z_str => first | k_is | ks_is | rfl | decide | decide +kernel)
    (case z_sum => first | k_is | ks_is | rfl | decide | decide +kernel)
    (case z_tuple => first | k_is | ks_is | rfl | decide | decide +kernel)
    (case z_zip => first | k_is | ks_is | rfl | decide | decide +kernel)
    (case k_HOPS => first | k_is | ks_is | rfl | decide | decide +kernel)
    (case k_MOST_ARRIVALS => first | k_is | ks_is | rfl | decide | decide +kernel)
    (case k_MOST_BRIDGES => first | k_is | ks_is | rfl | decide | decide +kernel)
    (case k_MOST_COPIES => first | k_is | ks_is | rfl | decide | decide +kernel)
    (case k_MOST_EDITS => first | k_is | ks_is | rfl | decide | decide +kernel)
    (case k_MOST_ENTRIES => first | k_is | ks_is | rfl | decide | decide +kernel)
    (case k_MOST_FRAME => first | k_is | ks_is | rfl | decide | decide +kernel)
    (case k_MOST_HOPS => first | k_is | ks_is | rfl | decide | decide +kernel)
    (case k_MOST_KEPT => first | k_is | ks_is | rfl | decide | decide +kernel)
    (case k_MOST_LINKS => first | k_is | ks_is | rfl | decide | decide +kernel)
    (case k_MOST_LISTED => first | k_is | ks_is | rfl | decide | decide +kernel)
    (case k_MOST_PORTS => first | k_is | ks_is | rfl | decide | decide +kernel)
    (case k_MOST_STATES => first | k_is | ks_is | rfl | decide | decide +kernel)
    (case k_MOST_TAG => first | k_is | ks_is | rfl | decide | decide +kernel)
    (case k_MOST_WISHES => first | k_is | ks_is | rfl | decide | decide +kernel)
    (case ba_Calm => first | k_is | ks_is | rfl | decide | decide +kernel)
    (case ba_NoSuch => first | k_is | ks_is | rfl | decide | decide +kernel)
    (case ba_NothingToUndo => first | k_is | ks_is | rfl | decide | decide +kernel)
    (case ba_TagError => first | k_is | ks_is | rfl | decide | decide +kernel)
    (case ba_TooMany => first | k_is | ks_is | rfl | decide | decide +kernel)
    (case ba_TooWide => first | k_is | ks_is | rfl | decide | decide +kernel)
    (case ba_Unheard => first | k_is | ks_is | rfl | decide | decide +kernel)
    (case xq_Calm => kernel_rfl)
    (case xk_Calm => first | k_is | ks_is | rfl | decide | decide +kernel)
    (case xq_NothingToUndo => kernel_rfl)
    (case xk_NothingToUndo => first | k_is | ks_is | rfl | decide | decide +kernel)
    (case xq_TooMany => kernel_rfl)
    (case xk_TooMany => first | k_is | ks_is | rfl | decide | decide +kernel)
    (case xq_TooWide => kernel_rfl)
    (case xk_TooWide => first | k_is | ks_is | rfl | decide | decide +kernel)
    (case xq_Unheard => kernel_rfl)
    (case xk_Unheard => first | k_is | ks_is | rfl | decide | decide +kernel)
    (case xall => kernel_rfl)
    (case xc_BadEdit => kernel_rfl)
    (case xc_BadEntry => kernel_rfl)
    (case xc_BadFrame => kernel_rfl)
    (case xc_BadLine => kernel_rfl)
    (case xc_BadLinks => kernel_rfl)
    (case xc_BadList => kernel_rfl)
    (case xc_BadNet => kernel_rfl)
    (case xc_BadNumber => kernel_rfl)
    (case xc_BadRows => kernel_rfl)
    (case xc_BadTag => kernel_rfl)
    (case xc_BadText => kernel_rfl)
    (case xc_BadWish => kernel_rfl)
    (case xc_Broken => kernel_rfl)
    (case xc_Calm => kernel_rfl)
    (case xc_Crowded => kernel_rfl)
    (case xc_Lost => kernel_rfl)
    (case xc_NoEnd => kernel_rfl)
    (case xc_NoPort => kernel_rfl)
    (case xc_NoSuch => kernel_rfl)
    (case xc_NoSuchFrame => kernel_rfl)
    (case xc_NoSuchLink => kernel_rfl)
    (case xc_NoSuchPort => kernel_rfl)
    (case xc_NotIn => kernel_rfl)
    (case xc_NothingToUndo => kernel_rfl)
    (case xc_TagError => kernel_rfl)
    (case xc_TooFar => kernel_rfl)
    (case xc_TooMany => kernel_rfl)
    (case xc_TooWide => kernel_rfl)
    (case xc_Unheard => kernel_rfl)
    (case xc_UnlikeEnds => kernel_rfl)
    (case xc_LookupError => kernel_rfl)
    (case xc_ValueError => kernel_rfl)
    (case xf_bridge => kernel_rfl)
    (case xf_frame => kernel_rfl)
    (case xf_hops => kernel_rfl)
    (case xf_index => kernel_rfl)
    (case xf_line => kernel_rfl)
    (case xf_number => kernel_rfl)
    (case xf_one => kernel_rfl)
    (case xf_other => kernel_rfl)
    (case xf_part => kernel_rfl)
    (case xf_port => kernel_rfl)
    (case xf_value => kernel_rfl)
    (case nd => decide +kernel)
#print axioms PySem.Challenge.cw_tagrooms_k00_errors_and_limits_holds
