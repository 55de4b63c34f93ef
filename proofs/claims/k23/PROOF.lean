import PyProof.Rows.All
import Wide.All
import OpenK.AllK
import Wide.FinOn
import HandS.ForMost
import HandS.Exc
import HandS.TryOnly
import HandS.ExcOwn
import HandS.WordsExc
import HandS.CallSlots
import HandS.Defaults
import HandS.Flow
import HandS.Walk
import HandS.Wide
import HandS.IsInst
import HandS.MakeKw
import HandS.ListEq
import HandS.DictEq
import HandS.RaiseMore
import PyProof.ReprRoads
import HandS.TupAny
import HandS.WordsDict
import HandS.Text
import HandS.WideBits
import HandS.Comp
import HandS.OwnEq
import HandS.Ends
import HandS.Words
import PySem.Challenge.RW_creditturns_k23_papers_of_plays_compared
set_option Elab.async false
set_option linter.all false
set_option maxRecDepth 100000
set_option maxHeartbeats 0
/-! DL0: a layer of plain data over the abstract heap: D, what bears it (Rep), a frame's state (S, Rel). -/
namespace DL
open PySem L2

inductive D where
  | non | bl (b : Bool) | int (i : Int) | str (s : Str)
  | tup (xs : List D) | lst (xs : List D) | dct (kvs : List (Key × D))
  | ins (C : Addr) (fs : List (Str × D))
  | ref (a : Addr) | ty (n : String) | pen

/-- G grows to G' -/
def Le (G G' : Hp) : Prop := ∀ a o, G a = some o → G' a = some o
theorem Le.refl (G : Hp) : Le G G := fun _ _ h => h
theorem Le.trans {G G1 G2 : Hp} (a : Le G G1) (b : Le G1 G2) : Le G G2 := fun x o h => b x o (a x o h)
theorem Le.new {G : Hp} {p : Addr} {o : HO} (h : G p = none) : Le G (upd G p o) := fun a u e => by
  rw [upd_ne (ne_of_none e h)]; exact e
theorem le_rd {G G' : Hp} {a : Addr} {u : HO} (e : Le G G') (h : Rd G a u) : Rd G' a u := by
  rcases h with h | ⟨o, h⟩
  · exact .inl (e a _ h)
  · exact .inr ⟨o, e a _ h⟩
theorem le_l {K : PySem.W.Frag} {G G' : Hp} {a : Addr} {xs : List V} (e : Le G G') (h : SqL K G a xs) : SqL K G' a xs := by
  rcases h with h | h
  · exact .inl (le_rd e h)
  · exact .inr h
theorem le_t {K : PySem.W.Frag} {G G' : Hp} {a : Addr} {xs : List V} (e : Le G G') (h : SqT K G a xs) : SqT K G' a xs := by
  rcases h with h | h
  · exact .inl (le_rd e h)
  · exact .inr h

/-- an expression leaves all as it stands, but the pen -/
structure Go (p0 : Addr) (G H G' H' : Hp) : Prop where
  g : Le G G'
  h : ∀ a o, H a = some o → a ≠ p0 → H' a = some o
theorem Go.refl {p0 : Addr} {G H : Hp} : Go p0 G H G H := ⟨Le.refl _, fun _ _ h _ => h⟩
theorem Go.trans {p0 : Addr} {G H G1 H1 G2 H2 : Hp} (a : Go p0 G H G1 H1) (b : Go p0 G1 H1 G2 H2) : Go p0 G H G2 H2 := ⟨a.g.trans b.g, fun x o h n => b.h x o (a.h x o h n) n⟩
theorem Go.newH {p0 : Addr} {G H : Hp} {p : Addr} {o : HO} (h : H p = none) (g : G p = none) : Go p0 G H (upd G p o) (upd H p o) := ⟨Le.new g, fun a u e _ => Le.new h a u e⟩
mutual
/-- v bears d in the part G of the heap that never changes -/
inductive Rep (K : PySem.W.Frag) (p0 : Addr) (G : Hp) : V → D → Prop
  | non : Rep K p0 G .non .non
  | bl (b : Bool) : Rep K p0 G (.bl b) (.bl b)
  | int (i : Int) : Rep K p0 G (.int i) (.int i)
  | str (s : Str) : Rep K p0 G (.str s) (.str s)
  | ref (a : Addr) : Rep K p0 G (.ref a) (.ref a)
  | ty (n : String) : Rep K p0 G (.ty n) (.ty n)
  | pen : Rep K p0 G (.ref p0) .pen
  | lst {a : Addr} {vs : List V} {xs : List D} : Rd G a (.lst vs) → RepL K p0 G vs xs → Rep K p0 G (.ref a) (.lst xs)
  | tup {a : Addr} {vs : List V} {xs : List D} : SqT K G a vs → RepL K p0 G vs xs → Rep K p0 G (.ref a) (.tup xs)
  | dct {a : Addr} {vs : List (Key × V)} {xs : List (Key × D)} : Rd G a (.dK vs) → RepK K p0 G vs xs → Rep K p0 G (.ref a) (.dct xs)
  | ins {a C dx : Addr} {vs : List (Str × V)} {xs : List (Str × D)} : G a = some (.ins C dx vs) → RepF K p0 G vs xs → Rep K p0 G (.ref a) (.ins C xs)
inductive RepL (K : PySem.W.Frag) (p0 : Addr) (G : Hp) : List V → List D → Prop
  | nil : RepL K p0 G [] []
  | cons {v : V} {d : D} {vs : List V} {ds : List D} : Rep K p0 G v d → RepL K p0 G vs ds → RepL K p0 G (v :: vs) (d :: ds)
inductive RepK (K : PySem.W.Frag) (p0 : Addr) (G : Hp) : List (Key × V) → List (Key × D) → Prop
  | nil : RepK K p0 G [] []
  | cons {k : Key} {v : V} {d : D} {vs : List (Key × V)} {ds : List (Key × D)} : Rep K p0 G v d → RepK K p0 G vs ds → RepK K p0 G ((k, v) :: vs) ((k, d) :: ds)
inductive RepF (K : PySem.W.Frag) (p0 : Addr) (G : Hp) : List (Str × V) → List (Str × D) → Prop
  | nil : RepF K p0 G [] []
  | cons {k : Str} {v : V} {d : D} {vs : List (Str × V)} {ds : List (Str × D)} : Rep K p0 G v d → RepF K p0 G vs ds → RepF K p0 G ((k, v) :: vs) ((k, d) :: ds)
end

section
variable {K : PySem.W.Frag} {p0 : Addr} {G G' : Hp}
theorem Rep.mono (e : Le G G') {v : V} {d : D} (h : Rep K p0 G v d) : Rep K p0 G' v d :=
  Rep.rec (motive_1 := fun v d _ => Rep K p0 G' v d) (motive_2 := fun v d _ => RepL K p0 G' v d) (motive_3 := fun v d _ => RepK K p0 G' v d) (motive_4 := fun v d _ => RepF K p0 G' v d)
    .non .bl .int .str .ref .ty .pen (fun h _ ih => .lst (le_rd e h) ih) (fun h _ ih => .tup (le_t e h) ih) (fun h _ ih => .dct (le_rd e h) ih) (fun h _ ih => .ins (e _ _ h) ih)
    .nil (fun _ _ a b => .cons a b) .nil (fun _ _ a b => .cons a b) .nil (fun _ _ a b => .cons a b) h
theorem RepL.mono (e : Le G G') : ∀ {v : List V} {d : List D}, RepL K p0 G v d → RepL K p0 G' v d
  | _, _, .nil => .nil
  | _, _, .cons a b => .cons (a.mono e) (RepL.mono e b)
theorem RepK.mono (e : Le G G') : ∀ {v : List (Key × V)} {d : List (Key × D)}, RepK K p0 G v d → RepK K p0 G' v d
  | _, _, .nil => .nil
  | _, _, .cons a b => .cons (a.mono e) (RepK.mono e b)
theorem RepF.mono (e : Le G G') : ∀ {v : List (Str × V)} {d : List (Str × D)}, RepF K p0 G v d → RepF K p0 G' v d
  | _, _, .nil => .nil
  | _, _, .cons a b => .cons (a.mono e) (RepF.mono e b)
theorem RepL.len : ∀ {v : List V} {d : List D}, RepL K p0 G v d → v.length = d.length
  | _, _, .nil => rfl
  | _, _, .cons _ b => congrArg Nat.succ b.len
theorem RepL.get : ∀ {v : List V} {d : List D} {i : Nat} {x : D}, RepL K p0 G v d → d[i]? = some x → ∃ u, v[i]? = some u ∧ Rep K p0 G u x
  | _, _, i, x, .nil, h => by simp at h
  | _, _, 0, x, .cons a b, h => by simp at h; subst h; exact ⟨_, rfl, a⟩
  | _, _, i + 1, x, .cons a b, h => by
    obtain ⟨u, h1, h2⟩ := RepL.get (i := i) b (by simpa using h)
    exact ⟨u, by simpa using h1, h2⟩
theorem RepL.app : ∀ {v w : List V} {d e : List D}, RepL K p0 G v d → RepL K p0 G w e → RepL K p0 G (v ++ w) (d ++ e)
  | _, _, _, _, .nil, h => h
  | _, _, _, _, .cons a b, h => .cons a (RepL.app b h)
theorem RepL.drop : ∀ (n : Nat) {v : List V} {d : List D}, RepL K p0 G v d → RepL K p0 G (v.drop n) (d.drop n)
  | 0, _, _, h => h
  | n + 1, _, _, .nil => .nil
  | n + 1, _, _, .cons _ b => RepL.drop n b
theorem RepL.take : ∀ (n : Nat) {v : List V} {d : List D}, RepL K p0 G v d → RepL K p0 G (v.take n) (d.take n)
  | 0, _, _, _ => .nil
  | n + 1, _, _, .nil => .nil
  | n + 1, _, _, .cons a b => .cons a (RepL.take n b)
theorem RepF.look {f : Str} {x : D} : ∀ {v : List (Str × V)} {d : List (Str × D)}, RepF K p0 G v d → d.lookup f = some x → ∃ u, v.lookup f = some u ∧ Rep K p0 G u x
  | _, _, .nil, h => by simp at h
  | _, _, .cons (k := k) a b, h => by
    rw [List.lookup_cons] at h ⊢
    cases e : f == k with
    | true => rw [e] at h; cases h; exact ⟨_, rfl, a⟩
    | false => rw [e] at h; exact RepF.look b h
theorem RepF.look_none {f : Str} : ∀ {v : List (Str × V)} {d : List (Str × D)}, RepF K p0 G v d → d.lookup f = none → v.lookup f = none
  | _, _, .nil, h => rfl
  | _, _, .cons (k := k) a b, h => by
    rw [List.lookup_cons] at h ⊢
    cases e : f == k with
    | true => rw [e] at h; cases h
    | false => rw [e] at h; exact RepF.look_none b h
theorem RepF.len : ∀ {v : List (Str × V)} {d : List (Str × D)}, RepF K p0 G v d → v.length = d.length
  | _, _, .nil => rfl
  | _, _, .cons _ b => congrArg Nat.succ b.len
end

/-- what stands in a slot: nothing that is known; data; a list, a dict, an instance that this frame owns -/
inductive Sl where
  | un | d (x : D) | own (xs : List D) | ownK (kvs : List (Key × D)) | self (C : Addr) (fs : List (Str × D))
structure S where
  sl : List Sl
  fu : Nat

/-- a frame's fixed things: the written part, the pen's place, the heap at the entry: what never changes of it, all of it; what may change of what stood at the entry -/
structure Wd where
  P : Program
  w : World
  K : PySem.W.Frag
  mg : Str → Option Value
  base : Heap
  p0 : Addr
  cs : List Int
structure Fr extends Wd where
  G0 : Hp
  H0 : Hp
  mu : List Addr

/-- the pen: its cells never change -/
def PenOk (K : PySem.W.Frag) (cs0 : List Int) (G H : Hp) (p0 : Addr) (n : Nat) : Prop :=
  ∃ (c : Addr) (b : Nat) (r : Int) (cs : List Int), H p0 = some (.lst [.ref c, .int (b : Int), .int r]) ∧ (Rd G c (.lst (cs.map V.int)) ∧ cs = cs0) ∧ b + n ≤ 1000000 ∧ cs.length ≤ 63
theorem PenOk.mono {K : PySem.W.Frag} {cs : List Int} {G G' H H' : Hp} {p0 : Addr} {n : Nat} (p : PenOk K cs G H p0 n) (e : Le G G') (h : H' p0 = H p0) : PenOk K cs G' H' p0 n := by
  obtain ⟨c, b, r, cs, h1, h2, h3, h4⟩ := p
  exact ⟨c, b, r, cs, h.trans h1, ⟨le_rd e h2.1, h2.2⟩, h3, h4⟩
theorem PenOk.less {K : PySem.W.Frag} {cs : List Int} {G H : Hp} {p0 : Addr} {n m : Nat} (p : PenOk K cs G H p0 n) (h : m ≤ n) : PenOk K cs G H p0 m := by
  obtain ⟨c, b, r, cs, h1, h2, h3, h4⟩ := p
  exact ⟨c, b, r, cs, h1, h2, by omega, h4⟩

/-- a slot of this frame's own -/
def Mine (c : Fr) (G : Hp) (a : Addr) : Prop := G a = none ∧ (c.H0 a = none ∨ a ∈ c.mu) ∧ a ≠ c.p0
def SlOk (c : Fr) (G H : Hp) (ov : Option V) : Sl → Prop
  | .un => True
  | .d x => ∃ v, ov = some v ∧ Rep c.K c.p0 G v x
  | .own xs => ∃ a vs, ov = some (.ref a) ∧ H a = some (.lst vs) ∧ Mine c G a ∧ c.H0 a = none ∧ RepL c.K c.p0 G vs xs
  | .ownK xs => ∃ a vs, ov = some (.ref a) ∧ H a = some (.dK vs) ∧ Mine c G a ∧ c.H0 a = none ∧ RepK c.K c.p0 G vs xs
  | .self C fs => ∃ a dx vs, ov = some (.ref a) ∧ H a = some (.ins C dx vs) ∧ Mine c G a ∧ a ∈ c.mu ∧ RepF c.K c.p0 G vs fs
def isOwn : Sl → Bool
  | .own _ => true
  | .ownK _ => true
  | .self _ _ => true
  | _ => false
/-- a slot's value -/
def at_ (σ : L2.St) (i : Nat) : Option V := (σ[i]?).join
theorem at_some {σ : L2.St} {i : Nat} {v : V} (h : at_ σ i = some v) : σ[i]? = some (some v) := by
  unfold at_ at h
  cases e : σ[i]? with
  | none => rw [e] at h; cases h
  | some o =>
    rw [e] at h
    cases o with
    | none => cases h
    | some u => cases h; rfl
theorem at_set {σ : L2.St} {i j : Nat} {o : Option V} (hi : i < σ.length) : at_ (σ.set i o) j = if j = i then o else at_ σ j := by
  unfold at_
  by_cases e : j = i
  · subst e; rw [if_pos rfl, List.getElem?_set_self hi]; rfl
  · rw [if_neg e, List.getElem?_set_ne (Ne.symm e)]

/-- the frame's state as it stands -/
structure Rel (c : Fr) (G H : Hp) (σ : L2.St) (δ : S) : Prop where
  le : Le G H
  g0 : Le c.G0 G
  h0 : ∀ a o, c.H0 a = some o → a ∉ c.mu → H a = some o
  ht : ∀ a o, c.H0 a = some o → ∃ u, H a = some u
  nw : ∀ a o, G a = some o → c.G0 a = some o ∨ c.H0 a = none
  pm : c.p0 ∈ c.mu
  pn : PenOk c.K c.cs G H c.p0 δ.fu
  pg : G c.p0 = none
  len : σ.length = δ.sl.length
  sl : ∀ i s, δ.sl[i]? = some s → SlOk c G H (at_ σ i) s
  uq : ∀ i j a s t, i ≠ j → δ.sl[i]? = some s → δ.sl[j]? = some t → isOwn s = true → isOwn t = true → at_ σ i = some (.ref a) → at_ σ j = some (.ref a) → False

/-- from H to H': new things alone (and the pen) -/
structure Post (K : PySem.W.Frag) (cs : List Int) (p0 : Addr) (G H G' H' : Hp) (n' : Nat) : Prop where
  g : Le G G'
  le : Le G' H'
  h : ∀ a o, H a = some o → a ≠ p0 → H' a = some o
  nw : ∀ a o, G' a = some o → G a = some o ∨ H a = none
  pn : PenOk K cs G' H' p0 n'
  pg : G' p0 = none

theorem Post.go {K : PySem.W.Frag} {cs : List Int} {p0 : Addr} {G H G' H' : Hp} {n' : Nat} (p : Post K cs p0 G H G' H' n') : Go p0 G H G' H' := ⟨p.g, p.h⟩
theorem SlOk.own_at {c : Fr} {G H : Hp} {ov : Option V} {s : Sl} (h : SlOk c G H ov s) (o : isOwn s = true) : ∃ a u, ov = some (.ref a) ∧ H a = some u ∧ Mine c G a := by
  cases s with
  | un => cases o
  | d x => cases o
  | own xs => obtain ⟨a, vs, h1, h2, h3, _⟩ := h; exact ⟨a, _, h1, h2, h3⟩
  | ownK xs => obtain ⟨a, vs, h1, h2, h3, _⟩ := h; exact ⟨a, _, h1, h2, h3⟩
  | self C fs => obtain ⟨a, dx, vs, h1, h2, h3, _⟩ := h; exact ⟨a, _, h1, h2, h3⟩
/-- a slot stays as the heap goes on -/
theorem SlOk.go {c : Fr} {G H G' H' : Hp} {ov : Option V} {s : Sl} (h : SlOk c G H ov s) (g : Le G G') (hh : ∀ a o, H a = some o → a ≠ c.p0 → H' a = some o) (nw : ∀ a o, G' a = some o → G a = some o ∨ H a = none) : SlOk c G' H' ov s := by
  have mi : ∀ {a u}, H a = some u → Mine c G a → Mine c G' a := fun {a u} ha ⟨m1, m2, m3⟩ => by
    refine ⟨?_, m2, m3⟩
    cases e : G' a with
    | none => rfl
    | some o =>
      rcases nw a o e with z | z
      · rw [m1] at z; cases z
      · rw [ha] at z; cases z
  cases s with
  | un => trivial
  | d x => obtain ⟨v, h1, h2⟩ := h; exact ⟨v, h1, h2.mono g⟩
  | own xs => obtain ⟨a, vs, h1, h2, h3, h4, h5⟩ := h; exact ⟨a, vs, h1, hh _ _ h2 h3.2.2, mi h2 h3, h4, h5.mono g⟩
  | ownK xs => obtain ⟨a, vs, h1, h2, h3, h4, h5⟩ := h; exact ⟨a, vs, h1, hh _ _ h2 h3.2.2, mi h2 h3, h4, h5.mono g⟩
  | self C fs => obtain ⟨a, dx, vs, h1, h2, h3, hm, h4⟩ := h; exact ⟨a, dx, vs, h1, hh _ _ h2 h3.2.2, mi h2 h3, hm, h4.mono g⟩
theorem Rel.post {c : Fr} {G H G' H' : Hp} {σ : L2.St} {δ : S} {n' : Nat} (R : Rel c G H σ δ) (p : Post c.K c.cs c.p0 G H G' H' n') : Rel c G' H' σ { δ with fu := n' } := by
  have nomut : ∀ a, a ∉ c.mu → a ≠ c.p0 := fun a h e => h (e ▸ R.pm)
  refine ⟨p.le, R.g0.trans p.g, fun a o h m => p.h a o (R.h0 a o h m) (nomut a m), fun a o h => ?_, fun a o h => ?_, R.pm, p.pn, p.pg, R.len, fun i s h => (R.sl i s h).go p.g p.h p.nw, R.uq⟩
  · obtain ⟨u, hu⟩ := R.ht a o h
    by_cases e : a = c.p0
    · obtain ⟨_, _, _, _, q, _⟩ := p.pn
      exact ⟨_, e ▸ q⟩
    · exact ⟨u, p.h a u hu e⟩
  · rcases p.nw a o h with z | z
    · exact R.nw a o z
    · right
      cases e : c.H0 a with
      | none => rfl
      | some u => obtain ⟨q, hq⟩ := R.ht a u e; rw [z] at hq; cases hq
/-- nothing but new things -/
theorem Post.refl {K : PySem.W.Frag} {cs : List Int} {p0 : Addr} {G H : Hp} {n : Nat} (le : Le G H) (pn : PenOk K cs G H p0 n) (pg : G p0 = none) : Post K cs p0 G H G H n :=
  ⟨Le.refl _, le, fun _ _ h _ => h, fun _ _ h => .inl h, pn, pg⟩
theorem Post.trans {K : PySem.W.Frag} {cs : List Int} {p0 : Addr} {G H G1 H1 G2 H2 : Hp} {n1 n2 : Nat} (ht : ∀ a o, H a = some o → ∃ u, H1 a = some u) (a : Post K cs p0 G H G1 H1 n1) (b : Post K cs p0 G1 H1 G2 H2 n2) : Post K cs p0 G H G2 H2 n2 := by
  refine ⟨a.g.trans b.g, b.le, fun x o h n => b.h x o (a.h x o h n) n, fun x o h => ?_, b.pn, b.pg⟩
  rcases b.nw x o h with z | z
  · exact a.nw x o z
  · right
    cases e : H x with
    | none => rfl
    | some u => obtain ⟨q, hq⟩ := ht x u e; rw [z] at hq; cases hq
/-- a new thing laid, known from then on -/
theorem Rel.laid {c : Fr} {G H : Hp} {σ : L2.St} {δ : S} (R : Rel c G H σ δ) {p : Addr} {o : HO} (h : H p = none) : Post c.K c.cs c.p0 G H (upd G p o) (upd H p o) δ.fu := by
  have gp : G p = none := by
    cases e : G p with
    | none => rfl
    | some u => rw [R.le p u e] at h; cases h
  have ne0 : p ≠ c.p0 := fun e => by
    obtain ⟨_, _, _, _, q, _⟩ := R.pn
    rw [e, q] at h; cases h
  refine ⟨Le.new gp, fun a u e => ?_, fun a u e _ => by rw [upd_ne (ne_of_none e h)]; exact e, fun a u e => ?_, R.pn.mono (Le.new gp) (by rw [upd_ne (Ne.symm ne0)]), by rw [upd_ne (Ne.symm ne0)]; exact R.pg⟩
  · by_cases q : a = p
    · subst q; rw [upd_same] at e ⊢; exact e
    · rw [upd_ne q] at e ⊢; exact R.le a u e
  · by_cases q : a = p
    · subst q; exact .inr h
    · rw [upd_ne q] at e; exact .inl e
/-- a new thing laid that is not known -/
theorem Rel.laidH {c : Fr} {G H : Hp} {σ : L2.St} {δ : S} (R : Rel c G H σ δ) {p : Addr} {o : HO} (h : H p = none) : Post c.K c.cs c.p0 G H G (upd H p o) δ.fu := by
  have ne0 : p ≠ c.p0 := fun e => by
    obtain ⟨_, _, _, _, q, _⟩ := R.pn
    rw [e, q] at h; cases h
  exact ⟨Le.refl _, fun a u e => by rw [upd_ne (ne_of_none (R.le a u e) h)]; exact R.le a u e, fun a u e _ => by rw [upd_ne (ne_of_none e h)]; exact e, fun _ _ e => .inl e, R.pn.mono (Le.refl _) (by rw [upd_ne (Ne.symm ne0)]), R.pg⟩
theorem Rel.laid' {c : Fr} {G H : Hp} {σ : L2.St} {δ : S} (R : Rel c G H σ δ) {p : Addr} {o : HO} (h : H p = none) : Rel c (upd G p o) (upd H p o) σ δ := R.post (R.laid h)
theorem Rel.gnone {c : Fr} {G H : Hp} {σ : L2.St} {δ : S} (R : Rel c G H σ δ) {p : Addr} (h : H p = none) : G p = none := by
  cases e : G p with
  | none => rfl
  | some u => rw [R.le p u e] at h; cases h
/-- less fuel -/
theorem Rel.less {c : Fr} {G H : Hp} {σ : L2.St} {δ : S} {m : Nat} (R : Rel c G H σ δ) (h : m ≤ δ.fu) : Rel c G H σ { δ with fu := m } :=
  ⟨R.le, R.g0, R.h0, R.ht, R.nw, R.pm, R.pn.less h, R.pg, R.len, R.sl, R.uq⟩
/-- a slot gets data -/
theorem Rel.set {c : Fr} {G H : Hp} {σ : L2.St} {δ : S} (R : Rel c G H σ δ) {i : Nat} {v : V} {x : D} (hi : i < δ.sl.length) (r : Rep c.K c.p0 G v x) : Rel c G H (σ.set i (some v)) { δ with sl := δ.sl.set i (.d x) } := by
  have hs : i < σ.length := by rw [R.len]; exact hi
  refine ⟨R.le, R.g0, R.h0, R.ht, R.nw, R.pm, R.pn, R.pg, by simp [R.len], fun j s h => ?_, fun j k a s t ne h1 h2 o1 o2 a1 a2 => ?_⟩
  · rw [at_set hs]
    by_cases e : j = i
    · subst e
      rw [List.getElem?_set_self hi] at h; cases h
      rw [if_pos rfl]; exact ⟨v, rfl, r⟩
    · rw [List.getElem?_set_ne (Ne.symm e)] at h
      rw [if_neg e]; exact R.sl j s h
  · have nj : j ≠ i := fun e => by subst e; rw [List.getElem?_set_self hi] at h1; cases h1; cases o1
    have nk : k ≠ i := fun e => by subst e; rw [List.getElem?_set_self hi] at h2; cases h2; cases o2
    rw [List.getElem?_set_ne (Ne.symm nj)] at h1
    rw [List.getElem?_set_ne (Ne.symm nk)] at h2
    rw [at_set hs, if_neg nj] at a1
    rw [at_set hs, if_neg nk] at a2
    exact R.uq j k a s t ne h1 h2 o1 o2 a1 a2
/-- a slot is told less of -/
theorem Rel.forget {c : Fr} {G H : Hp} {σ : L2.St} {δ : S} (R : Rel c G H σ δ) (i : Nat) : Rel c G H σ { δ with sl := δ.sl.set i .un } := by
  refine ⟨R.le, R.g0, R.h0, R.ht, R.nw, R.pm, R.pn, R.pg, by simp [R.len], fun j s h => ?_, fun j k a s t ne h1 h2 o1 o2 a1 a2 => ?_⟩
  · by_cases e : j = i
    · subst e
      by_cases hi : j < δ.sl.length
      · rw [List.getElem?_set_self hi] at h; cases h; trivial
      · rw [List.getElem?_eq_none (by simpa using hi)] at h; cases h
    · rw [List.getElem?_set_ne (Ne.symm e)] at h; exact R.sl j s h
  · have g : ∀ {j s}, (δ.sl.set i .un)[j]? = some s → isOwn s = true → δ.sl[j]? = some s := fun {j s} h o => by
      by_cases e : j = i
      · subst e
        by_cases hi : j < δ.sl.length
        · rw [List.getElem?_set_self hi] at h; cases h; cases o
        · rw [List.getElem?_eq_none (by simpa using hi)] at h; cases h
      · rw [List.getElem?_set_ne (Ne.symm e)] at h; exact h
    exact R.uq j k a s t ne (g h1 o1) (g h2 o2) o1 o2 a1 a2
end DL

/-! DL1: readings over data and their lifts; expressions, calls, statements. -/
namespace DL
open PySem L2 PySem.Spec PyProof.Rows

/-- an exception by its class and its own fields -/
structure Er where
  cls : Value
  fs : List (Str × D)
def ErRep (c : Wd) (G : Hp) (cls : Value) (dd : Option Addr) (er : Er) : Prop :=
  cls = er.cls ∧ (er.fs = [] ∨ ∃ d vs, dd = some d ∧ G d = some (.xd vs) ∧ RepF c.K c.p0 G vs er.fs)

abbrev DTE := S → (D → S → Prop) → (Er → S → Prop) → Prop
abbrev DTT := S → (Bool → S → Prop) → (Er → S → Prop) → Prop
abbrev DTA := S → (List D → S → Prop) → (Er → S → Prop) → Prop
structure DN where
  nx : S → Prop
  rt : D → S → Prop
  bk : S → Prop
  ct : S → Prop
  ex : Er → S → Prop
abbrev DTS := DN → S → Prop
abbrev DTG := D → S → (S → Prop) → Prop

def ExOk (c : Fr) (W : WX) (G : Hp) (σ : L2.St) (E : Er → S → Prop) : Prop :=
  ∀ er δ' cls dd G' H', E er δ' → Le G G' → Rel c G' H' σ δ' → ErRep c.toWd G' cls dd er → W cls dd σ H'
theorem ExOk.mono {c : Fr} {W : WX} {G G' : Hp} {σ : L2.St} {E : Er → S → Prop} (h : ExOk c W G σ E) (e : Le G G') : ExOk c W G' σ E := fun er δ' cls dd G2 H' a b => h er δ' cls dd G2 H' a (e.trans b)

def liftE (c : Fr) (W : WX) (r : DTE) : TE := fun σ H Q => ∃ G δ P E, Rel c G H σ δ ∧ r δ P E ∧
  (∀ d δ' v G' H', P d δ' → Go c.p0 G H G' H' → Rel c G' H' σ δ' → Rep c.K c.p0 G' v d → Q v H') ∧ ExOk c W G σ E
def liftT (c : Fr) (W : WX) (r : DTT) : TT := fun σ H Q => ∃ G δ P E, Rel c G H σ δ ∧ r δ P E ∧
  (∀ d δ' G' H', P d δ' → Go c.p0 G H G' H' → Rel c G' H' σ δ' → Q d H') ∧ ExOk c W G σ E
def liftA (c : Fr) (W : WX) (r : DTA) : TA := fun σ H Q => ∃ G δ P E, Rel c G H σ δ ∧ r δ P E ∧
  (∀ d δ' v G' H', P d δ' → Go c.p0 G H G' H' → Rel c G' H' σ δ' → RepL c.K c.p0 G' v d → Q v H') ∧ ExOk c W G σ E
def liftG (c : Fr) (g : DTG) : TG := fun v σ H Q => ∃ G δ d P, Rel c G H σ δ ∧ Rep c.K c.p0 G v d ∧ g d δ P ∧
  (∀ δ' G' H' σ', P δ' → Le G G' → Rel c G' H' σ' δ' → Q σ' H')
structure NOk (c : Fr) (W : WX) (G : Hp) (D : Ends) (N : DN) : Prop where
  nx : ∀ δ' G' H' σ', N.nx δ' → Le G G' → Rel c G' H' σ' δ' → D.nx σ' H'
  rt : ∀ d δ' v G' H' σ', N.rt d δ' → Le G G' → Rel c G' H' σ' δ' → Rep c.K c.p0 G' v d → D.rt v H'
  bk : ∀ δ' G' H' σ', N.bk δ' → Le G G' → Rel c G' H' σ' δ' → D.bk σ' H'
  ct : ∀ δ' G' H' σ', N.ct δ' → Le G G' → Rel c G' H' σ' δ' → D.ct σ' H'
  ex : ∀ er δ' cls dd G' H' σ', N.ex er δ' → Le G G' → Rel c G' H' σ' δ' → ErRep c.toWd G' cls dd er → W cls dd σ' H'
theorem NOk.mono {c : Fr} {W : WX} {G G' : Hp} {D : Ends} {N : DN} (h : NOk c W G D N) (e : Le G G') : NOk c W G' D N :=
  ⟨fun a b x y p q => h.nx a b x y p (e.trans q), fun a b x y z w p q => h.rt a b x y z w p (e.trans q), fun a b x y p q => h.bk a b x y p (e.trans q), fun a b x y p q => h.ct a b x y p (e.trans q), fun a b x y z w v p q => h.ex a b x y z w v p (e.trans q)⟩
def liftS (c : Fr) (W : WX) (t : DTS) : TS := fun D σ H => ∃ G δ N, Rel c G H σ δ ∧ t N δ ∧ NOk c W G D N

abbrev DE (X : Cx) (c : Fr) (W : WX) (e : Expr) (r : DTE) : Prop := PE X e (liftE c W r)
abbrev DT (X : Cx) (c : Fr) (W : WX) (e : Expr) (r : DTT) : Prop := PT X e (liftT c W r)
abbrev DW (X : Cx) (c : Fr) (W : WX) (e : Expr) (r : DTT) : Prop := PW X e (liftT c W r)
abbrev DA (X : Cx) (c : Fr) (W : WX) (es : List Expr) (r : DTA) : Prop := PA X es (liftA c W r)
abbrev DG (X : Cx) (c : Fr) (tg : Expr) (g : DTG) : Prop := PG X tg (liftG c g)
abbrev DS (X : Cx) (c : Fr) (W : WX) (st : Stmt) (t : DTS) : Prop := PS X st (liftS c W t)
abbrev DSs (X : Cx) (c : Fr) (W : WX) (st : List Stmt) (t : DTS) : Prop := PSs X st (liftS c W t)

theorem peI {X : Cx} {e : Expr} {t t' : TE} (h : PE X e t) (k : ∀ σ H Q, t' σ H Q → t σ H Q) : PE X e t' := ⟨fun pins s σ H Q I q => h.run pins s σ H Q I (k σ H Q q)⟩
theorem ptI {X : Cx} {e : Expr} {t t' : TT} (h : PT X e t) (k : ∀ σ H Q, t' σ H Q → t σ H Q) : PT X e t' := ⟨fun pins s σ H Q I q => h.run pins s σ H Q I (k σ H Q q)⟩
theorem pwI {X : Cx} {e : Expr} {t t' : TT} (h : PW X e t) (k : ∀ σ H Q, t' σ H Q → t σ H Q) : PW X e t' := ⟨fun wh pins s σ H Q I q => h.run wh pins s σ H Q I (k σ H Q q)⟩
theorem paI {X : Cx} {e : List Expr} {t t' : TA} (h : PA X e t) (k : ∀ σ H Q, t' σ H Q → t σ H Q) : PA X e t' := ⟨fun pos pins s σ H Q I q => h.run pos pins s σ H Q I (k σ H Q q)⟩
theorem pgI {X : Cx} {e : Expr} {t t' : TG} (h : PG X e t) (k : ∀ v σ H Q, t' v σ H Q → t v σ H Q) : PG X e t' := ⟨fun pins s σ H v u Q I r q => h.run pins s σ H v u Q I r (k v σ H Q q)⟩
theorem psI {X : Cx} {e : Stmt} {t t' : TS} (h : PS X e t) (k : ∀ D σ H, t' D σ H → t D σ H) : PS X e t' := ⟨fun pins s σ H Q I q => h.run pins s σ H Q I (k Q σ H q)⟩
theorem pssI {X : Cx} {e : List Stmt} {t t' : TS} (h : PSs X e t) (k : ∀ D σ H, t' D σ H → t D σ H) : PSs X e t' := ⟨fun pins s σ H Q I q => h.run pins s σ H Q I (k Q σ H q)⟩

/-- the body's context, by what its rules ask -/
structure XB (X : Cx) (c : Fr) (W : WX) (N : List Str) (sc : Scope) (k : Nat) (bb : Bool) : Prop where
  hP : X.prog = c.P
  hw : X.w = c.w
  hK : X.K = c.K
  hm : X.mg = c.mg
  hb : X.base = c.base
  hN : X.N = N
  nd : N.Nodup
  hs : X.env.scope = sc
  calm : X.calm = true
  room : Room k X.A
  gd : X.A.guards = some []
  tk : Takes X W
  pw : PassesOwn (model X.prog X.w) X.A X.env X.xe
  fn : bb = false → ∀ x, X.fn x = true

section
variable {X : Cx} {c : Fr} {W : WX} {N : List Str} {sc : Scope} {k : Nat} {bb : Bool} {e a b : Expr} {es : List Expr} {pos : Pos} {r ra rb : DTE} {rs : DTA}

/-! ### constants, names -/
def dC (d : D) : DTE := fun δ P _ => P d δ
theorem de_int {i j pos} : DE X c W (.Constant (.int i) j pos) (dC (.int i)) := peI pe_int fun σ H Q ⟨G, δ, P, E, R, h, k, x⟩ => k _ _ _ G H h Go.refl R (.int i)
theorem de_bl {b j pos} : DE X c W (.Constant (.bool b) j pos) (dC (.bl b)) := peI pe_bl fun σ H Q ⟨G, δ, P, E, R, h, k, x⟩ => k _ _ _ G H h Go.refl R (.bl b)
theorem de_non {j pos} : DE X c W (.Constant .none j pos) (dC .non) := peI pe_non fun σ H Q ⟨G, δ, P, E, R, h, k, x⟩ => k _ _ _ G H h Go.refl R .non
theorem de_str {x j pos} : DE X c W (.Constant (.str x) j pos) (dC (.str x)) := peI pe_str fun σ H Q ⟨G, δ, P, E, R, h, k, x⟩ => k _ _ _ G H h Go.refl R (.str _)

/-- an owned list, from now on data -/
theorem Rel.freeze {G H : Hp} {σ : L2.St} {δ : S} (R : Rel c G H σ δ) {i : Nat} {s : Sl} {a : Addr} {o : HO} {x : D} (hs : δ.sl[i]? = some s) (hi : at_ σ i = some (.ref a)) (ow : isOwn s = true) (hH : H a = some o) (m : Mine c G a) (h0 : c.H0 a = none)
    (rx : Rep c.K c.p0 (upd G a o) (.ref a) x) : Rel c (upd G a o) H σ { δ with sl := δ.sl.set i (.d x) } := by
  have hl : i < δ.sl.length := (List.getElem?_eq_some_iff.mp hs).1
  have L : Le G (upd G a o) := Le.new m.1
  refine ⟨fun b u e => ?_, R.g0.trans L, R.h0, R.ht, fun b u e => ?_, R.pm, R.pn.mono L rfl, by rw [upd_ne (Ne.symm m.2.2)]; exact R.pg, by simp [R.len], fun j s' h => ?_, fun j k b s1 t1 ne h1 h2 o1 o2 a1 a2 => ?_⟩
  · by_cases q : b = a
    · subst q; rw [upd_same] at e; cases e; exact hH
    · rw [upd_ne q] at e; exact R.le b u e
  · by_cases q : b = a
    · subst q; exact .inr h0
    · rw [upd_ne q] at e; exact R.nw b u e
  · by_cases q : j = i
    · subst q
      rw [List.getElem?_set_self hl] at h; cases h
      exact ⟨_, hi, rx⟩
    · rw [List.getElem?_set_ne (Ne.symm q)] at h
      have h' := R.sl j s' h
      have mi : ∀ {d u}, isOwn s' = true → at_ σ j = some (.ref d) → H d = some u → Mine c G d → Mine c (upd G a o) d := fun {d u} os hd hu m' => by
        have ne : d ≠ a := fun z => R.uq j i a s' s q h hs os ow (z ▸ hd) hi
        exact ⟨by rw [upd_ne ne]; exact m'.1, m'.2.1, m'.2.2⟩
      cases s' with
      | un => trivial
      | d y => obtain ⟨v, h1, h2⟩ := h'; exact ⟨v, h1, h2.mono L⟩
      | own xs => obtain ⟨d, vs, h1, h2, h3, h4, h5⟩ := h'; exact ⟨d, vs, h1, h2, mi rfl h1 h2 h3, h4, h5.mono L⟩
      | ownK xs => obtain ⟨d, vs, h1, h2, h3, h4, h5⟩ := h'; exact ⟨d, vs, h1, h2, mi rfl h1 h2 h3, h4, h5.mono L⟩
      | self C fs => obtain ⟨d, dx, vs, h1, h2, h3, hm, h4⟩ := h'; exact ⟨d, dx, vs, h1, h2, mi rfl h1 h2 h3, hm, h4.mono L⟩
  · have nj : j ≠ i := fun e => by subst e; rw [List.getElem?_set_self hl] at h1; cases h1; cases o1
    have nk : k ≠ i := fun e => by subst e; rw [List.getElem?_set_self hl] at h2; cases h2; cases o2
    rw [List.getElem?_set_ne (Ne.symm nj)] at h1
    rw [List.getElem?_set_ne (Ne.symm nk)] at h2
    exact R.uq j k b s1 t1 ne h1 h2 o1 o2 a1 a2

def dVar (i : Nat) : DTE := fun δ P _ => match δ.sl[i]? with
  | some (.d x) => P x δ
  | some (.own xs) => P (.lst xs) { δ with sl := δ.sl.set i (.d (.lst xs)) }
  | some (.ownK xs) => P (.dct xs) { δ with sl := δ.sl.set i (.d (.dct xs)) }
  | _ => False
theorem de_var {i : Nat} {x : Str} (B : XB X c W N sc k bb) (hN : N[i]? = some x) (hv : Vis sc x) (hd : (x == ("__debug__" : Str)) = false := by decide) (hcd : (x == ("__classdict__" : Str)) = false := by decide) : DE X c W (.Name x pos) (dVar i) := by
  refine peI (pe_var (i := i) (by rw [B.hN]; exact hN) (by rw [B.hs]; exact hv) hd hcd) fun σ H Q ⟨G, δ, P, E, R, h, kk, xx⟩ => ?_
  unfold dVar at h
  cases e : δ.sl[i]? with
  | none => rw [e] at h; exact h.elim
  | some s =>
    rw [e] at h
    have hs := R.sl i s e
    cases s with
    | un => exact h.elim
    | d y => obtain ⟨v, h1, h2⟩ := hs; exact ⟨v, at_some h1, kk _ _ _ G H h Go.refl R h2⟩
    | own xs =>
      obtain ⟨d, vs, h1, h2, h3, h4, h5⟩ := hs
      have L : Le G (upd G d (.lst vs)) := Le.new h3.1
      have rx : Rep c.K c.p0 (upd G d (.lst vs)) (.ref d) (.lst xs) := .lst (.inl upd_same) (h5.mono L)
      exact ⟨_, at_some h1, kk _ _ _ _ H h ⟨L, fun _ _ q _ => q⟩ (R.freeze e h1 rfl h2 h3 h4 rx) rx⟩
    | ownK xs =>
      obtain ⟨d, vs, h1, h2, h3, h4, h5⟩ := hs
      have L : Le G (upd G d (.dK vs)) := Le.new h3.1
      have rx : Rep c.K c.p0 (upd G d (.dK vs)) (.ref d) (.dct xs) := .dct (.inl upd_same) (h5.mono L)
      exact ⟨_, at_some h1, kk _ _ _ _ H h ⟨L, fun _ _ q _ => q⟩ (R.freeze e h1 rfl h2 h3 h4 rx) rx⟩
    | self C fs => exact h.elim
/-- a module's name as a value: a number, a text, an object of the module -/
theorem de_glob {x : Str} {v : V} {u : Value} {d : D} (B : XB X c W N sc k bb) (hg : sc.names.lookup x = some .globalImplicit) (hm : c.mg x = some u) (r : RelV v u) (hr : ∀ G, Rep c.K c.p0 G v d) (hd : (x == ("__debug__" : Str)) = false := by decide) : DE X c W (.Name x pos) (dC d) :=
  peI (pe_glob (by show X.env.scope.names.lookup x = _; rw [B.hs]; exact hg) (by rw [B.hm]; exact hm) r hd) fun σ H Q ⟨G, δ, P, E, R, h, k, x⟩ => k _ _ _ G H h Go.refl R (hr G)

/-! ### argument lists, displays -/
def dNil : DTA := fun δ P _ => P [] δ
def dCons (r : DTE) (rs : DTA) : DTA := fun δ P E => r δ (fun x δ1 => rs δ1 (fun xs δ2 => P (x :: xs) δ2) E) E
theorem da_nil : DA X c W [] dNil := paI pa_nil fun σ H Q ⟨G, δ, P, E, R, h, k, x⟩ => k _ _ _ G H h Go.refl R .nil
theorem da_cons (ha : DE X c W e r) (hr : DA X c W es rs) (hs : starEach (e :: es) X.env = (false, eval e X.env) :: starEach es X.env := by rfl) : DA X c W (e :: es) (dCons r rs) :=
  paI (pa_cons ha hr hs) fun σ H Q ⟨G, δ, P, E, R, h, kk, x⟩ => ⟨G, δ, _, E, R, h, fun d δ1 v G1 H1 p1 L1 R1 r1 =>
    ⟨G1, δ1, _, E, R1, p1, fun ds δ2 vs G2 H2 p2 L2 R2 r2 => kk _ _ _ G2 H2 p2 (L1.trans L2) R2 (.cons (r1.mono L2.g) r2), x.mono L1.g⟩, x⟩
theorem sz5 {n : Nat} (h : n ≤ 100000) : n ≤ sizeLine := Nat.le_trans h (by decide)
theorem sl5 {n : Nat} (h : n < 100000) : n < sizeLine := Nat.lt_of_lt_of_le h (by decide)
def dTup (rs : DTA) : DTE := fun δ P E => rs δ (fun ds δ' => ds.length ≤ 100000 ∧ P (.tup ds) δ') E
def dLst (rs : DTA) : DTE := fun δ P E => rs δ (fun ds δ' => ds.length ≤ 100000 ∧ P (.lst ds) δ') E
theorem de_tup {x1} (h : DA X c W es rs) : DE X c W (.Tuple es x1 pos) (dTup rs) :=
  peI (pe_tup h) fun σ H Q ⟨G, δ, P, E, R, h, kk, x⟩ => ⟨G, δ, _, E, R, h, fun ds δ' vs G' H' ⟨z, p⟩ L R' r => ⟨by rw [r.len]; exact sz5 z, fun p0 hp =>
    kk _ _ _ _ _ p (L.trans (Go.newH hp (R'.gnone hp))) (R'.laid' hp) (.tup (.inl (.inl upd_same)) (r.mono (Le.new (R'.gnone hp))))⟩, x⟩
theorem de_lst (h : DA X c W es rs) : DE X c W (.List es pos) (dLst rs) :=
  peI (pe_lst h) fun σ H Q ⟨G, δ, P, E, R, h, kk, x⟩ => ⟨G, δ, _, E, R, h, fun ds δ' vs G' H' ⟨z, p⟩ L R' r => ⟨by rw [r.len]; exact sz5 z, fun p0 hp =>
    kk _ _ _ _ _ p (L.trans (Go.newH hp (R'.gnone hp))) (R'.laid' hp) (.lst (.inl upd_same) (r.mono (Le.new (R'.gnone hp))))⟩, x⟩

/-! ### operators -/
abbrev DOp := D → D → (D → Prop) → Prop
def DR2 (c : Fr) (r : R2) (o : DOp) : Prop := ∀ (G H : Hp) (σ : L2.St) (δ : S) (u v : V) (x y : D) (P : D → Prop) (Q : VK), Rel c G H σ δ → Rep c.K c.p0 G u x → Rep c.K c.p0 G v y → o x y P →
  (∀ d w G' H', P d → Go c.p0 G H G' H' → Rel c G' H' σ δ → Rep c.K c.p0 G' w d → Q w H') → r u v H Q
structure OpD (X : Cx) (c : Fr) (f : Value → Value → Sem Value) (o : DOp) : Prop where
  ex : ∃ r, OpR X f r ∧ DR2 c r o
def dBin (o : DOp) (ra rb : DTE) : DTE := fun δ P E => ra δ (fun x δ1 => rb δ1 (fun y δ2 => o x y (fun z => P z δ2)) E) E
theorem dbin_ok {r2 : R2} {o : DOp} (h2 : DR2 c r2 o) {σ : L2.St} {H : Hp} {Q : VK} : liftE c W (dBin o ra rb) σ H Q → tOp r2 (liftE c W ra) (liftE c W rb) σ H Q := fun ⟨G, δ, P, E, R, h, kk, x⟩ =>
  ⟨G, δ, _, E, R, h, fun dx δ1 v G1 H1 p1 L1 R1 r1 => ⟨G1, δ1, _, E, R1, p1, fun dy δ2 u G2 H2 p2 L2 R2 r2 => h2 G2 H2 σ δ2 v u dx dy _ Q R2 (r1.mono L2.g) r2 p2 fun d w G3 H3 p3 L3 R3 r3 => kk d δ2 w G3 H3 p3 ((L1.trans L2).trans L3) R3 r3, x.mono L1.g⟩, x⟩
theorem de_bin {op : Operator} {o : DOp} (ho : OpD X c (binaryOp op) o) (ha : DE X c W a ra) (hb : DE X c W b rb) : DE X c W (.BinOp a op b pos) (dBin o ra rb) := by
  obtain ⟨r, h1, h2⟩ := ho.ex
  exact peI (pe_op h1 ha hb) fun σ H Q => dbin_ok h2
theorem de_cmp {op : CmpOp} {o : DOp} (ho : OpD X c (compareOp op) o) (ha : DE X c W a ra) (hb : DE X c W b rb) (hm : behindInMarks op b = false) : DE X c W (.Compare a [op] [b] pos) (dBin o ra rb) := by
  obtain ⟨r, h1, h2⟩ := ho.ex
  exact peI (pe_cmpR h1 ha hb hm) fun σ H Q => dbin_ok h2
/-- a True or False, as a test -/
def dTB (r : DTE) : DTT := fun δ P E => r δ (fun d δ' => match d with
  | .bl b => P b δ'
  | _ => False) E
theorem dtb_ok {σ : L2.St} {Q : Bool → Hp → Prop} {P : Bool → S → Prop} {d : D} {v : V} {G H G' H' : Hp} {δ' : S} (kk : ∀ d δ' G' H', P d δ' → Go c.p0 G H G' H' → Rel c G' H' σ δ' → Q d H') (p : match d with
  | .bl b => P b δ'
  | _ => False) (L : Go c.p0 G H G' H') (R' : Rel c G' H' σ δ') (r : Rep c.K c.p0 G' v d) : ∃ k, v = .bl k ∧ Q k H' := by
  cases r with
  | bl b => exact ⟨b, rfl, kk b δ' G' H' p L R'⟩
  | _ => exact p.elim
theorem dt_cmp {op : CmpOp} {o : DOp} (ho : OpD X c (compareOp op) o) (ha : DE X c W a ra) (hb : DE X c W b rb) (hm : behindInMarks op b = false) : DT X c W (.Compare a [op] [b] pos) (dTB (dBin o ra rb)) := by
  obtain ⟨r, h1, h2⟩ := ho.ex
  exact ptI (pt_cmpR h1 ha hb hm) fun σ H Q ⟨G, δ, P, E, R, h, kk, x⟩ => dbin_ok h2 ⟨G, δ, _, E, R, h, fun d δ' v G' H' p L R' r => dtb_ok kk p L R' r, x⟩
theorem dt_val (h : DE X c W e r) (he : ∀ whole, isTrue e X.env whole = (do let v ← whole; standAt e.pos; holding [v] (truthy v)) := by intro _; rfl) : DT X c W e (dTB r) :=
  ptI (pt_val h he) fun σ H Q ⟨G, δ, P, E, R, h, kk, x⟩ => ⟨G, δ, _, E, R, h, fun d δ' v G' H' p L R' r => dtb_ok kk p L R' r, x⟩
/-! ### and, or, not -/
def dAnd (t u : DTT) : DTT := fun δ P E => t δ (fun b δ1 => if b = true then u δ1 P E else P false δ1) E
def dOr (t u : DTT) : DTT := fun δ P E => t δ (fun b δ1 => if b = true then P true δ1 else u δ1 P E) E
def dNot (t : DTT) : DTT := fun δ P E => t δ (fun b δ1 => P (!b) δ1) E
variable {t u : DTT} {rest : List Expr}
theorem dw_and1 (ha : DT X c W a t) : DW X c W (.BoolOp .And [a] pos) t := pw_and1 ha
theorem dw_or1 (ha : DT X c W a t) : DW X c W (.BoolOp .Or [a] pos) t := pw_or1 ha
theorem dw_and (ha : DT X c W a t) (hb : DW X c W (.BoolOp .And (b :: rest) pos) u) : DW X c W (.BoolOp .And (a :: b :: rest) pos) (dAnd t u) :=
  pwI (pw_and ha hb) fun σ H Q ⟨G, δ, P, E, R, h, kk, x⟩ => ⟨G, δ, _, E, R, h, fun d δ1 G1 H1 p L R1 => by
    cases d with
    | true => exact ⟨G1, δ1, P, E, R1, p, fun d δ' G' H' p' L' R' => kk d δ' G' H' p' (L.trans L') R', x.mono L.g⟩
    | false => exact kk false δ1 G1 H1 p L R1, x⟩
theorem dw_or (ha : DT X c W a t) (hb : DW X c W (.BoolOp .Or (b :: rest) pos) u) : DW X c W (.BoolOp .Or (a :: b :: rest) pos) (dOr t u) :=
  pwI (pw_or ha hb) fun σ H Q ⟨G, δ, P, E, R, h, kk, x⟩ => ⟨G, δ, _, E, R, h, fun d δ1 G1 H1 p L R1 => by
    cases d with
    | false => exact ⟨G1, δ1, P, E, R1, p, fun d δ' G' H' p' L' R' => kk d δ' G' H' p' (L.trans L') R', x.mono L.g⟩
    | true => exact kk true δ1 G1 H1 p L R1, x⟩
theorem dt_not (ha : DT X c W a t) : DT X c W (.UnaryOp .Not a pos) (dNot t) :=
  ptI (pt_not ha) fun σ H Q ⟨G, δ, P, E, R, h, kk, x⟩ => ⟨G, δ, _, E, R, h, fun d δ1 G1 H1 p L R1 => kk _ _ _ _ p L R1, x⟩
/-- as values, all True or False -/
def dAndV (ra rb : DTE) : DTE := fun δ P E => dTB ra δ (fun b δ1 => if b = true then rb δ1 P E else P (.bl false) δ1) E
def dOrV (ra rb : DTE) : DTE := fun δ P E => dTB ra δ (fun b δ1 => if b = true then P (.bl true) δ1 else rb δ1 P E) E
def dNotV (ra : DTE) : DTE := fun δ P E => dTB ra δ (fun b δ1 => P (.bl (!b)) δ1) E
theorem de_one {op} (h : DE X c W a ra) : DE X c W (.BoolOp op [a] pos) ra := pe_one h
theorem de_and (ha : DE X c W a ra) (hb : DE X c W (.BoolOp .And (b :: rest) pos) rb) : DE X c W (.BoolOp .And (a :: b :: rest) pos) (dAndV ra rb) :=
  peI (pe_and ha hb) fun σ H Q ⟨G, δ, P, E, R, h, kk, x⟩ => ⟨G, δ, _, E, R, h, fun d δ1 v G1 H1 p L R1 r1 => by
    cases r1 with
    | bl q =>
      refine ⟨q, rfl, ?_⟩
      cases q with
      | true => exact ⟨G1, δ1, P, E, R1, p, fun d δ' v' G' H' p' L' R' => kk d δ' v' G' H' p' (L.trans L') R', x.mono L.g⟩
      | false => exact kk _ δ1 _ G1 H1 p L R1 (.bl false)
    | _ => exact p.elim, x⟩
theorem de_or (ha : DE X c W a ra) (hb : DE X c W (.BoolOp .Or (b :: rest) pos) rb) : DE X c W (.BoolOp .Or (a :: b :: rest) pos) (dOrV ra rb) :=
  peI (pe_or ha hb) fun σ H Q ⟨G, δ, P, E, R, h, kk, x⟩ => ⟨G, δ, _, E, R, h, fun d δ1 v G1 H1 p L R1 r1 => by
    cases r1 with
    | bl q =>
      refine ⟨q, rfl, ?_⟩
      cases q with
      | false => exact ⟨G1, δ1, P, E, R1, p, fun d δ' v' G' H' p' L' R' => kk d δ' v' G' H' p' (L.trans L') R', x.mono L.g⟩
      | true => exact kk _ δ1 _ G1 H1 p L R1 (.bl true)
    | _ => exact p.elim, x⟩
theorem de_not (ha : DE X c W a ra) : DE X c W (.UnaryOp .Not a pos) (dNotV ra) :=
  peI (pe_not ha) fun σ H Q ⟨G, δ, P, E, R, h, kk, x⟩ => ⟨G, δ, _, E, R, h, fun d δ1 v G1 H1 p L R1 r1 => by
    cases r1 with
    | bl q => exact ⟨q, rfl, kk _ δ1 _ G1 H1 p L R1 (.bl _)⟩
    | _ => exact p.elim, x⟩
def dIf (t : DTT) (ra rb : DTE) : DTE := fun δ P E => t δ (fun b δ1 => if b = true then ra δ1 P E else rb δ1 P E) E
theorem de_if {q : Expr} (hc : DT X c W q t) (ha : DE X c W a ra) (hb : DE X c W b rb) : DE X c W (.IfExp q a b pos) (dIf t ra rb) :=
  peI (pe_ifExp hc ha hb) fun σ H Q ⟨G, δ, P, E, R, h, kk, x⟩ => ⟨G, δ, _, E, R, h, fun d δ1 G1 H1 p L R1 => by
    cases d with
    | true => exact ⟨G1, δ1, P, E, R1, p, fun d δ' v' G' H' p' L' R' => kk d δ' v' G' H' p' (L.trans L') R', x.mono L.g⟩
    | false => exact ⟨G1, δ1, P, E, R1, p, fun d δ' v' G' H' p' L' R' => kk d δ' v' G' H' p' (L.trans L') R', x.mono L.g⟩, x⟩
/-- truth of any value -/
def tru : D → Option Bool
  | .non => some false
  | .bl b => some b
  | .int i => some (i != 0)
  | .str s => if s.length ≤ 100000 then some (s.length != 0) else none
  | .lst xs => some (!xs.isEmpty)
  | .tup xs => some (!xs.isEmpty)
  | .dct xs => some (!xs.isEmpty)
  | _ => none
def dTru (r : DTE) : DTT := fun δ P E => r δ (fun d δ' => match tru d with
  | some b => P b δ'
  | none => False) E
end
end DL

/-! DL2: statements, loops, calls of defs, a def by its body. -/
namespace DL
open PySem L2 PySem.Spec PyProof.Rows
section
variable {X : Cx} {c : Fr} {W : WX} {N : List Str} {sc : Scope} {k : Nat} {bb : Bool} {e a b : Expr} {es : List Expr} {pos : Pos} {r ra rb : DTE} {rs : DTA} {st : Stmt} {sts bd : List Stmt} {t u : DTS} {q : DTT}

def dNext : DTS := fun N δ => N.nx δ
def dSeq (t u : DTS) : DTS := fun N δ => t { N with nx := u N } δ
theorem dss_nil : DSs X c W [] dNext := pssI pss_nil fun D σ H ⟨G, δ, N, R, h, n⟩ => n.nx δ G H σ h (Le.refl _) R
theorem dss_cons (h1 : DS X c W st t) (h2 : DSs X c W sts u) : DSs X c W (st :: sts) (dSeq t u) :=
  pssI (pss_cons h1 h2) fun D σ H ⟨G, δ, N, R, h, n⟩ => ⟨G, δ, { N with nx := u N }, R, h,
    ⟨fun δ' G' H' σ' p L R' => ⟨G', δ', N, R', p, n.mono L⟩, n.rt, n.bk, n.ct, n.ex⟩⟩
theorem dss_one (h1 : DS X c W st t) : DSs X c W [st] t := pss_one h1
theorem ds_pass : DS X c W (.Pass pos) dNext := psI ps_pass fun D σ H ⟨G, δ, N, R, h, n⟩ => n.nx δ G H σ h (Le.refl _) R
theorem ds_break : DS X c W (.Break pos) (fun N δ => N.bk δ) := psI ps_break fun D σ H ⟨G, δ, N, R, h, n⟩ => n.bk δ G H σ h (Le.refl _) R
theorem ds_cont : DS X c W (.Continue pos) (fun N δ => N.ct δ) := psI ps_continue fun D σ H ⟨G, δ, N, R, h, n⟩ => n.ct δ G H σ h (Le.refl _) R
/-- what an expression's exception may do in a statement -/
theorem exOf {G : Hp} {D : Ends} {N : DN} {σ : L2.St} (n : NOk c W G D N) : ExOk c W G σ N.ex := fun er δ' cls dd G' H' p L R x => n.ex er δ' cls dd G' H' σ p L R x
def dDrop (r : DTE) : DTS := fun N δ => r δ (fun _ δ' => N.nx δ') N.ex
theorem ds_expr (h : DE X c W e r) (hs : swapsWith e none pos.line X.env = pure false := by rfl) : DS X c W (.Expr e pos) (dDrop r) :=
  psI (ps_expr h hs) fun D σ H ⟨G, δ, N, R, h, n⟩ => ⟨G, δ, _, N.ex, R, h, fun d δ' v G' H' p L R' _ => n.nx δ' G' H' σ p L.g R', exOf n⟩
def dRet (r : DTE) : DTS := fun N δ => r δ N.rt N.ex
theorem ds_ret (h : DE X c W e r) : DS X c W (.Return (some e) pos) (dRet r) :=
  psI (ps_ret h) fun D σ H ⟨G, δ, N, R, h, n⟩ => ⟨G, δ, _, N.ex, R, h, fun d δ' v G' H' p L R' rr => n.rt d δ' v G' H' σ p L.g R' rr, exOf n⟩
theorem ds_retN : DS X c W (.Return none pos) (fun N δ => N.rt .non δ) := psI ps_retN fun D σ H ⟨G, δ, N, R, h, n⟩ => n.rt .non δ .non G H σ h (Le.refl _) R .non
def dIte (q : DTT) (t u : DTS) : DTS := fun N δ => q δ (fun b δ1 => if b = true then t N δ1 else u N δ1) N.ex
theorem ds_if {cnd : Expr} {A B : List Stmt} (hc : DT X c W cnd q) (ha : DSs X c W A t) (hb : DSs X c W B u) : DS X c W (.If cnd A B pos) (dIte q t u) :=
  psI (ps_if hc ha hb) fun D σ H ⟨G, δ, N, R, h, n⟩ => ⟨G, δ, _, N.ex, R, h, fun d δ' G' H' p L R' => by
    cases d with
    | true => exact ⟨G', δ', N, R', p, n.mono L.g⟩
    | false => exact ⟨G', δ', N, R', p, n.mono L.g⟩, exOf n⟩
/-! ### targets -/
theorem Rel.set' {G H : Hp} {σ : L2.St} {δ : S} (R : Rel c G H σ δ) {i : Nat} {v : V} {x : D} (r : Rep c.K c.p0 G v x) : Rel c G H (σ.set i (some v)) { δ with sl := δ.sl.set i (.d x) } := by
  by_cases hi : i < δ.sl.length
  · exact R.set hi r
  · have e1 : σ.set i (some v) = σ := List.set_eq_of_length_le (by rw [R.len]; omega)
    have e2 : δ.sl.set i (.d x) = δ.sl := List.set_eq_of_length_le (by omega)
    rw [e1, e2]
    exact R
def gN (i : Nat) : DTG := fun d δ P => P { δ with sl := δ.sl.set i (.d d) }
theorem dg_name {i : Nat} {x : Str} (B : XB X c W N sc k false) (hi : N[i]? = some x) (hx : Loc sc x) : DG X c (.Name x pos) (gN i) :=
  pgI (pg_name (i := i) (by rw [B.hN]; exact B.nd) (by rw [B.hN]; exact hi) (by rw [B.hs]; exact hx) (.inl (B.fn rfl x))) fun v σ H Q ⟨G, δ, d, P, R, r, h, kk⟩ => kk _ G H _ h (Le.refl _) (R.set' r)
abbrev DTGs := List D → S → (S → Prop) → Prop
def liftGs (c : Fr) (g : DTGs) : TGs := fun v σ H Q => ∃ G δ d P, Rel c G H σ δ ∧ RepL c.K c.p0 G v d ∧ g d δ P ∧ (∀ δ' G' H' σ', P δ' → Le G G' → Rel c G' H' σ' δ' → Q σ' H')
abbrev DGs (X : Cx) (c : Fr) (tg : List Expr) (g : DTGs) : Prop := PGs X tg (liftGs c g)
theorem pgsI {e : List Expr} {t t' : TGs} (h : PGs X e t) (k : ∀ v σ H Q, t' v σ H Q → t v σ H Q) : PGs X e t' := ⟨fun pins s σ H v u Q I r q => h.run pins s σ H v u Q I r (k v σ H Q q)⟩
def gZ : DTGs := fun ds δ P => match ds with
  | [] => P δ
  | _ => False
def gC (g : DTG) (h : DTGs) : DTGs := fun ds δ P => match ds with
  | d :: r => g d δ (fun δ' => h r δ' P)
  | _ => False
theorem dgs_nil : DGs X c [] gZ := pgsI pgs_nil fun v σ H Q ⟨G, δ, d, P, R, r, h, kk⟩ => by
  cases r with
  | nil => exact ⟨rfl, kk _ G H _ h (Le.refl _) R⟩
  | cons a b => exact h.elim
theorem dgs_cons {g : DTG} {h : DTGs} (h1 : DG X c e g) (h2 : DGs X c es h) (hs : (assignEach (e :: es) X.env).map (·.2) = assign e X.env :: (assignEach es X.env).map (·.2) := by rfl) : DGs X c (e :: es) (gC g h) :=
  pgsI (pgs_cons h1 h2 hs) fun v σ H Q ⟨G, δ, d, P, R, r, h, kk⟩ => by
    cases r with
    | nil => exact h.elim
    | cons a b => exact ⟨_, _, rfl, G, δ, _, _, R, a, h, fun δ' G' H' σ' p L R' => ⟨G', δ', _, P, R', b.mono L, p, fun δ2 G2 H2 σ2 p2 L2 R2 => kk δ2 G2 H2 σ2 p2 (L.trans L2) R2⟩⟩
def gT (n : Nat) (g : DTGs) : DTG := fun d δ P => match d with
  | .tup xs => xs.length = n ∧ g xs δ P
  | _ => False
theorem dg_tup {n : Nat} {kk : Nat} {g : DTGs} (B : XB X c W N sc k bb) (h : DGs X c es g) (hn : (assignEach es X.env).length = n := by rfl) (hst : (assignEach es X.env).findIdx? (·.1) = none := by rfl) : DG X c (.Tuple es kk pos) (gT n g) :=
  pgI (pg_tup B.calm h hn hst) fun v σ H Q ⟨G, δ, d, P, R, r, h, kk⟩ => by
    cases r with
    | tup hq rl => exact ⟨_, _, rfl, by rw [B.hK]; exact le_t R.le hq, by rw [rl.len]; exact h.1, G, δ, _, P, R, rl, h.2, kk⟩
    | _ => exact h.elim
def dSet (i : Nat) (r : DTE) : DTS := fun N δ => r δ (fun d δ1 => N.nx { δ1 with sl := δ1.sl.set i (.d d) }) N.ex
theorem ds_set {i : Nat} {x : Str} {pos' : Pos} (B : XB X c W N sc k false) (hi : N[i]? = some x) (hx : Loc sc x) (he : DE X c W e r) (hs : swapsWith e (some (.Name x pos')) pos.line X.env = pure false := by rfl) : DS X c W (.Assign [.Name x pos'] e pos) (dSet i r) :=
  psI (ps_set (i := i) (by rw [B.hN]; exact B.nd) (by rw [B.hN]; exact hi) (by rw [B.hs]; exact hx) he hs (.inl (B.fn rfl x))) fun D σ H ⟨G, δ, N, R, h, n⟩ =>
    ⟨G, δ, _, N.ex, R, h, fun d δ' v G' H' p L R' rr => n.nx _ G' H' _ p L.g (R'.set' rr), exOf n⟩
def dAsg (r : DTE) (g : DTG) : DTS := fun N δ => r δ (fun d δ1 => g d δ1 N.nx) N.ex
theorem ds_asg {tg : Expr} {g : DTG} (he : DE X c W e r) (hg : DG X c tg g) (hs : swapsWithSole [tg] e pos.line X.env = pure false := by rfl) (hw : swappedStores [tg] e X.env = pure none := by rfl)
    (h1 : (assignEach [tg] X.env).map (·.2) = [assign tg X.env] := by rfl) : DS X c W (.Assign [tg] e pos) (dAsg r g) :=
  psI (ps_asg he hg hs hw h1) fun D σ H ⟨G, δ, N, R, h, n⟩ => ⟨G, δ, _, N.ex, R, h, fun d δ' v G' H' p L R' rr => ⟨G', δ', d, _, R', rr, p, fun δ2 G2 H2 σ2 p2 L2 R2 => n.nx δ2 G2 H2 σ2 p2 (L.g.trans L2) R2⟩, exOf n⟩
/-- a, b = x, y -/
def dPar (i j : Nat) (rs : DTA) : DTS := fun N δ => rs δ (fun ds δ1 => match ds with
  | [x, y] => N.nx { δ1 with sl := (δ1.sl.set i (.d x)).set j (.d y) }
  | _ => False) N.ex
theorem ds_par {i j : Nat} {x y : Str} {px py pt : Pos} {kt k2 pt2} (B : XB X c W N sc k false) (hi : N[i]? = some x) (hj : N[j]? = some y) (hij : i ≠ j)
    (hx : sc.names.lookup x = some .local) (hy : sc.names.lookup y = some .local) (ha : DA X c W [a, b] rs)
    (hw : ∀ env : Env, env.scope = sc → swappedStores [.Tuple [.Name x px, .Name y py] kt pt] (.Tuple [a, b] k2 pt2) env = pure (some [x, y]))
    (hs : swapsWithSole [.Tuple [.Name x px, .Name y py] kt pt] (.Tuple [a, b] k2 pt2) pos.line X.env = pure false := by rfl) :
    DS X c W (.Assign [.Tuple [.Name x px, .Name y py] kt pt] (.Tuple [a, b] k2 pt2) pos) (dPar i j rs) :=
  psI (ps_par B.calm (by rw [B.hN]; exact B.nd) (by rw [B.hN]; exact hi) (by rw [B.hN]; exact hj) hij (by rw [B.hs]; exact hx) (by rw [B.hs]; exact hy) ha (hw _ B.hs) hs) fun D σ H ⟨G, δ, N, R, h, n⟩ =>
    ⟨G, δ, _, N.ex, R, h, fun ds δ' vs G' H' p L R' rr => by
      cases rr with
      | nil => exact p.elim
      | cons r1 rr =>
        cases rr with
        | nil => exact p.elim
        | cons r2 rr =>
          cases rr with
          | nil => exact ⟨_, _, rfl, n.nx _ G' H' _ p L.g ((R'.set' r1).set' (i := j) r2)⟩
          | cons _ _ => exact p.elim, exOf n⟩

/-! ### loops -/
abbrev frOf (c : Wd) (G H : Hp) (mu : List Addr) : Fr := { c with G0 := G, H0 := H, mu := mu }
structure JOk (c : Wd) (J : It) (items : List D) (G : Hp) : Prop where
  go : ∀ i H G2, i < items.length → Le G G2 → Le G2 H → J.go i H
  stop : ∀ i H G2, items.length ≤ i → Le G G2 → Le G2 H → J.stop i H
  yld : ∀ (G0 H0 : Hp) (mu : List Addr) i H x H' G2 σ δ, Le G G2 → Rel (frOf c G0 H0 mu) G2 H σ δ → J.yld i H x H' → i < items.length → ∃ G' d, items[i]? = some d ∧ Le G2 G' ∧ Rel (frOf c G0 H0 mu) G' H' σ δ ∧ Rep c.K c.p0 G' x d ∧ (∀ b o, H b = some o → b ≠ c.p0 → H' b = some o) ∧ (∀ b o, G' b = some o → G2 b = some o ∨ H b = none)
abbrev DTI := DTA
def liftI (c : Fr) (W : WX) (r : DTI) : TI := fun σ H R => ∃ G δ P E, Rel c G H σ δ ∧ r δ P E ∧
  (∀ items δ' J G' H', P items δ' → Go c.p0 G H G' H' → Rel c G' H' σ δ' → JOk c.toWd J items G' → R J H') ∧ ExOk c W G σ E
abbrev DI (X : Cx) (c : Fr) (W : WX) (tg e : Expr) (r : DTI) : Prop := PI X tg e (liftI c W r)
theorem piI {tg e : Expr} {t t' : TI} (h : PI X tg e t) (k : ∀ σ H Q, t' σ H Q → t σ H Q) : PI X tg e t' := ⟨fun pins s σ H Q I q => h.run pins s σ H Q I (k σ H Q q)⟩
theorem jok_list {G : Hp} {K : PySem.W.Frag} (hK : K = c.K) {p : Addr} {vs : List V} {xs : List D} (h : SqL c.K G p vs) (r : RepL c.K c.p0 G vs xs) : JOk c.toWd (Itl K p) xs G := by
  subst hK
  refine ⟨fun i H G2 hi L L2 => ?_, fun i H G2 hi L L2 => ⟨vs, le_l (L.trans L2) h, by rw [r.len]; exact hi⟩, fun G0 H0 mu i H x H' G2 σ δ L R ⟨e, y⟩ hi => ?_⟩
  · exact ⟨vs, vs[i]'(by rw [r.len]; exact hi), le_l (L.trans L2) h, by simp⟩
  · subst e
    have y1 := y vs (le_l (L.trans R.le) h)
    obtain ⟨u, h1, h2⟩ := r.get (i := i) (x := xs[i]) (by simp [hi])
    rw [y1] at h1; cases h1
    exact ⟨G2, xs[i], by simp [hi], Le.refl _, R, h2.mono L, fun _ _ h _ => h, fun _ _ h => .inl h⟩
theorem jok_tup {G : Hp} {K : PySem.W.Frag} (hK : K = c.K) {p : Addr} {vs : List V} {xs : List D} (h : SqT c.K G p vs) (r : RepL c.K c.p0 G vs xs) : JOk c.toWd (Itt K p) xs G := by
  subst hK
  refine ⟨fun i H G2 hi L L2 => ?_, fun i H G2 hi L L2 => ⟨vs, le_t (L.trans L2) h, by rw [r.len]; exact hi⟩, fun G0 H0 mu i H x H' G2 σ δ L R ⟨e, y⟩ hi => ?_⟩
  · exact ⟨vs, vs[i]'(by rw [r.len]; exact hi), le_t (L.trans L2) h, by simp⟩
  · subst e
    have y1 := y vs (le_t (L.trans R.le) h)
    obtain ⟨u, h1, h2⟩ := r.get (i := i) (x := xs[i]) (by simp [hi])
    rw [y1] at h1; cases h1
    exact ⟨G2, xs[i], by simp [hi], Le.refl _, R, h2.mono L, fun _ _ h _ => h, fun _ _ h => .inl h⟩
theorem jok_range {G : Hp} {lo : Int} {n : Nat} : JOk c.toWd (Itr lo n) ((List.range n).map fun (i : Nat) => D.int (lo + (i : Int))) G := by
  refine ⟨fun i H G2 hi _ _ => (by simpa using hi : i < n), fun i H G2 hi _ _ => (by simpa using hi : n ≤ i), fun G0 H0 mu i H x H' G2 σ δ L R ⟨e, y⟩ hi => ?_⟩
  subst e y
  have hi' : i < n := by simpa using hi
  exact ⟨G2, .int (lo + i), by simp [hi'], Le.refl _, R, .int _, fun _ _ h _ => h, fun _ _ h => .inl h⟩
/-- for x in a list or a tuple -/
def dItL (r : DTE) : DTI := fun δ P E => r δ (fun d δ1 => match d with
  | .lst xs => P xs δ1
  | _ => False) E
def dItT (r : DTE) : DTI := fun δ P E => r δ (fun d δ1 => match d with
  | .tup xs => P xs δ1
  | _ => False) E
theorem di_list {tg : Expr} (B : XB X c W N sc k bb) (h : DE X c W e r) : DI X c W tg e (dItL r) :=
  piI (pi_list h) fun σ H Q ⟨G, δ, P, E, R, h, kk, x⟩ => ⟨G, δ, _, E, R, h, fun d δ1 v G1 H1 p L R1 rr => by
    cases rr with
    | lst hq rl => exact ⟨_, rfl, ⟨_, by rw [B.hK]; exact le_l R1.le (.inl hq)⟩, kk _ δ1 _ G1 H1 p L R1 (jok_list B.hK (.inl hq) rl)⟩
    | _ => exact p.elim, x⟩
theorem di_tup {tg : Expr} (B : XB X c W N sc k bb) (h : DE X c W e r) : DI X c W tg e (dItT r) :=
  piI (pi_tup h) fun σ H Q ⟨G, δ, P, E, R, h, kk, x⟩ => ⟨G, δ, _, E, R, h, fun d δ1 v G1 H1 p L R1 rr => by
    cases rr with
    | tup hq rl => exact ⟨_, rfl, ⟨_, by rw [B.hK]; exact le_t R1.le hq⟩, kk _ δ1 _ G1 H1 p L R1 (jok_tup B.hK hq rl)⟩
    | _ => exact p.elim, x⟩
def dRng1 (rs : DTA) : DTI := fun δ P E => rs δ (fun ds δ1 => match ds with
  | [.int j] => (-(2 ^ 62) ≤ j ∧ j < 2 ^ 62) ∧ P ((List.range j.toNat).map fun (i : Nat) => D.int (0 + (i : Int))) δ1
  | _ => False) E
def dRng2 (rs : DTA) : DTI := fun δ P E => rs δ (fun ds δ1 => match ds with
  | [.int i, .int j] => (-(2 ^ 62) ≤ i ∧ i < 2 ^ 62 ∧ -(2 ^ 62) ≤ j ∧ j < 2 ^ 62) ∧ P ((List.range (j - i).toNat).map fun (n : Nat) => D.int (i + (n : Int))) δ1
  | _ => False) E
theorem di_range1 {tg : Expr} {p : Pos} (B : XB X c W N sc k bb) (hg : sc.names.lookup ("range" : Str) = some .globalImplicit) (hm : c.mg ("range" : Str) = none) (ha : DA X c W [a] rs) (hs : starEach [a] X.env = [(false, eval a X.env)] := by rfl) : DI X c W tg (.Call (.Name "range" p) [a] [] pos) (dRng1 rs) :=
  piI (pi_range1 (by show X.env.scope.names.lookup _ = _; rw [B.hs]; exact hg) (by rw [B.hm]; exact hm) ha hs) fun σ H Q ⟨G, δ, P, E, R, h, kk, x⟩ => ⟨G, δ, _, E, R, h, fun d δ1 v G1 H1 p L R1 rr => by
    cases rr with
    | nil => exact p.elim
    | cons r1 rr =>
      cases rr with
      | nil =>
        cases r1 with
        | int j => exact ⟨j, rfl, p.1.1, p.1.2, kk _ δ1 _ G1 H1 p.2 L R1 jok_range⟩
        | _ => exact p.elim
      | cons _ _ => cases r1 <;> exact p.elim, x⟩
theorem di_range2 {tg : Expr} {p : Pos} (B : XB X c W N sc k bb) (hg : sc.names.lookup ("range" : Str) = some .globalImplicit) (hm : c.mg ("range" : Str) = none) (ha : DA X c W [a, b] rs) (hs : starEach [a, b] X.env = [(false, eval a X.env), (false, eval b X.env)] := by rfl) (hs2 : starEach [b] X.env = [(false, eval b X.env)] := by rfl) :
    DI X c W tg (.Call (.Name "range" p) [a, b] [] pos) (dRng2 rs) :=
  piI (pi_range2 (by show X.env.scope.names.lookup _ = _; rw [B.hs]; exact hg) (by rw [B.hm]; exact hm) ha hs hs2) fun σ H Q ⟨G, δ, P, E, R, h, kk, x⟩ => ⟨G, δ, _, E, R, h, fun d δ1 v G1 H1 p L R1 rr => by
    cases rr with
    | nil => exact p.elim
    | cons r1 rr =>
      cases rr with
      | nil => cases r1 <;> exact p.elim
      | cons r2 rr =>
        cases rr with
        | nil =>
          cases r1 with
          | int i =>
            cases r2 with
            | int j => exact ⟨i, j, rfl, p.1, kk _ δ1 _ G1 H1 p.2 L R1 jok_range⟩
            | _ => exact p.elim
          | _ => exact p.elim
        | cons _ _ => cases r1 <;> cases r2 <;> exact p.elim, x⟩
def dLoop (g : DTG) (tb : DTS) (N : DN) : List D → S → Prop
  | [], δ => N.nx δ
  | x :: r, δ => g x δ (fun δ2 => tb { N with nx := dLoop g tb N r, ct := dLoop g tb N r, bk := N.nx } δ2)
def dFor (ri : DTI) (g : DTG) (tb : DTS) : DTS := fun N δ => ri δ (fun items δ1 => dLoop g tb N items δ1) N.ex
theorem drop_cons {α : Type} {l : List α} {i : Nat} (h : i < l.length) : l.drop i = l[i] :: l.drop (i + 1) := List.drop_eq_getElem_cons h
theorem ds_for {tg iter : Expr} {ri : DTI} {g : DTG} (B : XB X c W N sc k bb) (hi : DI X c W tg iter ri) (hg : DG X c tg g) (hb : DSs X c W bd t) (hs : ∀ x, foldedSetIterable iter X.env x = pure x := by intro _; rfl) :
    DS X c W (.For tg iter bd [] pos) (dFor ri g t) :=
  psI (ps_for B.pw B.calm hi hg hb hs) fun D σ H ⟨G, δ, N, R, h, n⟩ => ⟨G, δ, _, N.ex, R, h, fun items δ1 J G1 H1 p L R1 j => by
    refine ⟨fun i m σ' H' => m = items.length - i ∧ i ≤ items.length ∧ ∃ G2 δ2, Le G1 G2 ∧ Rel c G2 H' σ' δ2 ∧ dLoop g t N (items.drop i) δ2, ⟨items.length, rfl, Nat.zero_le _, G1, δ1, Le.refl _, R1, p⟩, ?_⟩
    rintro i m σ' H' ⟨rfl, hi, G2, δ2, L2, R2, p2⟩
    by_cases hlt : i < items.length
    · right
      rw [drop_cons hlt] at p2
      refine ⟨j.go i H' G2 hlt L2 R2.le, fun σ' H' => i + 1 ≤ items.length ∧ ∃ G2 δ2, Le G1 G2 ∧ Rel c G2 H' σ' δ2 ∧ dLoop g t N (items.drop (i + 1)) δ2, fun σ3 H3 ⟨q1, q2⟩ => ⟨items.length - (i + 1), by omega, rfl, q1, q2⟩, fun x H3 y => ?_⟩
      obtain ⟨G3, d, e3, L3, R3, r3, _, _⟩ := j.yld c.G0 c.H0 c.mu i H' x H3 G2 σ' δ2 L2 R2 y hlt
      have ed : d = items[i] := by rw [List.getElem?_eq_getElem hlt] at e3; exact (Option.some.inj e3).symm
      subst ed
      refine ⟨G3, δ2, _, _, R3, r3, p2, fun δ4 G4 H4 σ4 p4 L4 R4 => ⟨G4, δ4, _, R4, p4, ?_⟩⟩
      have LL : Le G1 G4 := (L2.trans L3).trans L4
      have n4 := n.mono (L.g.trans LL)
      exact ⟨fun δ' G' H' σ' p L' R' => ⟨hlt, G', δ', LL.trans L', R', p⟩, n4.rt, n4.nx, fun δ' G' H' σ' p L' R' => ⟨hlt, G', δ', LL.trans L', R', p⟩, n4.ex⟩
    · left
      have e : items.drop i = [] := List.drop_eq_nil_of_le (by omega)
      rw [e] at p2
      exact ⟨j.stop i H' G2 (by omega) L2 R2.le, n.nx δ2 G2 H' σ' p2 (L.g.trans L2) R2⟩, exOf n⟩
def dWhl (q : DTT) (tb : DTS) (N : DN) : Nat → S → Prop
  | 0, _ => False
  | m + 1, δ => q δ (fun b δ1 => if b = true then tb { N with nx := dWhl q tb N m, ct := dWhl q tb N m, bk := N.nx } δ1 else N.nx δ1) N.ex
def dWhile (q : DTT) (tb : DTS) : DTS := fun N δ => ∃ m, dWhl q tb N m δ
theorem ds_while {cnd : Expr} (B : XB X c W N sc k bb) (hc : DT X c W cnd q) (hb : DSs X c W bd t) : DS X c W (.While cnd bd [] pos) (dWhile q t) :=
  psI (ps_while B.pw hc hb) fun D σ H ⟨G, δ, N, R, ⟨m0, h⟩, n⟩ => by
    refine ⟨fun m σ' H' => ∃ G2 δ2, Le G G2 ∧ Rel c G2 H' σ' δ2 ∧ dWhl q t N m δ2, ⟨m0, G, δ, Le.refl _, R, h⟩, ?_⟩
    rintro m σ' H' ⟨G2, δ2, L2, R2, p2⟩
    cases m with
    | zero => exact p2.elim
    | succ m =>
      refine ⟨G2, δ2, _, N.ex, R2, p2, fun b δ3 G3 H3 p3 L3 R3 => ?_, exOf (n.mono L2)⟩
      have n3 := n.mono (L2.trans L3.g)
      cases b with
      | false => exact n3.nx δ3 G3 H3 σ' p3 (Le.refl _) R3
      | true =>
        refine ⟨fun σ4 H4 => ∃ G2 δ2, Le G G2 ∧ Rel c G2 H4 σ4 δ2 ∧ dWhl q t N m δ2, fun σ4 H4 z => ⟨m, Nat.lt_succ_self _, z⟩, G3, δ3, _, R3, p3, ?_⟩
        exact ⟨fun δ' G' H' σ' p L' R' => ⟨G', δ', (L2.trans L3.g).trans L', R', p⟩, n3.rt, n3.nx, fun δ' G' H' σ' p L' R' => ⟨G', δ', (L2.trans L3.g).trans L', R', p⟩, n3.ex⟩

/-! ### defs: what they promise over data -/
abbrev DSp := List D → Nat → (D → Nat → Prop) → (Er → Nat → Prop) → Prop
def liftSp (c : Wd) (s : DSp) : Sp := fun vs H Q E => ∃ (G : Hp) (ds : List D) (n : Nat) (P : D → Nat → Prop) (R : Er → Nat → Prop), Le G H ∧ PenOk c.K c.cs G H c.p0 n ∧ G c.p0 = none ∧ RepL c.K c.p0 G vs ds ∧ s ds n P R ∧
  (∀ d n' v G' H', P d n' → Post c.K c.cs c.p0 G H G' H' n' → Rep c.K c.p0 G' v d → Q v H') ∧
  (∀ er n' cls dd G' H', R er n' → Post c.K c.cs c.p0 G H G' H' n' → ErRep c G' cls dd er → E cls dd H')
/-- a def that keeps sp, called where no text is being made -/
structure FnG (c : Wd) (k : Nat) (f : Addr) (fd : FuncData) (ps : List Str) (sp : Sp) : Prop where
  len : ∀ vs H Q E, sp vs H Q E → vs.length = ps.length
  run : ∀ (A : Around) (outer : List Env) (s : Shared) (H : Hp) (args : Args) (us : List Value) (vs : List V) (Q : VK) (E : XK), Room k A → A.guards = some [] → Env0 c.P c.w c.K c.mg c.base A outer s H → BindsTo s fd args (ps.zip us) → Vals vs us →
    sp vs H Q E → codeAny (model c.P c.w) A (.call (.ref f) args) (CR (L2.CX c.P c.w) outer c.P c.w H s Q E) s
theorem fnG_of {c : Wd} {name qual : Str} {params : Arguments} {body : List Stmt} {scope : Scope} {dvs : List V} {kws : List (Str × V)} {f : Addr} {fd : FuncData} {N ps : List Str} {k : Nat} {sp : Sp} (F : FunD c.K name qual params body scope dvs kws f fd) (S : FnScope N ps scope)
    (len : ∀ vs H Q E, sp vs H Q E → vs.length = ps.length)
    (bd : ∀ (cdv : Value) (A : Around) (outer : List Env) (s : Shared) (H : Hp) (vs : List V) (Q : VK) (E : XK), Room k (A.deeper (envOfC qual scope s.heap.objs.size f cdv)) → A.guards = some [] → sp vs H Q E →
      ∃ t, PSs (cxOf (L2.CX c.P c.w) c.P c.w c.K c.mg c.base N qual scope f cdv A outer s H E) body t ∧ t { nx := fun _ H' => Q .non H', rt := Q } (L2.start N vs) H) : FnG c (k + 1) f fd ps sp := by
  obtain ⟨oc, od, dV, kV, doc, pm, an, cdv, ct, osl, rfl, lk, hcd, _, _⟩ := F.ex
  refine ⟨len, fun A outer s H args us vs Q E room gd e0 bnd rv hs => ?_⟩
  have kin : c.K.In s.heap := e0.mod.kin.keeps fun q o e => (e0.bs q o e).1
  have nolim : s.heap.NoLimit := e0.mod.nolimit.keeps fun q o e => (e0.bs q o e).1
  have kinds : ∀ y ∈ ps.zip us, scope.names.lookup y.1 = some .local ∨ (scope.names.lookup y.1 = some .cell ∧ ((cellsFrom (s.heap.objs.size + 1) scope.names []).lookup y.1).isSome = true) := fun y hy => by
    obtain ⟨nm, val⟩ := y
    have hn := (List.of_mem_zip hy).1
    cases S.par nm hn with
    | inl z => exact .inl z
    | inr z => exact .inr ⟨z, PySem.W.cellsFrom_some _ _ _ (.inl z)⟩
  refine codeAny_call_function room.depth (kin _ _ lk) rfl S.co S.gen rfl (PySem.W.codeRec_of kin hcd) (bnd _ _ _ _ (wpAny_newFunctionEnv_cells S.kind kinds fun env he s1 x => ?_))
  subst he
  obtain ⟨t, ht, ht2⟩ := bd cdv A outer s H vs Q E (room.deeper _) gd hs
  have J : Inv (cxOf (L2.CX c.P c.w) c.P c.w c.K c.mg c.base N qual scope f cdv A outer s H E) [] (L2.start N vs) H s1 := inv_start S room.hd e0 (len _ _ _ _ hs) rv x
  refine ⟨nolim.keeps x.toInCall.keep, codeAny_func (wpAny_mono (ht.run [] s1 _ H _ J ht2) (fun fl s' z => ?_) fun _ _ z => z)⟩
  cases fl with
  | brk => exact z.elim fun _ z => z.elim fun _ z => z.2.elim
  | cont => exact z.elim fun _ z => z.elim fun _ z => z.2.elim
  | next => obtain ⟨σ', H', J', q⟩ := z; exact ⟨.non, H', J'.os, J'.bare, J'.base, J'.hok, rfl, q⟩
  | ret u => obtain ⟨v, σ', H', J', r', q⟩ := z; exact ⟨v, H', J'.os, J'.bare, J'.base, J'.hok, r', q⟩
theorem make_guards {A : Around} {C : Addr} {us : List Value} {kw : List (Str × Value)} (h : A.guards = some []) : (A.under (.builtin "type.__call__" ⟨.ref C :: us, kw⟩)).guards = some [] := by
  simp [Around.under, Code.guards, Code.isGuard, guardIds, pushGuards, h]
theorem passAtW (tk : Takes X W) (σ : L2.St) : PassesAt (L2.CX X.prog X.w) X σ (fun cls d H => W cls d σ H) := passAt tk σ
end
end DL

/-! DL3: what can be called: defs, classes, methods; attributes. -/
namespace DL
open PySem L2 PySem.Spec PyProof.Rows

abbrev Sp2 := List V → List V → Hp → VK → XK → Prop
abbrev DSp2 := List D → List D → Nat → (D → Nat → Prop) → (Er → Nat → Prop) → Prop
def liftSp2 (c : Wd) (s : DSp2) : Sp2 := fun vs zs H Q E => ∃ (G : Hp) (ds es : List D) (n : Nat) (P : D → Nat → Prop) (R : Er → Nat → Prop), Le G H ∧ PenOk c.K c.cs G H c.p0 n ∧ G c.p0 = none ∧ RepL c.K c.p0 G vs ds ∧ RepL c.K c.p0 G zs es ∧ s ds es n P R ∧
  (∀ d n' v G' H', P d n' → Post c.K c.cs c.p0 G H G' H' n' → Rep c.K c.p0 G' v d → Q v H') ∧
  (∀ er n' cls dd G' H', R er n' → Post c.K c.cs c.p0 G H G' H' n' → ErRep c G' cls dd er → E cls dd H')
/-- fv may be called from any body: with values and the keywords ks it keeps s -/
structure Callee (c : Wd) (fv : Value) (ks : List Str) (k : Nat) (s : DSp2) : Prop where
  keeper : PySem.W.keepIn c.K fv = true
  run : ∀ (X : Cx) (W : WX) (pins : List (Addr × Obj)) (st : Shared) (σ : L2.St) (H : Hp) (us ws : List Value) (vs zs : List V) (Q : VK), X.prog = c.P → X.w = c.w → X.K = c.K → X.mg = c.mg → X.base = c.base → Room k X.A → X.A.guards = some [] → Takes X W →
    Inv X pins σ H st → Vals vs us → Vals zs ws → zs.length = ks.length → liftSp2 c s vs zs H Q (fun cls d H' => W cls d σ H') →
    wpAny (model X.prog X.w) X.A (call fv us (ks.zip ws)) (EP X pins σ Q) X.xe st
theorem Callee.mono {c : Wd} {fv : Value} {ks : List Str} {j k : Nat} {s : DSp2} (h : Callee c fv ks j s) (l : j ≤ k) : Callee c fv ks k s :=
  ⟨h.keeper, fun X W pins st σ H us ws vs zs Q a1 a2 a3 a4 a5 r => h.run X W pins st σ H us ws vs zs Q a1 a2 a3 a4 a5 (r.mono l)⟩
theorem Callee.imp {c : Wd} {fv : Value} {ks : List Str} {k : Nat} {s s' : DSp2} (h : Callee c fv ks k s) (l : ∀ ds es n P R, s' ds es n P R → s ds es n P R) : Callee c fv ks k s' :=
  ⟨h.keeper, fun X W pins st σ H us ws vs zs Q a1 a2 a3 a4 a5 r gd t I rv rz e ⟨G, ds, es, n, P, R, b1, b2, b3, b4, b5, b6, b7, b8⟩ => h.run X W pins st σ H us ws vs zs Q a1 a2 a3 a4 a5 r gd t I rv rz e ⟨G, ds, es, n, P, R, b1, b2, b3, b4, b5, l _ _ _ _ _ b6, b7, b8⟩⟩

/-- how a call's values fall to the parameters -/
structure Shape (c : Wd) (fd : FuncData) (ps : List Str) (n : Nat) (ks : List Str) (gD : List D → List D → List D) : Prop where
  ex : ∃ g gV, KBn c.K fd ps n ks g gV ∧ ∀ (G : Hp) (vs zs : List V) (ds es : List D), RepL c.K c.p0 G vs ds → RepL c.K c.p0 G zs es → RepL c.K c.p0 G (gV vs zs) (gD ds es)
/-- a def as a callee -/
theorem callee_fn {c : Wd} {f : Addr} {fd : FuncData} {ps ks : List Str} {n k : Nat} {gD : List D → List D → List D} {s : DSp} (F : FnG c k f fd ps (liftSp c s)) (kp : PySem.W.keepIn c.K (.ref f) = true) (b : Shape c fd ps n ks gD) :
    Callee c (.ref f) ks k (fun ds es m P R => ds.length = n ∧ s (gD ds es) m P R) := by
  refine ⟨kp, fun X W pins st σ H us ws vs zs Q a1 a2 a3 a4 a5 r gd t I rv rz e ⟨G, ds, es, m, P, R, b1, b2, b3, b4, b5, ⟨b6, b6'⟩, b7, b8⟩ => ?_⟩
  obtain ⟨g, gV, kb, hg⟩ := b.ex
  have hsp : liftSp c s (gV vs zs) H Q (fun cls d H' => W cls d σ H') := ⟨G, gD ds es, m, P, R, b1, b2, b3, hg G vs zs ds es b4 b5, b6', b7, b8⟩
  obtain ⟨hP, hw⟩ := (⟨a1, a2⟩ : X.prog = c.P ∧ X.w = c.w)
  have n1 : us.length = n := by rw [← rv.length, b4.len, b6]
  have n2 : ws.length = ks.length := by rw [← rz.length, e]
  have E0 : Env0 c.P c.w c.K c.mg c.base X.A X.stack st H := by rw [← a1, ← a2, ← a3, ← a4, ← a5]; exact I.env0
  rw [hP, hw]
  refine wpAny_call (codeAny_mono (F.run X.A X.stack st H ⟨us, ks.zip ws⟩ (g us ws) (gV vs zs) Q _ r gd E0 (kb.to st us ws (by rw [← a3]; exact I.kIn) n1 n2) (kb.rel rv rz) hsp) fun res s' hq => ?_)
  cases res with
  | error ee => rw [← hP, ← hw] at hq; exact passAtW t σ pins H st ee s' I hq
  | ok fl => rw [← hP, ← hw] at hq; cases fl <;> first | exact I.after hq | exact hq.elim

/-- an __init__'s promise: from the values (behind self) to the fields -/
abbrev DInit := List D → Nat → (List (Str × D) → Nat → Prop) → (Er → Nat → Prop) → Prop
structure PostI (c : Wd) (a : Addr) (G H G' H' : Hp) (n' : Nat) : Prop where
  g : Le G G'
  le : Le G' H'
  h : ∀ b o, H b = some o → b ≠ c.p0 → b ≠ a → H' b = some o
  nw : ∀ b o, G' b = some o → G b = some o ∨ H b = none
  pn : PenOk c.K c.cs G' H' c.p0 n'
  pg : G' c.p0 = none
def liftInit (c : Wd) (C : Addr) (s : DInit) : Sp := fun vs H Q E => ∃ (a dx : Addr) (vs' : List V) (G : Hp) (ds : List D) (n : Nat) (P : List (Str × D) → Nat → Prop) (R : Er → Nat → Prop),
  vs = .ref a :: vs' ∧ H a = some (.ins C dx []) ∧ G a = none ∧ Le G H ∧ PenOk c.K c.cs G H c.p0 n ∧ G c.p0 = none ∧ RepL c.K c.p0 G vs' ds ∧ s ds n P R ∧
  (∀ fs n' fvs dx' G' H', P fs n' → PostI c a G H G' H' n' → H' a = some (.ins C dx' fvs) → RepF c.K c.p0 G' fvs fs → Q .non H') ∧
  (∀ er n' cls dd G' H', R er n' → PostI c a G H G' H' n' → ErRep c G' cls dd er → E cls dd H')
/-- a class as a callee -/
theorem callee_cls {c : Wd} {C f : Addr} {fd : FuncData} {ps ks : List Str} {n k : Nat} {gD gS : List D → List D → List D} {s : DInit} (M : Mk c.K C f) (F : FnG c k f fd ps (liftInit c C s))
    (b : Shape c fd ps (n + 1) ks gS) (hS : ∀ d r es, gS (d :: r) es = d :: gD r es) :
    Callee c (.ref C) ks (k + 1) (fun ds es m P R => ds.length = n ∧ s (gD ds es) m (fun fs m' => P (.ins C fs) m') R) := by
  refine ⟨M.kp, fun X W pins st σ H us ws vs zs Q a1 a2 a3 a4 a5 r gd t I rv rz e ⟨G, ds, es, m, P, R, b1, b2, b3, b4, b5, ⟨b6, b6'⟩, b7, b8⟩ => ?_⟩
  obtain ⟨g, gV, kb, hg⟩ := b.ex
  obtain ⟨hP, hw⟩ := (⟨a1, a2⟩ : X.prog = c.P ∧ X.w = c.w)
  have M' : Mk X.K C f := by rw [a3]; exact M
  -- the instance and its dict
  let xa := st.heap.objs.size + 1
  let da := st.heap.objs.size
  have fx : H xa = none := I.hok.fresh (Nat.le_succ _)
  have fx' : H da = none := I.hok.fresh (Nat.le_refl _)
  have nxd : da ≠ xa := Nat.ne_of_lt (Nat.lt_succ_self _)
  have J := Inv.made (C := C) I
  let H1 := upd (upd H da (.own xa)) xa (.ins C da [])
  have hH1 : ∀ q o, H q = some o → H1 q = some o := fun q o hq => by
    show upd (upd H da (.own xa)) xa _ q = _
    rw [upd_ne (ne_of_none hq fx), upd_ne (ne_of_none hq fx')]; exact hq
  have gx : G xa = none := by
    cases z : G xa with
    | none => rfl
    | some o => rw [b1 xa o z] at fx; cases fx
  obtain ⟨pc, pb, pr, pcs, p1, p2, p3, p4⟩ := id b2
  have pen1 : PenOk c.K c.cs G H1 c.p0 m := ⟨pc, pb, pr, pcs, hH1 _ _ p1, p2, p3, p4⟩
  have xne : xa ≠ c.p0 := fun z => by rw [z, p1] at fx; cases fx
  -- the values, as the parameters take them
  have selfR : RepL c.K c.p0 G (.ref xa :: vs) (.ref xa :: ds) := .cons (.ref xa) b4
  have full := hg G (.ref xa :: vs) zs (.ref xa :: ds) es selfR b5
  have full' : RepL c.K c.p0 G (gV (.ref xa :: vs) zs) (.ref xa :: gD ds es) := by rw [← hS]; exact full
  have n1 : (Value.ref xa :: us).length = n + 1 := by rw [List.length_cons, ← rv.length, b4.len, b6]
  have n2 : ws.length = ks.length := by rw [← rz.length, e]
  obtain ⟨vr, hvr, rvr⟩ : ∃ vr, gV (.ref xa :: vs) zs = .ref xa :: vr ∧ RepL c.K c.p0 G vr (gD ds es) := by
    revert full'
    generalize gV (.ref xa :: vs) zs = L
    intro full'
    cases full' with
    | cons q1 q2 => cases q1 with | ref _ => exact ⟨_, rfl, q2⟩
  have hsp : liftInit c C s (gV (.ref xa :: vs) zs) H1 (fun v H2 => v = .non ∧ Q (.ref xa) H2) (fun cls d H' => W cls d σ H') := by
    refine ⟨xa, da, vr, G, gD ds es, m, fun fs m' => P (.ins C fs) m', R, hvr, upd_same, gx, fun q o hq => hH1 q o (b1 q o hq), pen1, b3, rvr, b6', fun fs n' fvs dx' G' H' hp po ha hf => ⟨rfl, ?_⟩, fun er n' cls dd G' H' hr po hE => ?_⟩
    · have ga : G' xa = none ∨ ∃ o, G' xa = some o := by cases z : G' xa with | none => exact .inl rfl | some o => exact .inr ⟨o, rfl⟩
      have gn : G' xa = none := by
        rcases ga with z | ⟨o, z⟩
        · exact z
        · rcases po.nw _ _ z with y | y
          · rw [gx] at y; cases y
          · rw [show H1 xa = some (.ins C da []) from upd_same] at y; cases y
      have LL : Le G' (upd G' xa (.ins C dx' fvs)) := Le.new gn
      refine b7 (.ins C fs) n' (.ref xa) (upd G' xa (.ins C dx' fvs)) H' hp ⟨po.g.trans LL, fun q o hq => ?_, fun q o hq hq0 => ?_, fun q o hq => ?_, po.pn.mono LL rfl, by rw [upd_ne (Ne.symm xne)]; exact po.pg⟩ (.ins upd_same (hf.mono LL))
      · by_cases z : q = xa
        · subst z; rw [upd_same] at hq; cases hq; exact ha
        · rw [upd_ne z] at hq; exact po.le q o hq
      · exact po.h q o (hH1 q o hq) hq0 (ne_of_none hq fx)
      · by_cases z : q = xa
        · subst z; exact .inr fx
        · rw [upd_ne z] at hq
          rcases po.nw q o hq with y | y
          · exact .inl y
          · right
            cases y2 : H q with
            | none => rfl
            | some o2 => rw [hH1 q o2 y2] at y; cases y
    · refine b8 er n' cls dd G' H' hr ⟨po.g, po.le, fun q o hq hq0 => po.h q o (hH1 q o hq) hq0 (ne_of_none hq fx), fun q o hq => ?_, po.pn, po.pg⟩ hE
      rcases po.nw q o hq with y | y
      · exact .inl y
      · right
        cases y2 : H q with
        | none => rfl
        | some o2 => rw [hH1 q o2 y2] at y; cases y
  have rV : Vals (.ref xa :: vs) (Value.ref xa :: us) := .cons rfl rv
  have E0 := J.env0.make C us (ks.zip ws)
  rw [a1, a2, a3, a4, a5] at E0
  rw [hP, hw]
  refine wpAny_call (make_map (f := f) I.kIn M'.makes M'.init (beq_iff_eq.mp M'.fn) (codeAny_mono (F.run _ X.stack _ H1 ⟨Value.ref xa :: us, ks.zip ws⟩ (g (Value.ref xa :: us) ws) (gV (.ref xa :: vs) zs) _ _ (r.make C us (ks.zip ws)) (make_guards gd)
    E0 (kb.to _ (Value.ref xa :: us) ws (by rw [← a3]; exact J.kIn) n1 n2) (kb.rel rV rz) hsp) fun res s' hq => ?_))
  cases res with
  | error ee => rw [← hP, ← hw] at hq; exact passAtW t σ pins H1 _ ee s' J hq
  | ok fl =>
    cases fl with
    | ret u =>
      rw [← hP, ← hw] at hq
      obtain ⟨v, H', J', rv', ev, q3⟩ := J.after hq
      subst ev
      exact ⟨rv', ⟨V.ref xa, H', J', rfl, q3⟩⟩
    | next => exact hq.elim
    | brk => exact hq.elim
    | cont => exact hq.elim

/-! ### a call by a global name -/
section
variable {X : Cx} {c : Fr} {W : WX} {N : List Str} {sc : Scope} {k j : Nat} {bb : Bool} {e a b o : Expr} {es : List Expr} {pos apos p : Pos} {r ra rb : DTE} {rs rk : DTA} {kws : List Keyword} {ks : List Str} {s : DSp2} {fv : Value} {x : Str}
abbrev DK (X : Cx) (c : Fr) (W : WX) (kws : List Keyword) (r : DTA) : Prop := PK X kws (liftA c W r)
theorem pkI {e : List Keyword} {t t' : TA} (h : PK X e t) (k : ∀ σ H Q, t' σ H Q → t σ H Q) : PK X e t' := ⟨fun pos pins s σ H Q I q => h.run pos pins s σ H Q I (k σ H Q q)⟩
theorem dk_nil : DK X c W [] dNil := pkI pk_nil fun σ H Q ⟨G, δ, P, E, R, h, k, x⟩ => k _ _ _ G H h Go.refl R .nil
theorem dk_cons {nm : Option Str} {kpos : Pos} (ha : DE X c W e r) (hr : DK X c W kws rk) : DK X c W (⟨nm, e, kpos⟩ :: kws) (dCons r rk) :=
  pkI (pk_cons ha hr) fun σ H Q ⟨G, δ, P, E, R, h, kk, x⟩ => ⟨G, δ, _, E, R, h, fun d δ1 v G1 H1 p1 L1 R1 r1 =>
    ⟨G1, δ1, _, E, R1, p1, fun ds δ2 vs G2 H2 p2 L2 R2 r2 => kk _ _ _ G2 H2 p2 (L1.trans L2) R2 (.cons (r1.mono L2.g) r2), x.mono L1.g⟩, x⟩
/-- a call's reading: s of the values and the keywords' values -/
def dCall (s : DSp2) (rs rk : DTA) : DTE := fun δ P E => rs δ (fun ds δ1 => rk δ1 (fun zs δ2 => s ds zs δ2.fu (fun d n => P d { δ2 with fu := n }) (fun er n => E er { δ2 with fu := n })) E) E
def tCall2 (sp : Sp2) (W : WX) (nk : Nat) (t tk : TA) : TE := fun σ H Q => t σ H fun vs H1 => tk σ H1 fun zs H2 => zs.length = nk ∧ sp vs zs H2 Q (fun cls d H' => W cls d σ H')
theorem dcall_ok {σ : L2.St} {H : Hp} {Q : VK} {nk : Nat} (h : ∃ G δ P E, Rel c G H σ δ ∧ dCall s rs rk δ P E ∧ (∀ d δ' v G' H', P d δ' → Go c.p0 G H G' H' → Rel c G' H' σ δ' → Rep c.K c.p0 G' v d → Q v H') ∧ ExOk c W G σ E) (hl : ∀ ds zs n P R, s ds zs n P R → zs.length = nk) :
    tCall2 (liftSp2 c.toWd s) W nk (liftA c W rs) (liftA c W rk) σ H Q := by
  obtain ⟨G, δ, P, E, R, h, kk, x⟩ := h
  refine ⟨G, δ, _, E, R, h, fun ds δ1 vs G1 H1 p1 L1 R1 r1 => ⟨G1, δ1, _, E, R1, p1, fun zs δ2 us G2 H2 p2 L2 R2 r2 => ⟨by rw [r2.len]; exact hl _ _ _ _ _ p2, G2, ds, zs, δ2.fu, _, _, R2.le, R2.pn, R2.pg, r1.mono L2.g, r2, p2, fun d n' v G' H' q po rr => ?_, fun er n' cls dd G' H' q po rr => ?_⟩, x.mono L1.g⟩, x⟩
  · exact kk d _ v G' H' q ((L1.trans L2).trans po.go) (R2.post po) rr
  · exact x er _ cls dd G' H' q ((L1.trans L2).g.trans po.g) (R2.post po) rr
theorem xb_room (B : XB X c W N sc k bb) (h : j ≤ k) : Room j X.A := B.room.mono h
theorem runC (B : XB X c W N sc k bb) (hc : Callee c.toWd fv ks j s) (hj : j ≤ k) {pins : List (Addr × Obj)} {st : Shared} {σ : L2.St} {H : Hp} {us ws : List Value} {vs zs : List V} {Q : VK} (I : Inv X pins σ H st) (rv : Vals vs us) (rz : Vals zs ws) (e : zs.length = ks.length)
    (h : liftSp2 c.toWd s vs zs H Q (fun cls d H' => W cls d σ H')) : wpAny (model X.prog X.w) X.A (call fv us (ks.zip ws)) (EP X pins σ Q) X.xe st :=
  hc.run X W pins st σ H us ws vs zs Q B.hP B.hw B.hK B.hm B.hb (B.room.mono hj) B.gd B.tk I rv rz e h
theorem keepX (B : XB X c W N sc k bb) (hc : Callee c.toWd fv ks j s) : PySem.W.keepIn X.K fv = true := by rw [B.hK]; exact hc.keeper
theorem glX (B : XB X c W N sc k bb) (hg : sc.names.lookup x = some .globalImplicit) : Gl X x := by show X.env.scope.names.lookup x = _; rw [B.hs]; exact hg
/-- f(e, ..) -/
theorem de_call (B : XB X c W N sc k bb) (hm : c.mg x = some fv) (hc : Callee c.toWd fv [] j s) (hj : j ≤ k) (hg : sc.names.lookup x = some .globalImplicit) (ha : DA X c W (e :: es) rs)
    (hdb : (x == ("__debug__" : Str)) = false := by decide) (he : starEach (e :: es) X.env = (false, eval e X.env) :: starEach es X.env := by rfl) (hpl : (backTo pos (starEach es X.env)).any (·.1) = false := by rfl) :
    DE X c W (.Call (.Name x p) (e :: es) [] pos) (dCall (fun ds zs n P R => zs = [] ∧ s ds [] n P R) rs dNil) := by
  refine ⟨fun pins st σ H Q I h => ?_⟩
  obtain ⟨G, δ, P, E, R, h, kk, xx⟩ := h
  refine wpAny_Call_Name_kw (ld_glob I (glX B hg) (by rw [B.hm]; exact hm) ?_ hdb)
  refine PySem.W.callWith_K (h₀ := X.base) I.ok.mod.kin (keepX B hc) (thn (ha.run pos pins st σ H (fun vs H1 => liftSp2 c.toWd s vs [] H1 Q fun cls d H' => W cls d σ H') I ⟨G, δ, _, E, R, h, fun ds δ1 vs G1 H1 p1 L1 R1 r1 => ?_, xx⟩) fun us s1 ⟨vs, H1, I1, rv, q⟩ => ⟨I1.kIn, ?_⟩) he hpl
  · exact ⟨G1, ds, [], δ1.fu, _, _, R1.le, R1.pn, R1.pg, r1, .nil, p1.2, fun d n' v G' H' q po rr => kk d _ v G' H' q (L1.trans po.go) (R1.post po) rr, fun er n' cls dd G' H' q po rr => xx er _ cls dd G' H' q (L1.g.trans po.g) (R1.post po) rr⟩
  · exact runC B hc hj I1 rv .nil rfl q
/-- f() -/
theorem de_call0 (B : XB X c W N sc k bb) (hm : c.mg x = some fv) (hc : Callee c.toWd fv [] j s) (hj : j ≤ k) (hg : sc.names.lookup x = some .globalImplicit)
    (hdb : (x == ("__debug__" : Str)) = false := by decide) : DE X c W (.Call (.Name x p) [] [] pos) (dCall (fun ds zs n P R => zs = [] ∧ s ds [] n P R) dNil dNil) := by
  refine ⟨fun pins st σ H Q I h => ?_⟩
  obtain ⟨G, δ, P, E, R, h, kk, xx⟩ := h
  refine wpAny_Call_Name_kw (ld_glob I (glX B hg) (by rw [B.hm]; exact hm) ?_ hdb)
  refine PySem.W.callWith_K0 I.kIn (keepX B hc) (runC (us := []) (ws := []) B hc hj I .nil .nil rfl ?_)
  exact ⟨G, [], [], δ.fu, _, _, R.le, R.pn, R.pg, .nil, .nil, h.2, fun d n' v G' H' q po rr => kk d _ v G' H' q po.go (R.post po) rr, fun er n' cls dd G' H' q po rr => xx er _ cls dd G' H' q po.g (R.post po) rr⟩
/-- f(e, .., k = v, ..) -/
theorem de_callK (B : XB X c W N sc k bb) (hm : c.mg x = some fv) (hc : Callee c.toWd fv ks j s) (hj : j ≤ k) (hg : sc.names.lookup x = some .globalImplicit) (ha : DA X c W (e :: es) rs) (hk : DK X c W kws rk)
    (hall : (backToKw pos (keywordEach kws X.env)).all (·.1.isSome) = true := by rfl) (hks : (backToKw pos (keywordEach kws X.env)).filterMap (·.1) = ks := by rfl)
    (hdb : (x == ("__debug__" : Str)) = false := by decide) (he : starEach (e :: es) X.env = (false, eval e X.env) :: starEach es X.env := by rfl)
    (hpl : ((backTo pos (starEach (e :: es) X.env)).any (·.1) || (backToKw pos (keywordEach kws X.env)).any (·.1.isNone)) = false := by rfl) :
    DE X c W (.Call (.Name x p) (e :: es) kws pos) (dCall (fun ds zs n P R => zs.length = ks.length ∧ s ds zs n P R) rs rk) := by
  refine ⟨fun pins st σ H Q I h => ?_⟩
  obtain ⟨G, δ, P, E, R, h, kk, xx⟩ := h
  refine wpAny_Call_Name_kw (ld_glob I (glX B hg) (by rw [B.hm]; exact hm) ?_ hdb)
  refine PySem.W.callWith_KW (h₀ := X.base) I.ok.mod.kin (keepX B hc) hall (thn (ha.run pos pins st σ H (fun vs H1 => liftA c W rk σ H1 fun zs H2 => zs.length = ks.length ∧ liftSp2 c.toWd s vs zs H2 Q fun cls d H' => W cls d σ H') I ⟨G, δ, _, E, R, h, fun ds δ1 vs G1 H1 p1 L1 R1 r1 => ?_, xx⟩) fun us s1 ⟨vs, H1, I1, rv, q⟩ => ?_) hpl he
  · exact ⟨G1, δ1, _, E, R1, p1, fun zs δ2 us G2 H2 p2 L2 R2 r2 => ⟨by rw [r2.len]; exact p2.1, G2, ds, zs, δ2.fu, _, _, R2.le, R2.pn, R2.pg, r1.mono L2.g, r2, p2.2, fun d n' v G' H' q po rr => kk d _ v G' H' q ((L1.trans L2).trans po.go) (R2.post po) rr, fun er n' cls dd G' H' q po rr => xx er _ cls dd G' H' q ((L1.trans L2).g.trans po.g) (R2.post po) rr⟩, xx.mono L1.g⟩
  · refine thn (hk.run pos pins s1 σ H1 _ I1 q) fun ws s2 ⟨zs, H2, I2, rz, e2, q2⟩ => ⟨I2.kIn, ?_⟩
    rw [hks]
    exact runC B hc hj I2 rv rz e2 q2
/-- f(k = v, ..) -/
theorem de_callK0 (B : XB X c W N sc k bb) (hm : c.mg x = some fv) (hc : Callee c.toWd fv ks j s) (hj : j ≤ k) (hg : sc.names.lookup x = some .globalImplicit) (hk : DK X c W kws rk)
    (hall : (backToKw pos (keywordEach kws X.env)).all (·.1.isSome) = true := by rfl) (hks : (backToKw pos (keywordEach kws X.env)).filterMap (·.1) = ks := by rfl)
    (hdb : (x == ("__debug__" : Str)) = false := by decide)
    (hpl : ((backTo pos (starEach [] X.env)).any (·.1) || (backToKw pos (keywordEach kws X.env)).any (·.1.isNone)) = false := by rfl) :
    DE X c W (.Call (.Name x p) [] kws pos) (dCall (fun ds zs n P R => zs.length = ks.length ∧ s ds zs n P R) dNil rk) := by
  refine ⟨fun pins st σ H Q I h => ?_⟩
  obtain ⟨G, δ, P, E, R, h, kk, xx⟩ := h
  refine wpAny_Call_Name_kw (ld_glob I (glX B hg) (by rw [B.hm]; exact hm) ?_ hdb)
  refine PySem.W.callWith_KW0 (h₀ := X.base) I.ok.mod.kin (keepX B hc) hall (thn (hk.run pos pins st σ H (fun zs H2 => zs.length = ks.length ∧ liftSp2 c.toWd s [] zs H2 Q fun cls d H' => W cls d σ H') I ⟨G, δ, _, E, R, h, fun zs δ2 us G2 H2 p2 L2 R2 r2 => ?_, xx⟩) fun ws s2 ⟨zs, H2, I2, rz, e2, q2⟩ => ⟨I2.kIn, ?_⟩) hpl
  · exact ⟨by rw [r2.len]; exact p2.1, G2, [], zs, δ2.fu, _, _, R2.le, R2.pn, R2.pg, .nil, r2, p2.2, fun d n' v G' H' q po rr => kk d _ v G' H' q (L2.trans po.go) (R2.post po) rr, fun er n' cls dd G' H' q po rr => xx er _ cls dd G' H' q (L2.g.trans po.g) (R2.post po) rr⟩
  · rw [hks]
    exact runC (us := []) B hc hj I2 .nil rz e2 q2

/-! ### attributes -/
structure CA (c : Wd) (C : Addr) (f : Str) : Prop where
  cl : Cls c.K C
  na : NoAttr c.K C f
def dFld (c : Wd) (f : Str) (r : DTE) : DTE := fun δ P E => r δ (fun d δ1 => match d with
  | .ins C fs => CA c C f ∧ (match fs.lookup f with
    | some x => P x δ1
    | none => False)
  | _ => False) E
theorem de_fld {f : Str} (B : XB X c W N sc k bb) (he : DE X c W e r) (hb : attributeBase e f X.env (eval e X.env) = eval e X.env := by rfl) : DE X c W (.Attribute e f pos) (dFld c.toWd f r) :=
  peI (pe_fld he hb) fun σ H Q ⟨G, δ, P, E, R, h, kk, x⟩ => ⟨G, δ, _, E, R, h, fun d δ1 v G1 H1 p L R1 rr => by
    cases rr with
    | ins h1 rf =>
      obtain ⟨ca, p⟩ := p
      revert p
      generalize hq : List.lookup f _ = q
      intro p
      cases q with
      | none => exact p.elim
      | some y =>
        obtain ⟨u, hu, ru⟩ := rf.look hq
        exact ⟨_, _, _, _, u, rfl, R1.le _ _ h1, by rw [B.hK]; exact ca.cl, by rw [B.hK]; exact ca.na, hu, kk y δ1 u G1 H1 p L R1 ru⟩
    | _ => exact p.elim, x⟩
/-- in an __init__: self.f, self.f = e -/
def dSelfFld (c : Wd) (i : Nat) (f : Str) : DTE := fun δ P _ => match δ.sl[i]? with
  | some (.self C fs) => CA c C f ∧ (match fs.lookup f with
    | some x => P x δ
    | none => False)
  | _ => False
theorem de_self {f x : Str} {i : Nat} (B : XB X c W N sc k bb) (hN : N[i]? = some x) (hv : Vis sc x) (hb : attributeBase (.Name x p) f X.env (eval (.Name x p) X.env) = eval (.Name x p) X.env := by rfl) (hd : (x == ("__debug__" : Str)) = false := by decide) (hcd : (x == ("__classdict__" : Str)) = false := by decide) :
    DE X c W (.Attribute (.Name x p) f pos) (dSelfFld c.toWd i f) := by
  refine peI (pe_fld (pe_var (i := i) (by rw [B.hN]; exact hN) (by rw [B.hs]; exact hv) hd hcd) hb) fun σ H Q ⟨G, δ, P, E, R, h, kk, xx⟩ => ?_
  unfold dSelfFld at h
  revert h
  cases e : δ.sl[i]? with
  | none => intro h; exact h.elim
  | some s =>
    have hs := R.sl i s e
    cases s with
    | self C fs =>
      rintro ⟨ca, h⟩
      obtain ⟨a, dx, vs, h1, h2, h3, hmu, h4⟩ := hs
      revert h
      generalize hq : List.lookup f fs = q
      intro h
      cases q with
      | none => exact h.elim
      | some y =>
        obtain ⟨u, hu, ru⟩ := h4.look hq
        exact ⟨_, at_some h1, _, _, _, _, u, rfl, h2, by rw [B.hK]; exact ca.cl, by rw [B.hK]; exact ca.na, hu, kk y δ u G H h Go.refl R ru⟩
    | _ => intro h; exact h.elim
/-- fields put, in data -/
def putD (f : Str) (v : D) : List (Str × D) → List (Str × D)
  | [] => [(f, v)]
  | (g, w) :: r => if g = f then (g, v) :: r else (g, w) :: putD f v r
theorem RepF.put {K : PySem.W.Frag} {p0 : Addr} {G : Hp} {f : Str} {v : V} {d : D} (h : Rep K p0 G v d) : ∀ {vs : List (Str × V)} {ds : List (Str × D)}, RepF K p0 G vs ds → RepF K p0 G (putF f v vs) (putD f d ds)
  | _, _, .nil => .cons h .nil
  | _, _, .cons (k := g) a b => by
    unfold putF putD
    by_cases q : g = f
    · rw [if_pos q, if_pos q]; exact .cons h b
    · rw [if_neg q, if_neg q]; exact .cons a (RepF.put h b)
/-- the frame's own instance changes -/
theorem Rel.self {G H : Hp} {σ : L2.St} {δ : S} (R : Rel c G H σ δ) {i : Nat} {C a dx : Addr} {fs fs' : List (Str × D)} {vs vs' : List (Str × V)} (hs : δ.sl[i]? = some (.self C fs)) (h1 : at_ σ i = some (.ref a)) (h2 : H a = some (.ins C dx vs)) (m : Mine c G a) (ha : a ∈ c.mu) (hf : RepF c.K c.p0 G vs' fs') :
    Rel c G (upd H a (.ins C dx vs')) σ { δ with sl := δ.sl.set i (.self C fs') } := by
  have hl : i < δ.sl.length := (List.getElem?_eq_some_iff.mp hs).1
  refine ⟨fun b u e => ?_, R.g0, fun b u e hb => ?_, fun b u e => ?_, R.nw, R.pm, R.pn.mono (Le.refl _) (by rw [upd_ne (Ne.symm m.2.2)]), R.pg, by simp [R.len], fun j s h => ?_, fun j k b s1 t1 ne g1 g2 o1 o2 a1 a2 => ?_⟩
  · have ne : b ≠ a := fun z => by rw [z, m.1] at e; cases e
    rw [upd_ne ne]; exact R.le b u e
  · have ne : b ≠ a := fun z => hb (z ▸ ha)
    rw [upd_ne ne]; exact R.h0 b u e hb
  · by_cases ne : b = a
    · subst ne; exact ⟨_, upd_same⟩
    · rw [upd_ne ne]; exact R.ht b u e
  · by_cases q : j = i
    · subst q
      rw [List.getElem?_set_self hl] at h; cases h
      exact ⟨a, dx, vs', h1, upd_same, m, ha, hf⟩
    · rw [List.getElem?_set_ne (Ne.symm q)] at h
      have h' := R.sl j s h
      have nn : ∀ {d}, isOwn s = true → at_ σ j = some (.ref d) → d ≠ a := fun {d} os hd z => R.uq j i a s _ q h hs os rfl (z ▸ hd) h1
      cases s with
      | un => trivial
      | d y => exact h'
      | own xs => obtain ⟨d, ws, k1, k2, k3, k4⟩ := h'; exact ⟨d, ws, k1, by rw [upd_ne (nn rfl k1)]; exact k2, k3, k4⟩
      | ownK xs => obtain ⟨d, ws, k1, k2, k3, k4⟩ := h'; exact ⟨d, ws, k1, by rw [upd_ne (nn rfl k1)]; exact k2, k3, k4⟩
      | self C2 f2 => obtain ⟨d, dy, ws, k1, k2, k3, k4⟩ := h'; exact ⟨d, dy, ws, k1, by rw [upd_ne (nn rfl k1)]; exact k2, k3, k4⟩
  · have back : ∀ {j s}, (δ.sl.set i (.self C fs'))[j]? = some s → isOwn s = true → ∃ s0, δ.sl[j]? = some s0 ∧ isOwn s0 = true := fun {j s} h o => by
      by_cases q : j = i
      · subst q; exact ⟨_, hs, rfl⟩
      · rw [List.getElem?_set_ne (Ne.symm q)] at h; exact ⟨s, h, o⟩
    obtain ⟨s0, p1, p2⟩ := back g1 o1
    obtain ⟨t0, q1, q2⟩ := back g2 o2
    exact R.uq j k b s0 t0 ne p1 q1 p2 q2 a1 a2
def dSelfSet (c : Wd) (i : Nat) (f : Str) (r : DTE) : DTS := fun N δ => r δ (fun d δ1 => match δ1.sl[i]? with
  | some (.self C fs) => CA c C f ∧ fs.length < 1000 ∧ N.nx { δ1 with sl := δ1.sl.set i (.self C (putD f d fs)) }
  | _ => False) N.ex
theorem ds_self {f x : Str} {i : Nat} {pos' : Pos} (B : XB X c W N sc k bb) (hN : N[i]? = some x) (hv : Vis sc x) (he : DE X c W e r)
    (hs : swapsWith e (some (.Attribute (.Name x p) f pos')) pos.line X.env = pure false := by rfl) (hd : (x == ("__debug__" : Str)) = false := by decide) (hcd : (x == ("__classdict__" : Str)) = false := by decide) : DS X c W (.Assign [.Attribute (.Name x p) f pos'] e pos) (dSelfSet c.toWd i f r) :=
  psI (ps_fld (pe_var (i := i) (by rw [B.hN]; exact hN) (by rw [B.hs]; exact hv) hd hcd) he hs) fun D σ H ⟨G, δ, N, R, h, n⟩ => ⟨G, δ, _, N.ex, R, h, fun d δ1 v G1 H1 p1 L1 R1 r1 => by
    revert p1
    cases e : δ1.sl[i]? with
    | none => intro h; exact h.elim
    | some s =>
      have hs := R1.sl i s e
      cases s with
      | self C fs =>
        rintro ⟨ca, hl, hn⟩
        obtain ⟨a, dx, vs, h1, h2, h3, hmu, h4⟩ := hs
        exact ⟨_, at_some h1, _, _, _, _, rfl, h2, by rw [B.hK]; exact ca.cl, by rw [B.hK]; exact ca.na, by rw [h4.len]; exact hl, n.nx _ G1 _ σ hn L1.g (Rel.self R1 e h1 h2 h3 hmu (RepF.put r1 h4))⟩
      | _ => intro h; exact h.elim, exOf n⟩
end
end DL

/-! DL4: a def by its body; an __init__ by its body; methods; comprehensions. -/
namespace DL
open PySem L2 PySem.Spec PyProof.Rows

def fnN (P : D → Nat → Prop) (R : Er → Nat → Prop) : DN := { nx := fun δ => P .non δ.fu, rt := fun d δ => P d δ.fu, bk := fun _ => False, ct := fun _ => False, ex := fun er δ => R er δ.fu }
def startS (N : List Str) (ds : List D) (n : Nat) : S := ⟨ds.map .d ++ List.replicate (N.length - ds.length) .un, n⟩
theorem at_start {N : List Str} {vs : List V} {i : Nat} {v : V} (h : vs[i]? = some v) : at_ (L2.start N vs) i = some v := by
  have hi : i < vs.length := (List.getElem?_eq_some_iff.mp h).1
  unfold at_ L2.start
  rw [List.getElem?_append_left (by simpa using hi), List.getElem?_map, h]
  rfl
theorem startS_get {N : List Str} {ds : List D} {n i : Nat} {s : Sl} (h : (startS N ds n).sl[i]? = some s) : (∃ x, ds[i]? = some x ∧ s = .d x) ∨ s = .un := by
  unfold startS at h
  simp only at h
  by_cases hi : i < ds.length
  · rw [List.getElem?_append_left (by simpa using hi), List.getElem?_map] at h
    cases e : ds[i]? with
    | none => rw [e] at h; cases h
    | some x => rw [e] at h; cases h; exact .inl ⟨x, rfl, rfl⟩
  · rw [List.getElem?_append_right (by simpa using hi), List.getElem?_replicate] at h
    split at h
    · cases h; exact .inr rfl
    · cases h
theorem rel_start {c : Wd} {G H : Hp} {N : List Str} {vs : List V} {ds : List D} {n : Nat} (le : Le G H) (pn : PenOk c.K c.cs G H c.p0 n) (pg : G c.p0 = none) (r : RepL c.K c.p0 G vs ds) : Rel (frOf c G H [c.p0]) G H (L2.start N vs) (startS N ds n) := by
  refine ⟨le, Le.refl _, fun _ _ h _ => h, fun a o h => ⟨o, h⟩, fun _ _ h => .inl h, by simp, pn, pg, ?_, fun i s h => ?_, fun i j a s t _ h1 h2 o1 _ _ _ => ?_⟩
  · unfold L2.start startS
    simp [r.len]
  · rcases startS_get h with ⟨x, hx, rfl⟩ | rfl
    · obtain ⟨u, h1, h2⟩ := r.get hx
      exact ⟨u, at_start h1, h2⟩
    · trivial
  · rcases startS_get h1 with ⟨x, hx, rfl⟩ | rfl <;> cases o1
section
variable {c : Wd} {name qual : Str} {params : Arguments} {body : List Stmt} {scope : Scope} {dvs : List V} {kws : List (Str × V)} {f : Addr} {fd : FuncData} {N ps : List Str} {k : Nat} {t : DTS}
/-- THE RULE for a def: its body's derivation, its reading -/
theorem fn_ok {sp : DSp} (F : FunD c.K name qual params body scope dvs kws f fd) (S : FnScope N ps scope) (len : ∀ ds n P R, sp ds n P R → ds.length = ps.length)
    (hb : ∀ (X : Cx) (cf : Fr) (W : WX), cf.toWd = c → XB X cf W N scope k false → DSs X cf W body t)
    (hr : ∀ ds n P R, sp ds n P R → t (fnN P R) (startS N ds n)) : FnG c (k + 1) f fd ps (liftSp c sp) := by
  refine fnG_of F S (fun vs H Q E h => ?_) fun cdv A outer s H vs Q E room gd h => ?_
  · obtain ⟨G, ds, n, P, R, b1, b2, b3, b4, b5, _⟩ := h
    rw [b4.len]; exact len ds n P R b5
  · obtain ⟨G, ds, n, P, R, b1, b2, b3, b4, b5, b6, b7⟩ := h
    have tk := takes_of (X := cxOf (L2.CX c.P c.w) c.P c.w c.K c.mg c.base N qual scope f cdv A outer s H E) (E := E) rfl rfl rfl rfl
    refine ⟨_, hb _ (frOf c G H [c.p0]) (fun cls dd _ H' => E cls dd H') rfl ⟨rfl, rfl, rfl, rfl, rfl, rfl, S.nd, rfl, rfl, room, gd, tk, passes_of rfl, fun _ _ => rfl⟩, G, startS N ds n, fnN P R, rel_start b1 b2 b3 b4, hr ds n P R b5, ?_⟩
    have po : ∀ {δ' G' H' σ'}, Le G G' → Rel (frOf c G H [c.p0]) G' H' σ' δ' → Post c.K c.cs c.p0 G H G' H' δ'.fu := fun {δ' G' H' σ'} L R' =>
      ⟨L, R'.le, fun a o h ne => R'.h0 a o h (by simpa using ne), R'.nw, R'.pn, R'.pg⟩
    exact ⟨fun δ' G' H' σ' p L R' => b6 .non _ _ _ _ p (po L R') .non, fun d δ' v G' H' σ' p L R' rr => b6 d _ v _ _ p (po L R') rr, fun _ _ _ _ p => p.elim, fun _ _ _ _ p => p.elim,
      fun er δ' cls dd G' H' σ' p L R' he => b7 er _ cls dd _ _ p (po L R') he⟩
/-- an __init__: its self in slot 0 -/
def startI (C : Addr) (N : List Str) (ds : List D) (n : Nat) : S := ⟨.self C [] :: (ds.map .d ++ List.replicate (N.length - 1 - ds.length) .un), n⟩
def endI (C : Addr) (P : List (Str × D) → Nat → Prop) (δ : S) : Prop := match (δ.sl[(0 : Nat)]? : Option Sl) with
  | some (.self C' fs) => C' = C ∧ P fs δ.fu
  | _ => False
def inN (C : Addr) (P : List (Str × D) → Nat → Prop) (R : Er → Nat → Prop) : DN :=
  { nx := endI C P, rt := fun d δ => (match d with | .non => True | _ => False) ∧ endI C P δ, bk := fun _ => False, ct := fun _ => False, ex := fun er δ => R er δ.fu }
theorem endI_get {C : Addr} {P : List (Str × D) → Nat → Prop} {δ : S} (h : endI C P δ) : ∃ fs, δ.sl[0]? = some (.self C fs) ∧ P fs δ.fu := by
  unfold endI at h
  revert h
  cases e : (δ.sl[(0 : Nat)]? : Option Sl) with
  | none => intro h; exact h.elim
  | some s =>
    cases s with
    | self C' fs => rintro ⟨rfl, h⟩; exact ⟨fs, rfl, h⟩
    | _ => intro h; exact h.elim
theorem startI_get {C : Addr} {N : List Str} {ds : List D} {n i : Nat} {s : Sl} (h : (startI C N ds n).sl[i]? = some s) : (i = 0 ∧ s = .self C []) ∨ (∃ j x, i = j + 1 ∧ ds[j]? = some x ∧ s = .d x) ∨ s = .un := by
  unfold startI at h
  cases i with
  | zero => simp at h; exact .inl ⟨rfl, h.symm⟩
  | succ j =>
    rw [List.getElem?_cons_succ] at h
    right
    by_cases hi : j < ds.length
    · rw [List.getElem?_append_left (by simpa using hi), List.getElem?_map] at h
      cases e : ds[j]? with
      | none => rw [e] at h; cases h
      | some x => rw [e] at h; cases h; exact .inl ⟨j, x, rfl, e, rfl⟩
    · rw [List.getElem?_append_right (by simpa using hi), List.getElem?_replicate] at h
      split at h
      · cases h; exact .inr rfl
      · cases h
theorem rel_startI {G H : Hp} {a dx C : Addr} {vs : List V} {ds : List D} {n : Nat} (hN : 0 < N.length) (ha : H a = some (.ins C dx [])) (ga : G a = none) (le : Le G H) (pn : PenOk c.K c.cs G H c.p0 n) (pg : G c.p0 = none) (r : RepL c.K c.p0 G vs ds) :
    Rel (frOf c G H [c.p0, a]) G H (L2.start N (.ref a :: vs)) (startI C N ds n) := by
  have ne : a ≠ c.p0 := fun z => by
    obtain ⟨_, _, _, _, q, _⟩ := pn
    rw [← z, ha] at q; cases q
  refine ⟨le, Le.refl _, fun _ _ h _ => h, fun a o h => ⟨o, h⟩, fun _ _ h => .inl h, by simp, pn, pg, ?_, fun i s h => ?_, fun i j b s t nij h1 h2 o1 o2 _ _ => ?_⟩
  · unfold L2.start startI
    simp [r.len]; omega
  · rcases startI_get h with ⟨rfl, rfl⟩ | ⟨j, x, rfl, hx, rfl⟩ | rfl
    · exact ⟨a, dx, [], at_start rfl, ha, ⟨ga, .inr (by simp), ne⟩, by simp, .nil⟩
    · obtain ⟨u, h1, h2⟩ := r.get hx
      exact ⟨u, at_start (by simpa using h1), h2⟩
    · trivial
  · have z : ∀ {i s}, (startI C N ds n).sl[i]? = some s → isOwn s = true → i = 0 := fun {i s} h o => by
      rcases startI_get h with ⟨rfl, rfl⟩ | ⟨j, x, rfl, hx, rfl⟩ | rfl
      · rfl
      · cases o
      · cases o
    exact nij ((z h1 o1).trans (z h2 o2).symm)
/-- THE RULE for an __init__ -/
theorem init_ok {C : Addr} {sp : DInit} (F : FunD c.K name qual params body scope dvs kws f fd) (S : FnScope N ps scope) (hN : 0 < N.length) (len : ∀ ds n P R, sp ds n P R → ds.length + 1 = ps.length)
    (hb : ∀ (X : Cx) (cf : Fr) (W : WX), cf.toWd = c → XB X cf W N scope k false → DSs X cf W body t)
    (hr : ∀ ds n P R, sp ds n P R → t (inN C P R) (startI C N ds n)) : FnG c (k + 1) f fd ps (liftInit c C sp) := by
  refine fnG_of F S (fun vs H Q E h => ?_) fun cdv A outer s H vs Q E room gd h => ?_
  · obtain ⟨a, dx, vs', G, ds, n, P, R, rfl, b1, b2, b3, b4, b5, b6, b7, _⟩ := h
    rw [List.length_cons, b6.len]; exact len ds n P R b7
  · obtain ⟨a, dx, vs', G, ds, n, P, R, rfl, b1, b2, b3, b4, b5, b6, b7, b8, b9⟩ := h
    have tk := takes_of (X := cxOf (L2.CX c.P c.w) c.P c.w c.K c.mg c.base N qual scope f cdv A outer s H E) (E := E) rfl rfl rfl rfl
    refine ⟨_, hb _ (frOf c G H [c.p0, a]) (fun cls dd _ H' => E cls dd H') rfl ⟨rfl, rfl, rfl, rfl, rfl, rfl, S.nd, rfl, rfl, room, gd, tk, passes_of rfl, fun _ _ => rfl⟩, G, startI C N ds n, inN C P R, rel_startI hN b1 b2 b3 b4 b5 b6, hr ds n P R b7, ?_⟩
    have po : ∀ {δ' G' H' σ'}, Le G G' → Rel (frOf c G H [c.p0, a]) G' H' σ' δ' → PostI c a G H G' H' δ'.fu := fun {δ' G' H' σ'} L R' =>
      ⟨L, R'.le, fun q o h n1 n2 => R'.h0 q o h (by simp only [List.mem_cons, List.not_mem_nil, or_false, not_or]; exact ⟨n1, n2⟩), R'.nw, R'.pn, R'.pg⟩
    have fin : ∀ {δ' G' H' σ'}, Le G G' → Rel (frOf c G H [c.p0, a]) G' H' σ' δ' → endI C P δ' → Q .non H' := fun {δ' G' H' σ'} L R' he => by
      obtain ⟨fs, e, p⟩ := endI_get he
      obtain ⟨a', dx', fvs, h1, h2, h3, h4, h5⟩ := R'.sl 0 _ e
      have e2 : a' = a := by
        have h4 : a' ∈ [c.p0, a] := h4
        simp only [List.mem_cons, List.not_mem_nil, or_false] at h4
        rcases h4 with z | z
        · exact absurd z h3.2.2
        · exact z
      subst e2
      exact b8 fs _ fvs dx' G' H' p (po L R') h2 h5
    refine ⟨fun δ' G' H' σ' p L R' => fin L R' p, fun d δ' v G' H' σ' p L R' rr => ?_, fun _ _ _ _ p => p.elim, fun _ _ _ _ p => p.elim, fun er δ' cls dd G' H' σ' p L R' he => b9 er _ cls dd _ _ p (po L R') he⟩
    cases rr with
    | non => exact fin L R' p.2
    | _ => exact p.1.elim
end
end DL

/-! DLE: == of plain data, dicts among them. -/
namespace PySem.SeqAt
open AutoSeq1 (wpAny_loadPart')
open MeetsSeq
/-- == of two values by their rich comparison: k, and nothing changes -/
def RcP (prog : Program) (w : World) (A : Around) (s : Shared) (a b : Value) (k : Bool) : Prop := ∀ (E Q : Value → Shared → Prop), Q (.bool k) s → wpAny (model prog w) A (richCompare .Eq a b) Q E s
/-- a dict stands at a -/
def IsDic (h : Heap) (a : Addr) : Prop := ∃ (es : Array DictEntry) (ep : Nat) (dd : Option Addr) (sl : Array (Option Value)), h.get? a = some { cls := .type "dict", dict := dd, data := .dict es ep, slots := sl }

theorem dict_declines_none (a : Addr) (es : Array DictEntry) (ep : Nat) (dd : Option Addr) (sl : Array (Option Value))  :
    Meets (Builtin.«dict.__eq__» ⟨[.ref a, .none], []⟩) (fun _ R s => s.heap.get? a = some { cls := .type "dict", dict := dd, data := .dict es ep, slots := sl } ∧ R (.ok (.ret .notImplemented)) s) :=
  .of_wp fun prog w A R s h => by obtain ⟨hp, g, d, tk, os⟩ := s; obtain ⟨hl, h⟩ := h; have f1 := F.sub_NoneType_dict; have f2 := F.sub_dict_dict; wp_walk using wpAny_loadPart' hl, wpAny_load hl; exact ⟨_, rfl, h⟩
theorem none_declines_dict (a : Addr) (es : Array DictEntry) (ep : Nat) (dd : Option Addr) (sl : Array (Option Value))  :
    Meets (Builtin.«NoneType.__eq__» ⟨[.none, .ref a], []⟩) (fun _ R s => s.heap.get? a = some { cls := .type "dict", dict := dd, data := .dict es ep, slots := sl } ∧ R (.ok (.ret .notImplemented)) s) :=
  .of_wp fun prog w A R s h => by obtain ⟨hp, g, d, tk, os⟩ := s; obtain ⟨hl, h⟩ := h; wp_walk using wpAny_loadPart' hl, wpAny_load hl; exact ⟨_, rfl, h⟩
theorem dict_declines_bool (a : Addr) (es : Array DictEntry) (ep : Nat) (dd : Option Addr) (sl : Array (Option Value)) (b : Bool) :
    Meets (Builtin.«dict.__eq__» ⟨[.ref a, .bool b], []⟩) (fun _ R s => s.heap.get? a = some { cls := .type "dict", dict := dd, data := .dict es ep, slots := sl } ∧ R (.ok (.ret .notImplemented)) s) :=
  .of_wp fun prog w A R s h => by obtain ⟨hp, g, d, tk, os⟩ := s; obtain ⟨hl, h⟩ := h; have f1 := F.sub_bool_dict; have f2 := F.sub_dict_dict; wp_walk using wpAny_loadPart' hl, wpAny_load hl; exact ⟨_, rfl, h⟩
theorem bool_declines_dict (a : Addr) (es : Array DictEntry) (ep : Nat) (dd : Option Addr) (sl : Array (Option Value)) (b : Bool) :
    Meets (Builtin.«int.__eq__» ⟨[.bool b, .ref a], []⟩) (fun _ R s => s.heap.get? a = some { cls := .type "dict", dict := dd, data := .dict es ep, slots := sl } ∧ R (.ok (.ret .notImplemented)) s) :=
  .of_wp fun prog w A R s h => by obtain ⟨hp, g, d, tk, os⟩ := s; obtain ⟨hl, h⟩ := h; wp_walk using wpAny_loadPart' hl, wpAny_load hl; exact ⟨_, rfl, h⟩
theorem dict_declines_int (a : Addr) (es : Array DictEntry) (ep : Nat) (dd : Option Addr) (sl : Array (Option Value)) (b : Int) (u : Tok) :
    Meets (Builtin.«dict.__eq__» ⟨[.ref a, .int b u], []⟩) (fun _ R s => s.heap.get? a = some { cls := .type "dict", dict := dd, data := .dict es ep, slots := sl } ∧ R (.ok (.ret .notImplemented)) s) :=
  .of_wp fun prog w A R s h => by obtain ⟨hp, g, d, tk, os⟩ := s; obtain ⟨hl, h⟩ := h; have f1 := F.sub_int_dict; have f2 := F.sub_dict_dict; wp_walk using wpAny_loadPart' hl, wpAny_load hl; exact ⟨_, rfl, h⟩
theorem int_declines_dict (a : Addr) (es : Array DictEntry) (ep : Nat) (dd : Option Addr) (sl : Array (Option Value)) (b : Int) (u : Tok) :
    Meets (Builtin.«int.__eq__» ⟨[.int b u, .ref a], []⟩) (fun _ R s => s.heap.get? a = some { cls := .type "dict", dict := dd, data := .dict es ep, slots := sl } ∧ R (.ok (.ret .notImplemented)) s) :=
  .of_wp fun prog w A R s h => by obtain ⟨hp, g, d, tk, os⟩ := s; obtain ⟨hl, h⟩ := h; wp_walk using wpAny_loadPart' hl, wpAny_load hl; exact ⟨_, rfl, h⟩
theorem dict_declines_str (a : Addr) (es : Array DictEntry) (ep : Nat) (dd : Option Addr) (sl : Array (Option Value)) (b : Str) (u : Tok) :
    Meets (Builtin.«dict.__eq__» ⟨[.ref a, .str b u], []⟩) (fun _ R s => s.heap.get? a = some { cls := .type "dict", dict := dd, data := .dict es ep, slots := sl } ∧ R (.ok (.ret .notImplemented)) s) :=
  .of_wp fun prog w A R s h => by obtain ⟨hp, g, d, tk, os⟩ := s; obtain ⟨hl, h⟩ := h; have f1 := F.sub_str_dict; have f2 := F.sub_dict_dict; wp_walk using wpAny_loadPart' hl, wpAny_load hl; exact ⟨_, rfl, h⟩
theorem str_declines_dict (a : Addr) (es : Array DictEntry) (ep : Nat) (dd : Option Addr) (sl : Array (Option Value)) (b : Str) (u : Tok) :
    Meets (Builtin.«str.__eq__» ⟨[.str b u, .ref a], []⟩) (fun _ R s => s.heap.get? a = some { cls := .type "dict", dict := dd, data := .dict es ep, slots := sl } ∧ R (.ok (.ret .notImplemented)) s) :=
  .of_wp fun prog w A R s h => by obtain ⟨hp, g, d, tk, os⟩ := s; obtain ⟨hl, h⟩ := h; wp_walk using wpAny_loadPart' hl, wpAny_load hl; exact ⟨_, rfl, h⟩
theorem dict_declines_list (a l : Addr) (es : Array DictEntry) (ep n : Nat) (items : Array Value) (dd dd2 : Option Addr) (sl sl2 : Array (Option Value)) :
    Meets (Builtin.«dict.__eq__» ⟨[.ref a, .ref l], []⟩) (fun _ R s => s.heap.get? a = some { cls := .type "dict", dict := dd, data := .dict es ep, slots := sl } ∧ s.heap.get? l = some { cls := .type "list", dict := dd2, data := .seq items n, slots := sl2 } ∧ R (.ok (.ret .notImplemented)) s) :=
  .of_wp fun prog w A R s h => by obtain ⟨hp, g, d, tk, os⟩ := s; obtain ⟨hl, hl2, h⟩ := h; have f1 := F.sub_list_dict; wp_walk using wpAny_loadPart' hl, wpAny_load hl, wpAny_loadPart' hl2, wpAny_load hl2; exact ⟨_, rfl, h⟩
theorem list_declines_dict (a l : Addr) (es : Array DictEntry) (ep n : Nat) (items : Array Value) (dd dd2 : Option Addr) (sl sl2 : Array (Option Value)) :
    Meets (Builtin.«list.__eq__» ⟨[.ref l, .ref a], []⟩) (fun _ R s => s.heap.get? a = some { cls := .type "dict", dict := dd, data := .dict es ep, slots := sl } ∧ s.heap.get? l = some { cls := .type "list", dict := dd2, data := .seq items n, slots := sl2 } ∧ R (.ok (.ret .notImplemented)) s) :=
  .of_wp fun prog w A R s h => by obtain ⟨hp, g, d, tk, os⟩ := s; obtain ⟨hl, hl2, h⟩ := h; have f1 := F.sub_dict_list; wp_walk using wpAny_loadPart' hl, wpAny_load hl, wpAny_loadPart' hl2, wpAny_load hl2; exact ⟨_, rfl, h⟩
theorem dict_declines_tuple (a l : Addr) (es : Array DictEntry) (ep n : Nat) (items : Array Value) (dd dd2 : Option Addr) (sl sl2 : Array (Option Value)) :
    Meets (Builtin.«dict.__eq__» ⟨[.ref a, .ref l], []⟩) (fun _ R s => s.heap.get? a = some { cls := .type "dict", dict := dd, data := .dict es ep, slots := sl } ∧ s.heap.get? l = some { cls := .type "tuple", dict := dd2, data := .seq items n, slots := sl2 } ∧ R (.ok (.ret .notImplemented)) s) :=
  .of_wp fun prog w A R s h => by obtain ⟨hp, g, d, tk, os⟩ := s; obtain ⟨hl, hl2, h⟩ := h; have f1 := F.sub_tuple_dict; wp_walk using wpAny_loadPart' hl, wpAny_load hl, wpAny_loadPart' hl2, wpAny_load hl2; exact ⟨_, rfl, h⟩
theorem tuple_declines_dict (a l : Addr) (es : Array DictEntry) (ep n : Nat) (items : Array Value) (dd dd2 : Option Addr) (sl sl2 : Array (Option Value)) :
    Meets (Builtin.«tuple.__eq__» ⟨[.ref l, .ref a], []⟩) (fun _ R s => s.heap.get? a = some { cls := .type "dict", dict := dd, data := .dict es ep, slots := sl } ∧ s.heap.get? l = some { cls := .type "tuple", dict := dd2, data := .seq items n, slots := sl2 } ∧ R (.ok (.ret .notImplemented)) s) :=
  .of_wp fun prog w A R s h => by obtain ⟨hp, g, d, tk, os⟩ := s; obtain ⟨hl, hl2, h⟩ := h; have f1 := F.sub_dict_tuple; wp_walk using wpAny_loadPart' hl, wpAny_load hl, wpAny_loadPart' hl2, wpAny_load hl2; exact ⟨_, rfl, h⟩
end PySem.SeqAt

/-! DLF: == of plain data, dicts among them: the theorem over D. -/
namespace PySem.SeqAt
open AutoSeq1 (wpAny_loadPart')
open MeetsSeq
section
variable {P : Program} {w : World} {A : Around} {s : Shared}
theorem rcP_dict_none {a : Addr}  (hd : IsDic s.heap a) (hu : A.units < cLine) : RcP P w A s (.ref a) (.none) false := fun E Q h => by
  obtain ⟨es, ep, dd, sl, ho⟩ := hd
  exact rc_eq_decline_or (k := false) ⟨_, ho, rfl⟩ rfl (by decide) F.sub_NoneType_dict F.slot_dict_eq F.slot_NoneType_eq_refl
    (fun _ hq => call_meets F.slot_dict_eq ⟨_, ho, rfl⟩ F.entry_dict_eq (F.args_dict_eq_2 _ _) (dict_declines_none a es ep dd sl) ⟨ho, hq⟩)
    (fun _ hq => call_meets F.slot_NoneType_eq_refl rfl F.entry_NoneType_eq (F.args_NoneType_eq_2 _ _) (none_declines_dict a es ep dd sl) ⟨ho, hq⟩)
    (fun _ hq => wpAny_of_eq (rfl : isSame (.ref a) (.none) = pure false) hq) (.inr hu) h
theorem rcP_none_dict {a : Addr}  (hd : IsDic s.heap a) (hu : A.units < cLine) : RcP P w A s (.none) (.ref a) false := fun E Q h => by
  obtain ⟨es, ep, dd, sl, ho⟩ := hd
  exact rc_eq_decline_or (k := false) rfl ⟨_, ho, rfl⟩ (by decide) F.sub_dict_NoneType F.slot_NoneType_eq F.slot_dict_eq_refl
    (fun _ hq => call_meets F.slot_NoneType_eq rfl F.entry_NoneType_eq (F.args_NoneType_eq_2 _ _) (none_declines_dict a es ep dd sl) ⟨ho, hq⟩)
    (fun _ hq => call_meets F.slot_dict_eq_refl ⟨_, ho, rfl⟩ F.entry_dict_eq (F.args_dict_eq_2 _ _) (dict_declines_none a es ep dd sl) ⟨ho, hq⟩)
    (fun _ hq => wpAny_of_eq (rfl : isSame (.none) (.ref a) = pure false) hq) (.inr hu) h
theorem rcP_dict_bool {a : Addr} (b : Bool) (hd : IsDic s.heap a) (hu : A.units < cLine) : RcP P w A s (.ref a) (.bool b) false := fun E Q h => by
  obtain ⟨es, ep, dd, sl, ho⟩ := hd
  exact rc_eq_decline_or (k := false) ⟨_, ho, rfl⟩ rfl (by decide) F.sub_bool_dict F.slot_dict_eq F.slot_bool_eq_refl
    (fun _ hq => call_meets F.slot_dict_eq ⟨_, ho, rfl⟩ F.entry_dict_eq (F.args_dict_eq_2 _ _) (dict_declines_bool a es ep dd sl b) ⟨ho, hq⟩)
    (fun _ hq => call_meets F.slot_bool_eq_refl rfl F.entry_int_eq (F.args_int_eq_2 _ _) (bool_declines_dict a es ep dd sl b) ⟨ho, hq⟩)
    (fun _ hq => wpAny_of_eq (rfl : isSame (.ref a) (.bool b) = pure false) hq) (.inr hu) h
theorem rcP_bool_dict {a : Addr} (b : Bool) (hd : IsDic s.heap a) (hu : A.units < cLine) : RcP P w A s (.bool b) (.ref a) false := fun E Q h => by
  obtain ⟨es, ep, dd, sl, ho⟩ := hd
  exact rc_eq_decline_or (k := false) rfl ⟨_, ho, rfl⟩ (by decide) F.sub_dict_bool F.slot_bool_eq F.slot_dict_eq_refl
    (fun _ hq => call_meets F.slot_bool_eq rfl F.entry_int_eq (F.args_int_eq_2 _ _) (bool_declines_dict a es ep dd sl b) ⟨ho, hq⟩)
    (fun _ hq => call_meets F.slot_dict_eq_refl ⟨_, ho, rfl⟩ F.entry_dict_eq (F.args_dict_eq_2 _ _) (dict_declines_bool a es ep dd sl b) ⟨ho, hq⟩)
    (fun _ hq => wpAny_of_eq (rfl : isSame (.bool b) (.ref a) = pure false) hq) (.inr hu) h
theorem rcP_dict_int {a : Addr} (b : Int) (u : Tok) (hd : IsDic s.heap a) (hu : A.units < cLine) : RcP P w A s (.ref a) (.int b u) false := fun E Q h => by
  obtain ⟨es, ep, dd, sl, ho⟩ := hd
  exact rc_eq_decline_or (k := false) ⟨_, ho, rfl⟩ rfl (by decide) F.sub_int_dict F.slot_dict_eq F.slot_int_eq_refl
    (fun _ hq => call_meets F.slot_dict_eq ⟨_, ho, rfl⟩ F.entry_dict_eq (F.args_dict_eq_2 _ _) (dict_declines_int a es ep dd sl b u) ⟨ho, hq⟩)
    (fun _ hq => call_meets F.slot_int_eq_refl rfl F.entry_int_eq (F.args_int_eq_2 _ _) (int_declines_dict a es ep dd sl b u) ⟨ho, hq⟩)
    (fun _ hq => wpAny_of_eq (rfl : isSame (.ref a) (.int b u) = pure false) hq) (.inr hu) h
theorem rcP_int_dict {a : Addr} (b : Int) (u : Tok) (hd : IsDic s.heap a) (hu : A.units < cLine) : RcP P w A s (.int b u) (.ref a) false := fun E Q h => by
  obtain ⟨es, ep, dd, sl, ho⟩ := hd
  exact rc_eq_decline_or (k := false) rfl ⟨_, ho, rfl⟩ (by decide) F.sub_dict_int F.slot_int_eq F.slot_dict_eq_refl
    (fun _ hq => call_meets F.slot_int_eq rfl F.entry_int_eq (F.args_int_eq_2 _ _) (int_declines_dict a es ep dd sl b u) ⟨ho, hq⟩)
    (fun _ hq => call_meets F.slot_dict_eq_refl ⟨_, ho, rfl⟩ F.entry_dict_eq (F.args_dict_eq_2 _ _) (dict_declines_int a es ep dd sl b u) ⟨ho, hq⟩)
    (fun _ hq => wpAny_of_eq (rfl : isSame (.int b u) (.ref a) = pure false) hq) (.inr hu) h
theorem rcP_dict_str {a : Addr} (b : Str) (u : Tok) (hd : IsDic s.heap a) (hu : A.units < cLine) : RcP P w A s (.ref a) (.str b u) false := fun E Q h => by
  obtain ⟨es, ep, dd, sl, ho⟩ := hd
  exact rc_eq_decline_or (k := false) ⟨_, ho, rfl⟩ rfl (by decide) F.sub_str_dict F.slot_dict_eq F.slot_str_eq_refl
    (fun _ hq => call_meets F.slot_dict_eq ⟨_, ho, rfl⟩ F.entry_dict_eq (F.args_dict_eq_2 _ _) (dict_declines_str a es ep dd sl b u) ⟨ho, hq⟩)
    (fun _ hq => call_meets F.slot_str_eq_refl rfl F.entry_str_eq (F.args_str_eq_2 _ _) (str_declines_dict a es ep dd sl b u) ⟨ho, hq⟩)
    (fun _ hq => wpAny_of_eq (rfl : isSame (.ref a) (.str b u) = pure false) hq) (.inr hu) h
theorem rcP_str_dict {a : Addr} (b : Str) (u : Tok) (hd : IsDic s.heap a) (hu : A.units < cLine) : RcP P w A s (.str b u) (.ref a) false := fun E Q h => by
  obtain ⟨es, ep, dd, sl, ho⟩ := hd
  exact rc_eq_decline_or (k := false) rfl ⟨_, ho, rfl⟩ (by decide) F.sub_dict_str F.slot_str_eq F.slot_dict_eq_refl
    (fun _ hq => call_meets F.slot_str_eq rfl F.entry_str_eq (F.args_str_eq_2 _ _) (str_declines_dict a es ep dd sl b u) ⟨ho, hq⟩)
    (fun _ hq => call_meets F.slot_dict_eq_refl ⟨_, ho, rfl⟩ F.entry_dict_eq (F.args_dict_eq_2 _ _) (dict_declines_str a es ep dd sl b u) ⟨ho, hq⟩)
    (fun _ hq => wpAny_of_eq (rfl : isSame (.str b u) (.ref a) = pure false) hq) (.inr hu) h
theorem rcP_dict_list {a l : Addr} {xs : Array Value} (hd : IsDic s.heap a) (hl : s.heap.IsList l xs) (hu : A.units < cLine) : a ≠ l ∧ RcP P w A s (.ref a) (.ref l) false ∧ RcP P w A s (.ref l) (.ref a) false := by
  obtain ⟨es, ep, dd, sl, ho⟩ := hd
  obtain ⟨⟨cls, dd2, data, sl2⟩, ho2, hc, n, hdt⟩ := id hl
  simp only at hc hdt
  subst hc hdt
  have ne : a ≠ l := fun z => by
    rw [z, ho2] at ho
    exact absurd (congrArg Obj.cls (Option.some.inj ho)) (by simp)
  refine ⟨ne, fun E Q h => ?_, fun E Q h => ?_⟩
  · exact rc_eq_decline_or (k := false) ⟨_, ho, rfl⟩ ⟨_, ho2, rfl⟩ (by decide) F.sub_list_dict F.slot_dict_eq F.slot_list_eq_refl
      (fun _ hq => call_meets F.slot_dict_eq ⟨_, ho, rfl⟩ F.entry_dict_eq (F.args_dict_eq_2 _ _) (dict_declines_list a l es ep n xs dd dd2 sl sl2) ⟨ho, ho2, hq⟩)
      (fun _ hq => call_meets F.slot_list_eq_refl ⟨_, ho2, rfl⟩ F.entry_list_eq (F.args_list_eq_2 _ _) (list_declines_dict a l es ep n xs dd dd2 sl sl2) ⟨ho, ho2, hq⟩)
      (fun _ hq => wpAny_isSame_ref_other' ne ho ho2 (by simp) hq) (.inr hu) h
  · exact rc_eq_decline_or (k := false) ⟨_, ho2, rfl⟩ ⟨_, ho, rfl⟩ (by decide) F.sub_dict_list F.slot_list_eq F.slot_dict_eq_refl
      (fun _ hq => call_meets F.slot_list_eq ⟨_, ho2, rfl⟩ F.entry_list_eq (F.args_list_eq_2 _ _) (list_declines_dict a l es ep n xs dd dd2 sl sl2) ⟨ho, ho2, hq⟩)
      (fun _ hq => call_meets F.slot_dict_eq_refl ⟨_, ho, rfl⟩ F.entry_dict_eq (F.args_dict_eq_2 _ _) (dict_declines_list a l es ep n xs dd dd2 sl sl2) ⟨ho, ho2, hq⟩)
      (fun _ hq => wpAny_isSame_ref_other' ne.symm ho2 ho (by simp) hq) (.inr hu) h
theorem rcP_dict_tuple {a l : Addr} {xs : Array Value} (hd : IsDic s.heap a) (hl : s.heap.IsTuple l xs) (hu : A.units < cLine) : a ≠ l ∧ RcP P w A s (.ref a) (.ref l) false ∧ RcP P w A s (.ref l) (.ref a) false := by
  obtain ⟨es, ep, dd, sl, ho⟩ := hd
  obtain ⟨⟨cls, dd2, data, sl2⟩, ho2, hc, n, hdt⟩ := id hl
  simp only at hc hdt
  subst hc hdt
  have ne : a ≠ l := fun z => by
    rw [z, ho2] at ho
    exact absurd (congrArg Obj.cls (Option.some.inj ho)) (by simp)
  refine ⟨ne, fun E Q h => ?_, fun E Q h => ?_⟩
  · exact rc_eq_decline_or (k := false) ⟨_, ho, rfl⟩ ⟨_, ho2, rfl⟩ (by decide) F.sub_tuple_dict F.slot_dict_eq F.slot_tuple_eq_refl
      (fun _ hq => call_meets F.slot_dict_eq ⟨_, ho, rfl⟩ F.entry_dict_eq (F.args_dict_eq_2 _ _) (dict_declines_tuple a l es ep n xs dd dd2 sl sl2) ⟨ho, ho2, hq⟩)
      (fun _ hq => call_meets F.slot_tuple_eq_refl ⟨_, ho2, rfl⟩ F.entry_tuple_eq (F.args_tuple_eq_2 _ _) (tuple_declines_dict a l es ep n xs dd dd2 sl sl2) ⟨ho, ho2, hq⟩)
      (fun _ hq => wpAny_isSame_ref_other ne ho ho2 (by simp) hq) (.inr hu) h
  · exact rc_eq_decline_or (k := false) ⟨_, ho2, rfl⟩ ⟨_, ho, rfl⟩ (by decide) F.sub_dict_tuple F.slot_tuple_eq F.slot_dict_eq_refl
      (fun _ hq => call_meets F.slot_tuple_eq ⟨_, ho2, rfl⟩ F.entry_tuple_eq (F.args_tuple_eq_2 _ _) (tuple_declines_dict a l es ep n xs dd dd2 sl sl2) ⟨ho, ho2, hq⟩)
      (fun _ hq => call_meets F.slot_dict_eq_refl ⟨_, ho, rfl⟩ F.entry_dict_eq (F.args_dict_eq_2 _ _) (dict_declines_tuple a l es ep n xs dd dd2 sl sl2) ⟨ho, ho2, hq⟩)
      (fun _ hq => wpAny_isSame_ref_other' ne.symm ho2 ho (by simp) hq) (.inr hu) h
/-- two values of which one is no object: == within a builtin by their rich comparison -/
theorem RcP.eqP {a b : Value} {k : Bool} (h : RcP P w A s a b k) (ne : (a == b) = false) (nf : ∀ x t y u, a = .float x t → b = .float y u → False) : EqP P w A s a b k := fun E Q hq => by
  unfold eqBool
  refine wpAny_holding (wpAny_ite_split (fun hab => absurd hab (by rw [ne]; decide)) fun _ => ?_)
  split
  · rename_i q1
    injection q1 with q2 q3
    exact (nf _ _ _ _ q2 q3).elim
  · exact wpAny_bind (h E _ (wpAny_truthy_bool hq))
theorem tup_eqIn (l b : Addr) (xs ys : Array Value) (n n2 : Nat) (dd dd2 : Option Addr) (sl sl2 : Array (Option Value)) (e : Nat → Bool) :
    MeetsIn P w (Builtin.«tuple.__eq__» ⟨[.ref l, .ref b], []⟩)
      (fun A R s => s.heap.get? l = some { cls := .type "tuple", dict := dd, data := .seq xs n, slots := sl } ∧ s.heap.get? b = some { cls := .type "tuple", dict := dd2, data := .seq ys n2, slots := sl2 } ∧
        (∀ j (h1 : j < xs.size) (h2 : j < ys.size), EqP P w A.in1 s xs[j] ys[j] (e j)) ∧ R (.ok (.ret (.bool ((List.range (min xs.size ys.size)).all e && xs.size == ys.size)))) s) := by
  intro A R s h
  obtain ⟨hp, gn, dr, tk, os⟩ := s
  obtain ⟨hl, hb, he, h⟩ := h
  have f2 := AutoSeq1.sub_tuple_tuple
  have hZ : (xs.toList.zip ys.toList).length = min xs.size ys.size := by simp
  wp_walk using wpAny_loadPart' hl, wpAny_loadPart' hb, wpAny_forIn_list _ (fun more b s' => b.1 = none ∧ s' = ⟨hp, gn, dr, tk, os⟩ ∧ ∃ i, more = (xs.toList.zip ys.toList).drop i ∧
    R (.ok (.ret (.bool (((List.range (min xs.size ys.size)).drop i).all e && xs.size == ys.size)))) ⟨hp, gn, dr, tk, os⟩) _
  case turn =>
    rintro ⟨y, x⟩ more b s' ⟨hb', rfl, i, hz, hR⟩
    have hlt : i < (xs.toList.zip ys.toList).length := Nat.lt_of_not_le fun q => by rw [List.drop_of_length_le q] at hz; cases hz
    have hm : i < min xs.size ys.size := hZ ▸ hlt
    have h1 : i < xs.size := by omega
    have h2 : i < ys.size := by omega
    rw [List.drop_eq_getElem_cons hlt] at hz
    injection hz with hyx hrest
    have hy : y = xs[i] := by simpa using congrArg Prod.fst hyx
    have hx : x = ys[i] := by simpa using congrArg Prod.snd hyx
    subst hy hx
    have hd : (List.range (min xs.size ys.size)).drop i = i :: (List.range (min xs.size ys.size)).drop (i + 1) := by simp [List.drop_eq_getElem_cons, hm]
    rw [hd, List.all_cons] at hR
    refine wpAny_bind (he i h1 h2 _ _ ?_)
    cases q : e i with
    | true => rw [q] at hR; wp_walk; exact ⟨rfl, rfl, i + 1, hrest, by simpa using hR⟩
    | false => rw [q] at hR; wp_walk; simpa using hR
  case fin =>
    rintro ⟨b1, b2⟩ s' ⟨hb', rfl, i, hz, hR⟩
    simp only at hb'
    subst hb'
    have hge : min xs.size ys.size ≤ i := Nat.le_of_not_lt fun q => by rw [List.drop_eq_getElem_cons (hZ ▸ q)] at hz; cases hz
    rw [List.drop_of_length_le (by simpa using hge)] at hR
    wp_walk
    simpa [Builtin.Tuple.tupleCompareSizes] using hR
  case h => exact ⟨rfl, rfl, 0, rfl, by simpa using h⟩
theorem rcP_tuples {l b : Addr} {xs ys : Array Value} {e : Nat → Bool} (hl : s.heap.IsTuple l xs) (hb : s.heap.IsTuple b ys) (hu : A.units < cLine)
    (he : ∀ j (h1 : j < xs.size) (h2 : j < ys.size), EqP P w A.in1 s xs[j] ys[j] (e j)) : RcP P w A s (.ref l) (.ref b) ((List.range (min xs.size ys.size)).all e && xs.size == ys.size) := fun E Q h => by
  obtain ⟨⟨cls, dd, data, sl⟩, ho, hc, n, hd⟩ := id hl
  obtain ⟨⟨cls2, dd2, data2, sl2⟩, ho2, hc2, n2, hd2⟩ := id hb
  simp only at hc hd hc2 hd2
  subst hc hd hc2 hd2
  exact wpAny_richCompare_same_room (op := .Eq) ⟨_, ho, rfl⟩ ⟨_, ho2, rfl⟩ F.slot_tuple_eq (call_meetsIn F.slot_tuple_eq ⟨_, ho, rfl⟩ F.entry_tuple_eq (F.args_tuple_eq_2 _ _) (tup_eqIn l b xs ys n n2 dd dd2 sl sl2 e)
    ⟨ho, ho2, he, ⟨(fun x => nomatch x), h⟩⟩) hu
end
end PySem.SeqAt


/-! DLG: == and != of plain data as rules. -/
namespace DL
open PySem L2 PySem.Spec PyProof.Rows PySem.SeqAt
def valD (kvs : List (Key × D)) (k : Key) : Option D := (kvs.find? fun kv => decide (kv.1 = k)).map (·.2)
mutual
def eqD : D → D → Bool
  | .non, .non => true
  | .bl a, .bl b => a == b
  | .bl a, .int j => (if a then 1 else 0) == j
  | .int i, .bl b => i == (if b then 1 else 0)
  | .int i, .int j => i == j
  | .str x, .str y => x == y
  | .lst xs, .lst ys => eqL xs ys
  | .tup xs, .tup ys => eqL xs ys
  | .dct xs, .dct ys => xs.length == ys.length && eqK xs ys
  | _, _ => false
def eqL : List D → List D → Bool
  | [], [] => true
  | x :: xs, y :: ys => eqD x y && eqL xs ys
  | _, _ => false
def eqK : List (Key × D) → List (Key × D) → Bool
  | [], _ => true
  | (k, d) :: r, ys => (match valD ys k with
    | some e => eqD d e
    | none => false) && eqK r ys
end
mutual
/-- plain data, nested at most n deep -/
def plain : D → Nat → Bool
  | .non, _ => true
  | .bl _, _ => true
  | .int _, _ => true
  | .str _, _ => true
  | .lst xs, n + 1 => plainL xs n
  | .tup xs, n + 1 => plainL xs n
  | .dct xs, n + 1 => plainK xs n && decide ((xs.map (·.1)).Nodup)
  | _, _ => false
def plainL : List D → Nat → Bool
  | [], _ => true
  | x :: xs, n => plain x n && plainL xs n
def plainK : List (Key × D) → Nat → Bool
  | [], _ => true
  | (_, x) :: xs, n => plain x n && plainK xs n
end
section
variable {X : Cx} {pins : List (Addr × Obj)} {σ : L2.St} {G H : Hp} {s : Shared} {p0 : Addr}
theorem dic_of (I : Inv X pins σ H s) (le : Le G H) {a : Addr} {vs : List (Key × V)} (h : Rd G a (.dK vs)) : (a == sysModules) = false ∧ (∃ us, KV vs us ∧ s.heap.DictOf (mixKind X.prog X.w) a us) ∧ IsDic s.heap a := by
  obtain ⟨_, y, us, r, d⟩ := (le_rd le h).ok I.hok
  refine ⟨y, ⟨us, r, d⟩, ?_⟩
  obtain ⟨o, es, ep, ho, ex, hd, _⟩ := d
  obtain ⟨oc, od, dt, sl⟩ := o
  simp only at hd
  have hc : oc = .type "dict" := ex.1
  subst hc hd
  exact ⟨es, ep, od, sl, ho⟩
theorem kind_ls (I : Inv X pins σ H s) {a : Addr} {xs ys : List V} (h1 : SqL X.K H a xs) (h2 : SqT X.K H a ys) : False := by
  obtain ⟨us, _, p1, _⟩ := I.list h1
  obtain ⟨ws, _, p2, _⟩ := I.tuple h2
  exact ne_of_list_tuple p1.isList p2 rfl
theorem kind_ld (I : Inv X pins σ H s) {a : Addr} {xs : List V} (h1 : SqL X.K H a xs) (h2 : IsDic s.heap a) : False := by
  obtain ⟨us, _, p1, _⟩ := I.list h1
  obtain ⟨o, n, ho, hc, _⟩ := p1
  obtain ⟨es, ep, dd, sl, h⟩ := h2
  rw [h] at ho; cases ho
  exact absurd hc (by simp)
theorem kind_td (I : Inv X pins σ H s) {a : Addr} {xs : List V} (h1 : SqT X.K H a xs) (h2 : IsDic s.heap a) : False := by
  obtain ⟨us, _, p1, _⟩ := I.tuple h1
  obtain ⟨o, ho, hc, _⟩ := p1
  obtain ⟨es, ep, dd, sl, h⟩ := h2
  rw [h] at ho; cases ho
  exact absurd hc (by simp)
theorem rd_inj {a : Addr} {u v : HO} (h1 : Rd H a u) (h2 : Rd H a v) (nu : ∀ o z, u ≠ .frz o z) (nv : ∀ o z, v ≠ .frz o z) : u = v := by
  rcases h1 with h1 | ⟨o, h1⟩ <;> rcases h2 with h2 | ⟨o2, h2⟩ <;> rw [h1] at h2 <;> cases h2
  · rfl
  · exact (nu _ _ rfl).elim
  · exact (nv _ _ rfl).elim
  · rfl
mutual
theorem Rep.inj (I : Inv X pins σ H s) (le : Le G H) : ∀ (n : Nat) (a b : D) (x : V), plain a n = true → plain b n = true → Rep X.K p0 G x a → Rep X.K p0 G x b → a = b
  | n, _, b, _, pa, pb, .non, h => by cases h; rfl
  | n, _, b, _, pa, pb, .bl _, h => by cases h; rfl
  | n, _, b, _, pa, pb, .int _, h => by cases h; rfl
  | n, _, b, _, pa, pb, .str _, h => by cases h; rfl
  | n, _, b, _, pa, pb, .ref _, h => by cases n <;> simp [plain] at pa
  | n, _, b, _, pa, pb, .ty _, h => by cases n <;> simp [plain] at pa
  | n, _, b, _, pa, pb, .pen, h => by cases n <;> simp [plain] at pa
  | n, _, b, _, pa, pb, .ins _ _, h => by cases n <;> simp [plain] at pa
  | 0, _, b, _, pa, pb, .lst _ _, h => by simp [plain] at pa
  | 0, _, b, _, pa, pb, .tup _ _, h => by simp [plain] at pa
  | 0, _, b, _, pa, pb, .dct _ _, h => by simp [plain] at pa
  | n + 1, _, b, _, pa, pb, .lst h1 r1, h => by
    cases h with
    | lst h2 r2 =>
      have e := I.list_inj (le_l le (.inl h1)) (le_l le (.inl h2))
      subst e
      rw [RepL.inj I le n _ _ _ (by simpa [plain] using pa) (by simpa [plain] using pb) r1 r2]
    | tup h2 r2 => exact (kind_ls I (le_l le (.inl h1)) (le_t le h2)).elim
    | dct h2 r2 => exact (kind_ld I (le_l le (.inl h1)) (dic_of I le h2).2.2).elim
    | _ => simp [plain] at pb
  | n + 1, _, b, _, pa, pb, .tup h1 r1, h => by
    cases h with
    | tup h2 r2 =>
      have e := I.tuple_inj (le_t le h1) (le_t le h2)
      subst e
      rw [RepL.inj I le n _ _ _ (by simpa [plain] using pa) (by simpa [plain] using pb) r1 r2]
    | lst h2 r2 => exact (kind_ls I (le_l le (.inl h2)) (le_t le h1)).elim
    | dct h2 r2 => exact (kind_td I (le_t le h1) (dic_of I le h2).2.2).elim
    | _ => simp [plain] at pb
  | n + 1, _, b, _, pa, pb, .dct h1 r1, h => by
    cases h with
    | dct h2 r2 =>
      have e := rd_inj h1 h2 (fun _ _ q => by cases q) (fun _ _ q => by cases q)
      cases e
      rw [RepK.inj I le n _ _ _ (by simp only [plain, Bool.and_eq_true] at pa; exact pa.1) (by simp only [plain, Bool.and_eq_true] at pb; exact pb.1) r1 r2]
    | lst h2 r2 => exact (kind_ld I (le_l le (.inl h2)) (dic_of I le h1).2.2).elim
    | tup h2 r2 => exact (kind_td I (le_t le h2) (dic_of I le h1).2.2).elim
    | _ => simp [plain] at pb
theorem RepL.inj (I : Inv X pins σ H s) (le : Le G H) : ∀ (n : Nat) (a b : List D) (x : List V), plainL a n = true → plainL b n = true → RepL X.K p0 G x a → RepL X.K p0 G x b → a = b
  | n, _, _, _, pa, pb, .nil, h => by cases h; rfl
  | n, _, _, _, pa, pb, .cons h1 r1, h => by
    cases h with
    | cons h2 r2 =>
      simp only [plainL, Bool.and_eq_true] at pa pb
      rw [Rep.inj I le n _ _ _ pa.1 pb.1 h1 h2, RepL.inj I le n _ _ _ pa.2 pb.2 r1 r2]
theorem RepK.inj (I : Inv X pins σ H s) (le : Le G H) : ∀ (n : Nat) (a b : List (Key × D)) (x : List (Key × V)), plainK a n = true → plainK b n = true → RepK X.K p0 G x a → RepK X.K p0 G x b → a = b
  | n, _, _, _, pa, pb, .nil, h => by cases h; rfl
  | n, _, _, _, pa, pb, .cons h1 r1, h => by
    cases h with
    | cons h2 r2 =>
      simp only [plainK, Bool.and_eq_true] at pa pb
      rw [Rep.inj I le n _ _ _ pa.1 pb.1 h1 h2, RepK.inj I le n _ _ _ pa.2 pb.2 r1 r2]
end
theorem valD_mem : ∀ {xs : List (Key × D)} {k : Key} {d : D}, (xs.map (·.1)).Nodup → (k, d) ∈ xs → valD xs k = some d
  | (k', d') :: r, k, d, nd, h => by
    unfold valD
    rw [List.find?_cons]
    simp only [List.map_cons, List.nodup_cons] at nd
    rcases List.mem_cons.mp h with e | h
    · cases e; simp
    · have ne : k' ≠ k := fun e => nd.1 (e ▸ List.mem_map.mpr ⟨(k, d), h, rfl⟩)
      rw [decide_eq_false ne]
      exact valD_mem nd.2 h
mutual
theorem eqD_refl : ∀ (n : Nat) (a : D), plain a n = true → eqD a a = true
  | n, .non, _ => by simp [eqD]
  | n, .bl _, _ => by simp [eqD]
  | n, .int _, _ => by simp [eqD]
  | n, .str _, _ => by simp [eqD]
  | n + 1, .lst xs, h => by simp only [eqD]; exact eqL_refl n xs (by simpa [plain] using h)
  | n + 1, .tup xs, h => by simp only [eqD]; exact eqL_refl n xs (by simpa [plain] using h)
  | n + 1, .dct xs, h => by
    simp only [plain, Bool.and_eq_true, decide_eq_true_eq] at h
    simp only [eqD, beq_self_eq_true, Bool.true_and]
    exact eqK_refl n xs xs h.1 h.2 (fun _ h => h)
  | 0, .lst _, h => by simp [plain] at h
  | 0, .tup _, h => by simp [plain] at h
  | 0, .dct _, h => by simp [plain] at h
  | n, .ins _ _, h => by cases n <;> simp [plain] at h
  | n, .ref _, h => by cases n <;> simp [plain] at h
  | n, .ty _, h => by cases n <;> simp [plain] at h
  | n, .pen, h => by cases n <;> simp [plain] at h
theorem eqL_refl : ∀ (n : Nat) (a : List D), plainL a n = true → eqL a a = true
  | n, [], _ => by simp [eqL]
  | n, x :: xs, h => by
    simp only [plainL, Bool.and_eq_true] at h
    simp only [eqL, eqD_refl n x h.1, eqL_refl n xs h.2, Bool.and_self]
theorem eqK_refl : ∀ (n : Nat) (a ys : List (Key × D)), plainK a n = true → (ys.map (·.1)).Nodup → (∀ p ∈ a, p ∈ ys) → eqK a ys = true
  | n, [], _, _, _, _ => by simp [eqK]
  | n, (k, x) :: xs, ys, h, nd, hm => by
    simp only [plainK, Bool.and_eq_true] at h
    have e := valD_mem nd (hm _ List.mem_cons_self)
    simp only [eqK, e, eqD_refl n x h.1, eqK_refl n xs ys h.2 nd (fun p hp => hm p (List.mem_cons_of_mem _ hp)), Bool.and_self]
end
theorem eqL_len : ∀ {xs ys : List D}, eqL xs ys = true → xs.length = ys.length
  | [], [], _ => rfl
  | x :: xs, y :: ys, h => by
    simp only [eqL, Bool.and_eq_true] at h
    simp [eqL_len h.2]
/-- the item-wise answers -/
def eAt (xs ys : List D) (j : Nat) : Bool := match xs[j]?, ys[j]? with
  | some x, some y => eqD x y
  | _, _ => true
theorem eAt_succ (x y : D) (xs ys : List D) : (fun j => eAt (x :: xs) (y :: ys) (j + 1)) = eAt xs ys := by
  funext j; simp [eAt]
theorem all_shift (n : Nat) (f : Nat → Bool) : (List.range (n + 1)).all f = (f 0 && (List.range n).all fun j => f (j + 1)) := by
  rw [List.range_succ_eq_map, List.all_cons, List.all_map]
  rfl
theorem eqL_all : ∀ (xs ys : List D), eqL xs ys = ((List.range (min xs.length ys.length)).all (eAt xs ys) && xs.length == ys.length)
  | [], [] => by simp [eqL]
  | [], y :: ys => by simp [eqL]
  | x :: xs, [] => by simp [eqL]
  | x :: xs, y :: ys => by
    have ih := eqL_all xs ys
    have e1 : min (x :: xs).length (y :: ys).length = min xs.length ys.length + 1 := by simp only [List.length_cons]; omega
    rw [e1, all_shift, eAt_succ]
    have e2 : eAt (x :: xs) (y :: ys) 0 = eqD x y := by simp [eAt]
    have e3 : ((x :: xs).length == (y :: ys).length) = (xs.length == ys.length) := by
      simp only [List.length_cons]
      by_cases q : xs.length = ys.length
      · rw [q]; simp
      · have q2 : ¬ (xs.length + 1 = ys.length + 1) := by omega
        rw [beq_eq_false_iff_ne.mpr q, beq_eq_false_iff_ne.mpr q2]
    rw [e2, e3, eqL, ih]
    simp only [Bool.and_assoc]
theorem RepK.val {k : Key} : ∀ {vs : List (Key × V)} {ds : List (Key × D)} {K : PySem.W.Frag}, RepK K p0 G vs ds → (valD ds k = none → valV vs k = none) ∧ (∀ d, valD ds k = some d → ∃ v, valV vs k = some v ∧ Rep K p0 G v d)
  | _, _, _, .nil => ⟨fun _ => rfl, fun d h => by simp [valD] at h⟩
  | _, _, _, .cons (k := k') (v := v) (d := d) a r => by
    have ih := RepK.val (k := k) r
    unfold valD valV at ih ⊢
    rw [List.find?_cons, List.find?_cons]
    by_cases e : k' = k
    · simp only [e, decide_true]
      exact ⟨fun h => by simp at h, fun x h => by simp at h; subst h; exact ⟨v, rfl, a⟩⟩
    · simp only [decide_eq_false e]
      exact ih
end
end DL

/-! DLH: == of plain data: the theorem. -/
namespace DL
open PySem L2 PySem.Spec PyProof.Rows PySem.SeqAt
section
variable {X : Cx} {pins : List (Addr × Obj)} {σ : L2.St} {G H : Hp} {s : Shared} {p0 : Addr}
theorem repK_len : ∀ {vs : List (Key × V)} {ds : List (Key × D)} {K : PySem.W.Frag}, RepK K p0 G vs ds → vs.length = ds.length
  | _, _, _, .nil => rfl
  | _, _, _, .cons _ r => congrArg Nat.succ (repK_len r)
abbrev EqGoal (X : Cx) (p0 : Addr) (G : Hp) (s : Shared) (n : Nat) : Prop := ∀ (A : Around), A.units + n < cLine → ∀ (x y : V) (v u : Value) (a b : D), plain a n = true → plain b n = true → Rep X.K p0 G x a → Rep X.K p0 G y b → RelV x v → RelV y u →
    RcP X.prog X.w A s v u (eqD a b) ∧ EqP X.prog X.w A s v u (eqD a b)
theorem dRc {P : Program} {w : World} {A : Around} {v u : Value} {k : Bool} (h : RcAt A s v u k) : RcP P w A s v u k := fun E Q q => h P w E Q q
theorem refs_eq {P : Program} {w : World} {A : Around} {p q : Addr} {k : Bool} (h : RcP P w A s (.ref p) (.ref q) k) (hs : p = q → k = true) : EqP P w A s (.ref p) (.ref q) k := by
  by_cases e : p = q
  · rw [hs e]; subst e; exact (EqAt.same _).eqP
  · exact eqP_refs e h
theorem items_eq {n : Nat} {A : Around} (ih : EqGoal X p0 G s n) (hu : A.units + n < cLine) : ∀ {xs ys : List V} {as bs : List D} {us ws : List Value}, plainL as n = true → plainL bs n = true → RepL X.K p0 G xs as → RepL X.K p0 G ys bs → Vals xs us → Vals ys ws →
    ∀ j (h1 : j < us.length) (h2 : j < ws.length), EqP X.prog X.w A s us[j] ws[j] (eAt as bs j)
  | _, _, _, _, _, _, pa, pb, .cons h1 r1, .cons h2 r2, .cons v1 t1, .cons v2 t2, 0, _, _ => by
    simp only [plainL, Bool.and_eq_true] at pa pb
    exact (ih A hu _ _ _ _ _ _ pa.1 pb.1 h1 h2 v1 v2).2
  | _, _, _, _, _, _, pa, pb, .cons h1 r1, .cons h2 r2, .cons v1 t1, .cons v2 t2, j + 1, q1, q2 => by
    simp only [plainL, Bool.and_eq_true] at pa pb
    have e := items_eq ih hu pa.2 pb.2 r1 r2 t1 t2 j (Nat.lt_of_succ_lt_succ q1) (Nat.lt_of_succ_lt_succ q2)
    simpa [eAt] using e
  | _, _, _, _, _, _, _, _, .nil, _, .nil, _, j, q1, _ => by simp at q1
  | _, _, _, _, _, _, _, _, _, .nil, _, .nil, j, _, q2 => by simp at q2
theorem hits_eq {n : Nat} {A : Around} (ih : EqGoal X p0 G s n) (hu : A.units + n < cLine) {ys : List (Key × V)} {bs : List (Key × D)} {ws : List (Key × Value)} (pb : plainK bs n = true) (rb : RepK X.K p0 G ys bs) (tb : KV ys ws) :
    ∀ (as : List (Key × D)) {xs : List (Key × V)} {us : List (Key × Value)}, plainK as n = true → RepK X.K p0 G xs as → KV xs us → PySem.W.KeqHitsP X.prog X.w A s ws us (eqK as bs)
  | [], _, _, pa, r, t => by cases r; cases t; simp only [eqK]; exact .nil
  | (k, d) :: as, _, _, pa, r, t => by
    cases r with
    | cons h r =>
     cases t with
     | cons e t =>
      rename_i q us
      obtain ⟨k', v⟩ := q
      obtain ⟨e1, e2⟩ := e
      have e1 : k = k' := e1
      subst e1
      simp only [plainK, Bool.and_eq_true] at pa
      have ihr := hits_eq ih hu pb rb tb as pa.2 r t
      obtain ⟨m1, m2⟩ := RepK.val (k := k) rb
      have rv := tb.val k
      simp only [eqK]
      cases hv : valD bs k with
      | none =>
        rw [m1 hv] at rv
        simp only [Bool.false_and]
        exact .miss (RelO.none_of rv)
      | some y =>
        obtain ⟨yv, g1, g2⟩ := m2 y hv
        rw [g1] at rv
        obtain ⟨yu, g3, g4⟩ := rv.some_of
        have py : plain y n = true := by
          unfold valD at hv
          obtain ⟨pr, h1, h2⟩ := Option.map_eq_some_iff.mp hv
          have hm := List.mem_of_find?_eq_some h1
          have : ∀ (l : List (Key × D)), plainK l n = true → ∀ p ∈ l, plain p.2 n = true := by
            intro l
            induction l with
            | nil => intro _ p hp; cases hp
            | cons z l il =>
              intro hz p hp
              obtain ⟨zk, zd⟩ := z
              simp only [plainK, Bool.and_eq_true] at hz
              rcases List.mem_cons.mp hp with rfl | hp
              · exact hz.1
              · exact il hz.2 p hp
          rw [← h2]; exact this bs pb pr hm
        exact .hit g3 (ih A hu _ _ _ _ _ _ pa.1 py h g2 e2 g4).2 ihr
theorem lst_rc {m : Nat} {A : Around} (ih : EqGoal X p0 G s m) (hu0 : A.units < cLine) (in1 : A.in1.units + m < cLine) {p q : Addr} {xs ys : List V} {as bs : List D} {us1 us2 : List Value} (pa : plainL as m = true) (pb : plainL bs m = true) (r1 : RepL X.K p0 G xs as) (r2 : RepL X.K p0 G ys bs)
    (v1 : Vals xs us1) (v2 : Vals ys us2) (p1 : s.heap.IsList p us1.toArray) (p2 : s.heap.IsList q us2.toArray) : RcP X.prog X.w A s (.ref p) (.ref q) (eqD (.lst as) (.lst bs)) := by
  simp only [eqD]
  have l1 := v1.length; have l2 := v2.length; have l3 := r1.len; have l4 := r2.len
  by_cases hz : us1.length = us2.length
  · intro E Q q
    refine rcP_lists (e := eAt as bs) p1 p2 (by simpa using hz) hu0 (fun j q1 q2 => ?_) E Q ?_
    · have e := items_eq ih in1 pa pb r1 r2 v1 v2 j (by simpa using q1) (by simpa using q2)
      simpa using e
    · rw [eqL_all] at q
      have e1 : us1.toArray.size = min as.length bs.length := by
        rw [List.size_toArray, ← l1, l3]
        omega
      have e2 : (as.length == bs.length) = true := by simp; omega
      rw [e2, Bool.and_true] at q
      rw [e1]
      exact q
  · have f : eqL as bs = false := Bool.eq_false_iff.mpr fun z => hz (by have := eqL_len z; omega)
    rw [f]
    exact dRc (RcAt.lists_lengths p1 p2 (by simpa using hz) hu0)
theorem tup_rc {m : Nat} {A : Around} (ih : EqGoal X p0 G s m) (hu0 : A.units < cLine) (in1 : A.in1.units + m < cLine) {p q : Addr} {xs ys : List V} {as bs : List D} {us1 us2 : List Value} (pa : plainL as m = true) (pb : plainL bs m = true) (r1 : RepL X.K p0 G xs as) (r2 : RepL X.K p0 G ys bs)
    (v1 : Vals xs us1) (v2 : Vals ys us2) (p1 : s.heap.IsTuple p us1.toArray) (p2 : s.heap.IsTuple q us2.toArray) : RcP X.prog X.w A s (.ref p) (.ref q) (eqD (.tup as) (.tup bs)) := by
  simp only [eqD]
  have l1 := v1.length; have l2 := v2.length; have l3 := r1.len; have l4 := r2.len
  have q := rcP_tuples (P := X.prog) (w := X.w) (e := eAt as bs) p1 p2 hu0 fun j q1 q2 => (by
    have e := items_eq ih in1 pa pb r1 r2 v1 v2 j (by simpa using q1) (by simpa using q2)
    simpa using e)
  rw [eqL_all]
  rw [List.size_toArray, List.size_toArray, ← l1, ← l2, l3, l4] at q
  exact q
theorem dct_rc {m : Nat} {A : Around} (ih : EqGoal X p0 G s m) (hu0 : A.units < cLine) (in1 : A.in1.units + m < cLine) {p q : Addr} {xs ys : List (Key × V)} {as bs : List (Key × D)} {us1 us2 : List (Key × Value)} (pa : plainK as m = true) (pb : plainK bs m = true) (r1 : RepK X.K p0 G xs as) (r2 : RepK X.K p0 G ys bs)
    (v1 : KV xs us1) (v2 : KV ys us2) (y1 : (p == sysModules) = false) (y2 : (q == sysModules) = false) (d1 : s.heap.DictOf (mixKind X.prog X.w) p us1) (d2 : s.heap.DictOf (mixKind X.prog X.w) q us2) : RcP X.prog X.w A s (.ref p) (.ref q) (eqD (.dct as) (.dct bs)) := by
  simp only [eqD]
  intro E Q q
  have l1 := v1.length; have l2 := v2.length; have l3 := repK_len r1; have l4 := repK_len r2
  refine PySem.W.rcP_dicts (r := eqK as bs) y1 y2 d1 d2 hu0 (fun _ => hits_eq ih in1 pb r2 v2 as pa r1 v1) E Q ?_
  rw [← l1, ← l2, l3, l4]
  exact q
theorem eq_step (I : Inv X pins σ H s) (le : Le G H) (n : Nat) (ih : ∀ m, n = m + 1 → EqGoal X p0 G s m) : EqGoal X p0 G s n := by
  intro A hu x y v u a b pa pb ra rb rv ru
  have hu0 : A.units < cLine := by omega
  have in1 : ∀ m, n = m + 1 → A.in1.units + m < cLine := fun m e => by show A.units + 1 + m < cLine; omega
  have inj : ∀ {p : Addr}, Rep X.K p0 G (.ref p) a → Rep X.K p0 G (.ref p) b → eqD a b = true := fun {p} h1 h2 => by
    rw [Rep.inj I le n a b (.ref p) pa pb h1 h2]; exact eqD_refl n b pb
  cases ra with
  | non =>
    cases (show v = Value.none from rv)
    cases rb with
    | non =>
      cases (show u = Value.none from ru)
      exact ⟨dRc RcAt.none_none, (EqAt.same _).eqP⟩
    | bl b2 =>
      cases (show u = Value.bool _ from ru)
      exact ⟨dRc (RcAt.none_bool b2), (EqAt.none_bool b2).eqP⟩
    | int i2 =>
      obtain ⟨tu, rfl⟩ := (show ∃ t, u = Value.int _ t from ru)
      exact ⟨dRc (RcAt.none_int i2 tu), (EqAt.none_int i2 tu).eqP⟩
    | str s2 =>
      obtain ⟨tu, rfl⟩ := (show ∃ t, u = Value.str _ t from ru)
      exact ⟨dRc (RcAt.none_str s2 tu), (EqAt.none_str s2 tu).eqP⟩
    | lst h2 r2 =>
      cases (show u = Value.ref _ from ru)
      obtain ⟨us2, v2, p2, _⟩ := I.list (le_l le (.inl h2))
      exact ⟨dRc (RcAt.none_list p2.isList hu0), (EqAt.none_list p2.isList hu0).eqP⟩
    | tup h2 r2 =>
      cases (show u = Value.ref _ from ru)
      obtain ⟨us2, v2, p2, _⟩ := I.tuple (le_t le h2)
      exact ⟨dRc (RcAt.none_tuple p2 hu0), (EqAt.none_tuple p2 hu0).eqP⟩
    | dct h2 r2 =>
      cases (show u = Value.ref _ from ru)
      obtain ⟨y2, ⟨us2, v2, d2⟩, p2⟩ := dic_of I le h2
      exact ⟨rcP_none_dict p2 hu0, (rcP_none_dict p2 hu0).eqP (beq_eq_false_iff_ne.mpr fun z => by cases z) (fun _ _ _ _ z => by cases z)⟩
    | ref _ => cases n <;> simp [plain] at pb
    | ty _ => cases n <;> simp [plain] at pb
    | pen => cases n <;> simp [plain] at pb
    | ins _ _ => cases n <;> simp [plain] at pb
  | bl b1 =>
    cases (show v = Value.bool _ from rv)
    cases rb with
    | non =>
      cases (show u = Value.none from ru)
      exact ⟨dRc (RcAt.bool_none b1), (EqAt.bool_none b1).eqP⟩
    | bl b2 =>
      cases (show u = Value.bool _ from ru)
      exact ⟨dRc (RcAt.bool_bool b1 b2), (EqAt.bool_bool b1 b2).eqP⟩
    | int i2 =>
      obtain ⟨tu, rfl⟩ := (show ∃ t, u = Value.int _ t from ru)
      exact ⟨dRc (RcAt.bool_int b1 i2 tu), (EqAt.bool_int b1 i2 tu).eqP⟩
    | str s2 =>
      obtain ⟨tu, rfl⟩ := (show ∃ t, u = Value.str _ t from ru)
      exact ⟨dRc (RcAt.bool_str b1 s2 tu), (EqAt.bool_str b1 s2 tu).eqP⟩
    | lst h2 r2 =>
      cases (show u = Value.ref _ from ru)
      obtain ⟨us2, v2, p2, _⟩ := I.list (le_l le (.inl h2))
      exact ⟨dRc (RcAt.bool_list b1 p2.isList hu0), (EqAt.bool_list b1 p2.isList hu0).eqP⟩
    | tup h2 r2 =>
      cases (show u = Value.ref _ from ru)
      obtain ⟨us2, v2, p2, _⟩ := I.tuple (le_t le h2)
      exact ⟨dRc (RcAt.bool_tuple b1 p2 hu0), (EqAt.bool_tuple b1 p2 hu0).eqP⟩
    | dct h2 r2 =>
      cases (show u = Value.ref _ from ru)
      obtain ⟨y2, ⟨us2, v2, d2⟩, p2⟩ := dic_of I le h2
      exact ⟨rcP_bool_dict b1 p2 hu0, (rcP_bool_dict b1 p2 hu0).eqP (beq_eq_false_iff_ne.mpr fun z => by cases z) (fun _ _ _ _ z => by cases z)⟩
    | ref _ => cases n <;> simp [plain] at pb
    | ty _ => cases n <;> simp [plain] at pb
    | pen => cases n <;> simp [plain] at pb
    | ins _ _ => cases n <;> simp [plain] at pb
  | int i1 =>
    obtain ⟨tv, rfl⟩ := (show ∃ t, v = Value.int _ t from rv)
    cases rb with
    | non =>
      cases (show u = Value.none from ru)
      exact ⟨dRc (RcAt.int_none i1 tv), (EqAt.int_none i1 tv).eqP⟩
    | bl b2 =>
      cases (show u = Value.bool _ from ru)
      exact ⟨dRc (RcAt.int_bool i1 tv b2), (EqAt.int_bool i1 tv b2).eqP⟩
    | int i2 =>
      obtain ⟨tu, rfl⟩ := (show ∃ t, u = Value.int _ t from ru)
      exact ⟨dRc (RcAt.int_int i1 tv i2 tu), (EqAt.int_int i1 tv i2 tu).eqP⟩
    | str s2 =>
      obtain ⟨tu, rfl⟩ := (show ∃ t, u = Value.str _ t from ru)
      exact ⟨dRc (RcAt.int_str i1 tv s2 tu), (EqAt.int_str i1 tv s2 tu).eqP⟩
    | lst h2 r2 =>
      cases (show u = Value.ref _ from ru)
      obtain ⟨us2, v2, p2, _⟩ := I.list (le_l le (.inl h2))
      exact ⟨dRc (RcAt.int_list i1 tv p2.isList hu0), (EqAt.int_list i1 tv p2.isList hu0).eqP⟩
    | tup h2 r2 =>
      cases (show u = Value.ref _ from ru)
      obtain ⟨us2, v2, p2, _⟩ := I.tuple (le_t le h2)
      exact ⟨dRc (RcAt.int_tuple i1 tv p2 hu0), (EqAt.int_tuple i1 tv p2 hu0).eqP⟩
    | dct h2 r2 =>
      cases (show u = Value.ref _ from ru)
      obtain ⟨y2, ⟨us2, v2, d2⟩, p2⟩ := dic_of I le h2
      exact ⟨rcP_int_dict i1 tv p2 hu0, (rcP_int_dict i1 tv p2 hu0).eqP (beq_eq_false_iff_ne.mpr fun z => by cases z) (fun _ _ _ _ z => by cases z)⟩
    | ref _ => cases n <;> simp [plain] at pb
    | ty _ => cases n <;> simp [plain] at pb
    | pen => cases n <;> simp [plain] at pb
    | ins _ _ => cases n <;> simp [plain] at pb
  | str s1 =>
    obtain ⟨tv, rfl⟩ := (show ∃ t, v = Value.str _ t from rv)
    cases rb with
    | non =>
      cases (show u = Value.none from ru)
      exact ⟨dRc (RcAt.str_none s1 tv), (EqAt.str_none s1 tv).eqP⟩
    | bl b2 =>
      cases (show u = Value.bool _ from ru)
      exact ⟨dRc (RcAt.str_bool s1 tv b2), (EqAt.str_bool s1 tv b2).eqP⟩
    | int i2 =>
      obtain ⟨tu, rfl⟩ := (show ∃ t, u = Value.int _ t from ru)
      exact ⟨dRc (RcAt.str_int s1 tv i2 tu), (EqAt.str_int s1 tv i2 tu).eqP⟩
    | str s2 =>
      obtain ⟨tu, rfl⟩ := (show ∃ t, u = Value.str _ t from ru)
      exact ⟨dRc (RcAt.str_str s1 tv s2 tu), (EqAt.str_str s1 tv s2 tu).eqP⟩
    | lst h2 r2 =>
      cases (show u = Value.ref _ from ru)
      obtain ⟨us2, v2, p2, _⟩ := I.list (le_l le (.inl h2))
      exact ⟨dRc (RcAt.str_list s1 tv p2.isList hu0), (EqAt.str_list s1 tv p2.isList hu0).eqP⟩
    | tup h2 r2 =>
      cases (show u = Value.ref _ from ru)
      obtain ⟨us2, v2, p2, _⟩ := I.tuple (le_t le h2)
      exact ⟨dRc (RcAt.str_tuple s1 tv p2 hu0), (EqAt.str_tuple s1 tv p2 hu0).eqP⟩
    | dct h2 r2 =>
      cases (show u = Value.ref _ from ru)
      obtain ⟨y2, ⟨us2, v2, d2⟩, p2⟩ := dic_of I le h2
      exact ⟨rcP_str_dict s1 tv p2 hu0, (rcP_str_dict s1 tv p2 hu0).eqP (beq_eq_false_iff_ne.mpr fun z => by cases z) (fun _ _ _ _ z => by cases z)⟩
    | ref _ => cases n <;> simp [plain] at pb
    | ty _ => cases n <;> simp [plain] at pb
    | pen => cases n <;> simp [plain] at pb
    | ins _ _ => cases n <;> simp [plain] at pb
  | lst h1 r1 =>
    cases (show v = Value.ref _ from rv)
    obtain ⟨us1, v1, p1, _⟩ := I.list (le_l le (.inl h1))
    cases rb with
    | non =>
      cases (show u = Value.none from ru)
      exact ⟨dRc (RcAt.list_none p1.isList hu0), (EqAt.list_none p1.isList hu0).eqP⟩
    | bl b2 =>
      cases (show u = Value.bool _ from ru)
      exact ⟨dRc (RcAt.list_bool b2 p1.isList hu0), (EqAt.list_bool b2 p1.isList hu0).eqP⟩
    | int i2 =>
      obtain ⟨tu, rfl⟩ := (show ∃ t, u = Value.int _ t from ru)
      exact ⟨dRc (RcAt.list_int i2 tu p1.isList hu0), (EqAt.list_int i2 tu p1.isList hu0).eqP⟩
    | str s2 =>
      obtain ⟨tu, rfl⟩ := (show ∃ t, u = Value.str _ t from ru)
      exact ⟨dRc (RcAt.list_str s2 tu p1.isList hu0), (EqAt.list_str s2 tu p1.isList hu0).eqP⟩
    | lst h2 r2 =>
      cases (show u = Value.ref _ from ru)
      obtain ⟨us2, v2, p2, _⟩ := I.list (le_l le (.inl h2))
      cases n with
      | zero => simp [plain] at pa
      | succ m =>
        have goal := lst_rc (ih m rfl) hu0 (in1 m rfl) (by simpa [plain] using pa) (by simpa [plain] using pb) r1 r2 v1 v2 p1.isList p2.isList
        exact ⟨goal, refs_eq goal fun z => by subst z; exact inj (.lst h1 r1) (.lst h2 r2)⟩
    | tup h2 r2 =>
      cases (show u = Value.ref _ from ru)
      obtain ⟨us2, v2, p2, _⟩ := I.tuple (le_t le h2)
      exact ⟨dRc (RcAt.list_tuple p1.isList p2 hu0), (EqAt.list_tuple p1.isList p2 hu0).eqP⟩
    | dct h2 r2 =>
      cases (show u = Value.ref _ from ru)
      obtain ⟨y2, ⟨us2, v2, d2⟩, p2⟩ := dic_of I le h2
      obtain ⟨z1, z2, z3⟩ := rcP_dict_list (P := X.prog) (w := X.w) p2 p1.isList hu0
      exact ⟨z3, eqP_refs z1.symm z3⟩
    | ref _ => cases n <;> simp [plain] at pb
    | ty _ => cases n <;> simp [plain] at pb
    | pen => cases n <;> simp [plain] at pb
    | ins _ _ => cases n <;> simp [plain] at pb
  | tup h1 r1 =>
    cases (show v = Value.ref _ from rv)
    obtain ⟨us1, v1, p1, _⟩ := I.tuple (le_t le h1)
    cases rb with
    | non =>
      cases (show u = Value.none from ru)
      exact ⟨dRc (RcAt.tuple_none p1 hu0), (EqAt.tuple_none p1 hu0).eqP⟩
    | bl b2 =>
      cases (show u = Value.bool _ from ru)
      exact ⟨dRc (RcAt.tuple_bool b2 p1 hu0), (EqAt.tuple_bool b2 p1 hu0).eqP⟩
    | int i2 =>
      obtain ⟨tu, rfl⟩ := (show ∃ t, u = Value.int _ t from ru)
      exact ⟨dRc (RcAt.tuple_int i2 tu p1 hu0), (EqAt.tuple_int i2 tu p1 hu0).eqP⟩
    | str s2 =>
      obtain ⟨tu, rfl⟩ := (show ∃ t, u = Value.str _ t from ru)
      exact ⟨dRc (RcAt.tuple_str s2 tu p1 hu0), (EqAt.tuple_str s2 tu p1 hu0).eqP⟩
    | lst h2 r2 =>
      cases (show u = Value.ref _ from ru)
      obtain ⟨us2, v2, p2, _⟩ := I.list (le_l le (.inl h2))
      exact ⟨dRc (RcAt.tuple_list p1 p2.isList hu0), (EqAt.tuple_list p1 p2.isList hu0).eqP⟩
    | tup h2 r2 =>
      cases (show u = Value.ref _ from ru)
      obtain ⟨us2, v2, p2, _⟩ := I.tuple (le_t le h2)
      cases n with
      | zero => simp [plain] at pa
      | succ m =>
        have goal := tup_rc (ih m rfl) hu0 (in1 m rfl) (by simpa [plain] using pa) (by simpa [plain] using pb) r1 r2 v1 v2 p1 p2
        exact ⟨goal, refs_eq goal fun z => by subst z; exact inj (.tup h1 r1) (.tup h2 r2)⟩
    | dct h2 r2 =>
      cases (show u = Value.ref _ from ru)
      obtain ⟨y2, ⟨us2, v2, d2⟩, p2⟩ := dic_of I le h2
      obtain ⟨z1, z2, z3⟩ := rcP_dict_tuple (P := X.prog) (w := X.w) p2 p1 hu0
      exact ⟨z3, eqP_refs z1.symm z3⟩
    | ref _ => cases n <;> simp [plain] at pb
    | ty _ => cases n <;> simp [plain] at pb
    | pen => cases n <;> simp [plain] at pb
    | ins _ _ => cases n <;> simp [plain] at pb
  | dct h1 r1 =>
    cases (show v = Value.ref _ from rv)
    obtain ⟨y1, ⟨us1, v1, d1⟩, p1⟩ := dic_of I le h1
    cases rb with
    | non =>
      cases (show u = Value.none from ru)
      exact ⟨rcP_dict_none p1 hu0, (rcP_dict_none p1 hu0).eqP (beq_eq_false_iff_ne.mpr fun z => by cases z) (fun _ _ _ _ z => by cases z)⟩
    | bl b2 =>
      cases (show u = Value.bool _ from ru)
      exact ⟨rcP_dict_bool b2 p1 hu0, (rcP_dict_bool b2 p1 hu0).eqP (beq_eq_false_iff_ne.mpr fun z => by cases z) (fun _ _ _ _ z => by cases z)⟩
    | int i2 =>
      obtain ⟨tu, rfl⟩ := (show ∃ t, u = Value.int _ t from ru)
      exact ⟨rcP_dict_int i2 tu p1 hu0, (rcP_dict_int i2 tu p1 hu0).eqP (beq_eq_false_iff_ne.mpr fun z => by cases z) (fun _ _ _ _ z => by cases z)⟩
    | str s2 =>
      obtain ⟨tu, rfl⟩ := (show ∃ t, u = Value.str _ t from ru)
      exact ⟨rcP_dict_str s2 tu p1 hu0, (rcP_dict_str s2 tu p1 hu0).eqP (beq_eq_false_iff_ne.mpr fun z => by cases z) (fun _ _ _ _ z => by cases z)⟩
    | lst h2 r2 =>
      cases (show u = Value.ref _ from ru)
      obtain ⟨us2, v2, p2, _⟩ := I.list (le_l le (.inl h2))
      obtain ⟨z1, z2, z3⟩ := rcP_dict_list (P := X.prog) (w := X.w) p1 p2.isList hu0
      exact ⟨z2, eqP_refs z1 z2⟩
    | tup h2 r2 =>
      cases (show u = Value.ref _ from ru)
      obtain ⟨us2, v2, p2, _⟩ := I.tuple (le_t le h2)
      obtain ⟨z1, z2, z3⟩ := rcP_dict_tuple (P := X.prog) (w := X.w) p1 p2 hu0
      exact ⟨z2, eqP_refs z1 z2⟩
    | dct h2 r2 =>
      cases (show u = Value.ref _ from ru)
      obtain ⟨y2, ⟨us2, v2, d2⟩, p2⟩ := dic_of I le h2
      cases n with
      | zero => simp [plain] at pa
      | succ m =>
        simp only [plain, Bool.and_eq_true] at pa pb
        have goal' := dct_rc (ih m rfl) hu0 (in1 m rfl) pa.1 pb.1 r1 r2 v1 v2 y1 y2 d1 d2
        exact ⟨goal', refs_eq goal' fun z => by subst z; exact inj (.dct h1 r1) (.dct h2 r2)⟩
    | ref _ => cases n <;> simp [plain] at pb
    | ty _ => cases n <;> simp [plain] at pb
    | pen => cases n <;> simp [plain] at pb
    | ins _ _ => cases n <;> simp [plain] at pb
  | ref _ => cases n <;> simp [plain] at pa
  | ty _ => cases n <;> simp [plain] at pa
  | pen => cases n <;> simp [plain] at pa
  | ins _ _ => cases n <;> simp [plain] at pa
/-- THE THEOREM: == of plain data -/
theorem eq_run (I : Inv X pins σ H s) (le : Le G H) : ∀ (n : Nat), EqGoal X p0 G s n
  | 0 => eq_step I le 0 fun m e => by omega
  | n + 1 => eq_step I le (n + 1) fun m e => by cases e; exact eq_run I le n
end
end DL

/-! DLI: operators, subscripts, built-ins over data. -/
namespace PySem.SeqAt
open AutoSeq1 (wpAny_loadPart')
open MeetsSeq
section
variable {P : Program} {w : World} {A : Around} {s : Shared}
theorem tup_neIn (l b : Addr) (xs ys : Array Value) (n n2 : Nat) (dd dd2 : Option Addr) (sl sl2 : Array (Option Value)) (e : Nat → Bool) :
    MeetsIn P w (Builtin.«tuple.__ne__» ⟨[.ref l, .ref b], []⟩)
      (fun A R s => s.heap.get? l = some { cls := .type "tuple", dict := dd, data := .seq xs n, slots := sl } ∧ s.heap.get? b = some { cls := .type "tuple", dict := dd2, data := .seq ys n2, slots := sl2 } ∧
        (∀ j (h1 : j < xs.size) (h2 : j < ys.size), EqP P w A.in1 s xs[j] ys[j] (e j)) ∧ R (.ok (.ret (.bool (!((List.range (min xs.size ys.size)).all e && xs.size == ys.size))))) s) := by
  intro A R s h
  obtain ⟨hp, gn, dr, tk, os⟩ := s
  obtain ⟨hl, hb, he, h⟩ := h
  have f2 := AutoSeq1.sub_tuple_tuple
  have hZ : (xs.toList.zip ys.toList).length = min xs.size ys.size := by simp
  wp_walk using wpAny_loadPart' hl, wpAny_loadPart' hb, wpAny_forIn_list _ (fun more b s' => b.1 = none ∧ s' = ⟨hp, gn, dr, tk, os⟩ ∧ ∃ i, more = (xs.toList.zip ys.toList).drop i ∧
    R (.ok (.ret (.bool (!(((List.range (min xs.size ys.size)).drop i).all e && xs.size == ys.size))))) ⟨hp, gn, dr, tk, os⟩) _
  case turn =>
    rintro ⟨y, x⟩ more b s' ⟨hb', rfl, i, hz, hR⟩
    have hlt : i < (xs.toList.zip ys.toList).length := Nat.lt_of_not_le fun q => by rw [List.drop_of_length_le q] at hz; cases hz
    have hm : i < min xs.size ys.size := hZ ▸ hlt
    have h1 : i < xs.size := by omega
    have h2 : i < ys.size := by omega
    rw [List.drop_eq_getElem_cons hlt] at hz
    injection hz with hyx hrest
    have hy : y = xs[i] := by simpa using congrArg Prod.fst hyx
    have hx : x = ys[i] := by simpa using congrArg Prod.snd hyx
    subst hy hx
    have hd : (List.range (min xs.size ys.size)).drop i = i :: (List.range (min xs.size ys.size)).drop (i + 1) := by simp [List.drop_eq_getElem_cons, hm]
    rw [hd, List.all_cons] at hR
    refine wpAny_bind (he i h1 h2 _ _ ?_)
    cases q : e i with
    | true => rw [q] at hR; wp_walk; exact ⟨rfl, rfl, i + 1, hrest, by simpa using hR⟩
    | false => rw [q] at hR; wp_walk; simpa using hR
  case fin =>
    rintro ⟨b1, b2⟩ s' ⟨hb', rfl, i, hz, hR⟩
    simp only at hb'
    subst hb'
    have hge : min xs.size ys.size ≤ i := Nat.le_of_not_lt fun q => by rw [List.drop_eq_getElem_cons (hZ ▸ q)] at hz; cases hz
    rw [List.drop_of_length_le (by simpa using hge)] at hR
    wp_walk
    simpa [Builtin.Tuple.tupleCompareSizes, bne] using hR
  case h => exact ⟨rfl, rfl, 0, rfl, by simpa using h⟩
theorem rcNeP_tuples {l b : Addr} {xs ys : Array Value} {e : Nat → Bool} {E Q : Value → Shared → Prop} (hl : s.heap.IsTuple l xs) (hb : s.heap.IsTuple b ys) (hu : A.units < cLine)
    (he : ∀ j (h1 : j < xs.size) (h2 : j < ys.size), EqP P w A.in1 s xs[j] ys[j] (e j)) (h : Q (.bool (!((List.range (min xs.size ys.size)).all e && xs.size == ys.size))) s) : wpAny (model P w) A (richCompare .NotEq (.ref l) (.ref b)) Q E s := by
  obtain ⟨⟨cls, dd, data, sl⟩, ho, hc, n, hd⟩ := id hl
  obtain ⟨⟨cls2, dd2, data2, sl2⟩, ho2, hc2, n2, hd2⟩ := id hb
  simp only at hc hd hc2 hd2
  subst hc hd hc2 hd2
  exact wpAny_richCompare_same_room (op := .NotEq) ⟨_, ho, rfl⟩ ⟨_, ho2, rfl⟩ F.slot_tuple_ne (call_meetsIn F.slot_tuple_ne ⟨_, ho, rfl⟩ F.entry_tuple_ne (F.args_tuple_ne_2 _ _) (tup_neIn l b xs ys n n2 dd dd2 sl sl2 e)
    ⟨ho, ho2, he, ⟨(fun x => nomatch x), h⟩⟩) hu
end
end PySem.SeqAt
namespace DL
open PySem L2 PySem.Spec PyProof.Rows PySem.SeqAt
/-! ### data without dicts, as the library's -/
def kPy : Key → PyData
  | .inl i => .int i
  | .inr s => .str s
mutual
def toPy : D → PyData
  | .non => .none
  | .bl b => .bool b
  | .int i => .int i
  | .str x => .str x
  | .lst xs => .list (toPyL xs)
  | .tup xs => .tuple (toPyL xs)
  | .dct xs => .dict (toPyK xs)
  | _ => .none
def toPyL : List D → List PyData
  | [] => []
  | x :: xs => toPy x :: toPyL xs
def toPyK : List (Key × D) → List (PyData × PyData)
  | [] => []
  | (k, x) :: xs => (kPy k, toPy x) :: toPyK xs
end
mutual
/-- plain and without dicts -/
def noDic : D → Nat → Bool
  | .non, _ => true
  | .bl _, _ => true
  | .int _, _ => true
  | .str s, _ => PyData.strOk s
  | .lst xs, n + 1 => noDicL xs n
  | .tup xs, n + 1 => noDicL xs n
  | _, _ => false
def noDicL : List D → Nat → Bool
  | [], _ => true
  | x :: xs, n => noDic x n && noDicL xs n
end
section
variable {K : PySem.W.Frag} {p0 : Addr} {G H : Hp}
mutual
theorem Rep.dp (le : Le G H) : ∀ (n : Nat) (a : D) (x : V), noDic a n = true → Rep K p0 G x a → Dp K H x (toPy a)
  | n, _, _, _, .non => by simp only [toPy]; exact .non
  | n, _, _, _, .bl _ => by simp only [toPy]; exact .bl _
  | n, _, _, _, .int _ => by simp only [toPy]; exact .int _
  | n, _, _, _, .str _ => by simp only [toPy]; exact .str _
  | n, _, _, h, .ref _ => by cases n <;> simp [noDic] at h
  | n, _, _, h, .ty _ => by cases n <;> simp [noDic] at h
  | n, _, _, h, .pen => by cases n <;> simp [noDic] at h
  | n, _, _, h, .ins _ _ => by cases n <;> simp [noDic] at h
  | n, _, _, h, .dct _ _ => by cases n <;> simp [noDic] at h
  | 0, _, _, h, .lst _ _ => by simp [noDic] at h
  | 0, _, _, h, .tup _ _ => by simp [noDic] at h
  | n + 1, _, _, h, .lst h1 r1 => by simp only [toPy]; exact .lst (le_l le (.inl h1)) (RepL.dp le n _ _ (by simpa [noDic] using h) r1)
  | n + 1, _, _, h, .tup h1 r1 => by simp only [toPy]; exact .tup (le_t le h1) (RepL.dp le n _ _ (by simpa [noDic] using h) r1)
theorem RepL.dp (le : Le G H) : ∀ (n : Nat) (a : List D) (x : List V), noDicL a n = true → RepL K p0 G x a → DpAll K H x (toPyL a)
  | n, _, _, _, .nil => by simp only [toPyL]; exact .nil
  | n, _, _, h, .cons h1 r1 => by
    simp only [noDicL, Bool.and_eq_true] at h
    simp only [toPyL]
    exact .cons (Rep.dp le n _ _ h.1 h1) (RepL.dp le n _ _ h.2 r1)
end
mutual
theorem eqv_eq : ∀ (a b : D) (n m : Nat), noDic a n = true → noDic b m = true → PyData.eqv (toPy a) (toPy b) = eqD a b
  | .non, b, n, m, ha, hb => by cases b <;> (try (cases m <;> simp [noDic] at hb; done)) <;> simp [toPy, PyData.eqv, eqD]
  | .bl q, b, n, m, ha, hb => by cases b <;> (try (cases m <;> simp [noDic] at hb; done)) <;> simp [toPy, PyData.eqv, eqD]
  | .int i, b, n, m, ha, hb => by cases b <;> (try (cases m <;> simp [noDic] at hb; done)) <;> simp [toPy, PyData.eqv, eqD]
  | .str s, b, n, m, ha, hb => by cases b <;> (try (cases m <;> simp [noDic] at hb; done)) <;> simp [toPy, PyData.eqv, eqD]
  | .lst xs, b, n, m, ha, hb => by
    cases n with
    | zero => simp [noDic] at ha
    | succ n =>
      cases b <;> (try (cases m <;> simp [noDic] at hb; done)) <;> (try (simp [toPy, PyData.eqv, eqD]; done))
      cases m with
      | zero => simp [noDic] at hb
      | succ m => simp only [toPy, PyData.eqv, eqD]; exact eqvL_eq xs _ n m (by simpa [noDic] using ha) (by simpa [noDic] using hb)
  | .tup xs, b, n, m, ha, hb => by
    cases n with
    | zero => simp [noDic] at ha
    | succ n =>
      cases b <;> (try (cases m <;> simp [noDic] at hb; done)) <;> (try (simp [toPy, PyData.eqv, eqD]; done))
      cases m with
      | zero => simp [noDic] at hb
      | succ m => simp only [toPy, PyData.eqv, eqD]; exact eqvL_eq xs _ n m (by simpa [noDic] using ha) (by simpa [noDic] using hb)
  | .dct _, b, n, m, ha, hb => by cases n <;> simp [noDic] at ha
  | .ins _ _, b, n, m, ha, hb => by cases n <;> simp [noDic] at ha
  | .ref _, b, n, m, ha, hb => by cases n <;> simp [noDic] at ha
  | .ty _, b, n, m, ha, hb => by cases n <;> simp [noDic] at ha
  | .pen, b, n, m, ha, hb => by cases n <;> simp [noDic] at ha
theorem eqvL_eq : ∀ (a b : List D) (n m : Nat), noDicL a n = true → noDicL b m = true → PyData.eqvAll (toPyL a) (toPyL b) = eqL a b
  | [], [], _, _, _, _ => by simp [toPyL, PyData.eqvAll, eqL]
  | [], _ :: _, _, _, _, _ => by simp [toPyL, PyData.eqvAll, eqL]
  | _ :: _, [], _, _, _, _ => by simp [toPyL, PyData.eqvAll, eqL]
  | x :: xs, y :: ys, n, m, ha, hb => by
    simp only [noDicL, Bool.and_eq_true] at ha hb
    simp only [toPyL, PyData.eqvAll, eqL, eqv_eq x y n m ha.1 hb.1, eqvL_eq xs ys n m ha.2 hb.2]
end
end

mutual
theorem lay_of : ∀ (a : D) (n : Nat), noDic a n = true → (toPy a).canLay0 = true ∧ (toPy a).depth ≤ n
  | .non, n, _ => by simp [toPy, PyData.canLay0, PyData.depth]
  | .bl _, n, _ => by simp [toPy, PyData.canLay0, PyData.depth]
  | .int _, n, _ => by simp [toPy, PyData.canLay0, PyData.depth]
  | .str _, n, h => by simp [toPy, PyData.canLay0, PyData.depth]; simpa [noDic] using h
  | .lst xs, 0, h => by simp [noDic] at h
  | .tup xs, 0, h => by simp [noDic] at h
  | .lst xs, n + 1, h => by
    obtain ⟨h1, h2⟩ := lay_ofL xs n (by simpa [noDic] using h)
    simp only [toPy, PyData.canLay0, PyData.depth]
    exact ⟨h1, by omega⟩
  | .tup xs, n + 1, h => by
    obtain ⟨h1, h2⟩ := lay_ofL xs n (by simpa [noDic] using h)
    simp only [toPy, PyData.canLay0, PyData.depth]
    exact ⟨h1, by omega⟩
  | .dct _, n, h => by cases n <;> simp [noDic] at h
  | .ins _ _, n, h => by cases n <;> simp [noDic] at h
  | .ref _, n, h => by cases n <;> simp [noDic] at h
  | .ty _, n, h => by cases n <;> simp [noDic] at h
  | .pen, n, h => by cases n <;> simp [noDic] at h
theorem lay_ofL : ∀ (a : List D) (n : Nat), noDicL a n = true → PyData.canLayAll0 (toPyL a) = true ∧ PyData.depthAll (toPyL a) ≤ n
  | [], n, _ => by simp [toPyL, PyData.canLayAll0, PyData.depthAll]
  | x :: xs, n, h => by
    simp only [noDicL, Bool.and_eq_true] at h
    obtain ⟨h1, h2⟩ := lay_of x n h.1
    obtain ⟨h3, h4⟩ := lay_ofL xs n h.2
    simp only [toPyL, PyData.canLayAll0, PyData.depthAll, Bool.and_eq_true]
    exact ⟨⟨h1, h3⟩, by omega⟩
end
theorem shaped_of {a : D} (h : noDic a 40 = true) : shaped (toPy a) = true := by
  obtain ⟨h1, h2⟩ := lay_of a 40 h
  unfold shaped
  rw [h1, decide_eq_true (by omega)]
  rfl

/-! ### == and != -/
section
variable {X : Cx} {c : Fr} {W : WX} {N : List Str} {sc : Scope} {k : Nat} {bb : Bool}
def oEq : DOp := fun x y P => (plain x 40 = true ∧ plain y 40 = true) ∧ P (.bl (eqD x y))
def rEq2 (K : PySem.W.Frag) (p0 : Addr) : R2 := fun x y H Q => ∃ G a b, Le G H ∧ Rep K p0 G x a ∧ Rep K p0 G y b ∧ plain a 40 = true ∧ plain b 40 = true ∧ Q (.bl (eqD a b)) H
theorem op_eq2 (hu : X.A.units + 64 < cLine) {p0 : Addr} : OpR X (compareOp .Eq) (rEq2 X.K p0) := by
  intro pins s σ H x y v u Q I rx ry ⟨G, a, b, le, ra, rb, pa, pb, q⟩
  exact (eq_run I le 40 X.A (by omega) x y v u a b pa pb ra rb rx ry).1 _ _ ⟨.bl _, H, I, rfl, q⟩
theorem o_eq (B : XB X c W N sc k bb) : OpD X c (compareOp .Eq) oEq :=
  ⟨_, op_eq2 (p0 := c.p0) B.room.units, fun G H σ δ u v x y P Q R ru rv ⟨⟨h1, h2⟩, p⟩ kk => ⟨G, x, y, R.le, by rw [B.hK]; exact ru, by rw [B.hK]; exact rv, h1, h2, kk _ _ G H p Go.refl R (.bl _)⟩⟩
/-- tuples of plain data; or no dicts at all -/
def oNe : DOp := fun x y P => (match x, y with
  | .tup _, .tup _ => plain x 40 = true ∧ plain y 40 = true
  | .str _, .str _ => True
  | _, _ => noDic x 40 = true ∧ noDic y 40 = true) ∧ P (.bl (!eqD x y))
def rNe2 (K : PySem.W.Frag) (p0 : Addr) : R2 := fun x y H Q => ∃ G as bs p q, Le G H ∧ x = .ref p ∧ y = .ref q ∧ Rep K p0 G x (.tup as) ∧ Rep K p0 G y (.tup bs) ∧ plain (.tup as) 40 = true ∧ plain (.tup bs) 40 = true ∧ Q (.bl (!eqD (.tup as) (.tup bs))) H
theorem op_ne2 (hu : X.A.units + 64 < cLine) {p0 : Addr} : OpR X (compareOp .NotEq) (rNe2 X.K p0) := by
  intro pins s σ H x y v u Q I rx ry ⟨G, as, bs, p, q, le, ex, ey, ra, rb, pa, pb, qq⟩
  subst ex ey
  cases (show v = Value.ref p from rx)
  cases (show u = Value.ref q from ry)
  cases ra with
  | tup h1 r1 =>
    cases rb with
    | tup h2 r2 =>
      obtain ⟨us1, v1, p1, _⟩ := I.tuple (le_t le h1)
      obtain ⟨us2, v2, p2, _⟩ := I.tuple (le_t le h2)
      have l1 := v1.length; have l2 := v2.length; have l3 := r1.len; have l4 := r2.len
      refine rcNeP_tuples (P := X.prog) (w := X.w) (e := eAt as bs) p1 p2 (by omega) (fun j q1 q2 => ?_) ?_
      · have e := items_eq (A := X.A.in1) (eq_run I le 39) (by show X.A.units + 1 + 39 < cLine; omega) (by simpa [plain] using pa) (by simpa [plain] using pb) r1 r2 v1 v2 j (by simpa using q1) (by simpa using q2)
        simpa using e
      · rw [List.size_toArray, List.size_toArray, ← l1, ← l2, l3, l4, ← eqL_all]
        simp only [eqD] at qq
        exact ⟨.bl _, H, I, rfl, qq⟩
theorem o_ne (B : XB X c W N sc k bb) : OpD X c (compareOp .NotEq) oNe := by
  refine ⟨_, (op_ne2 (p0 := c.p0) B.room.units).or ((op_neD B.room.units).or op_ne), fun G H σ δ u v x y P Q R ru rv ⟨h, p⟩ kk => ?_⟩
  have gen : (noDic x 40 = true ∧ noDic y 40 = true) → rNeD X.K u v H Q := fun ⟨h1, h2⟩ =>
    ⟨toPy x, toPy y, by rw [B.hK]; exact Rep.dp R.le 40 x u h1 ru, by rw [B.hK]; exact Rep.dp R.le 40 y v h2 rv, shaped_of h1, shaped_of h2, by rw [eqv_eq x y 40 40 h1 h2]; exact kk _ _ G H p Go.refl R (.bl _)⟩
  cases x with
  | tup as =>
    cases y with
    | tup bs =>
      left
      have ru' := ru
      have rv' := rv
      cases ru with
      | tup a1 a2 =>
        cases rv with
        | tup b1 b2 => exact ⟨G, as, bs, _, _, R.le, rfl, rfl, by rw [B.hK]; exact ru', by rw [B.hK]; exact rv', h.1, h.2, kk _ _ G H p Go.refl R (.bl _)⟩
    | _ => right; left; exact gen h
  | str s1 =>
    cases y with
    | str s2 =>
      right; right
      cases ru
      cases rv
      refine ⟨rfl, ?_⟩
      have e : (!decide (V.str s1 = V.str s2)) = !eqD (.str s1) (.str s2) := by rw [dec_str]; simp [eqD]
      rw [e]
      exact kk _ _ G H p Go.refl R (.bl _)
    | _ => right; left; exact gen h
  | _ => right; left; exact gen h
end
end DL

/-! DLJ: repr of plain data. -/
namespace DL
open PySem L2 PySem.Spec PyProof.Rows PySem.SeqAt
section
variable {X : Cx} {pins : List (Addr × Obj)} {σ : L2.St} {G H : Hp} {s : Shared} {p0 : Addr}
/-- all of bs bear data at most m deep -/
def Low (K : PySem.W.Frag) (p0 : Addr) (G : Hp) (m : Nat) (bs : List Addr) : Prop := ∀ b ∈ bs, ∃ y n, plain y n = true ∧ Rep K p0 G (.ref b) y ∧ (toPy y).depth ≤ m
theorem Low.up {K : PySem.W.Frag} {m m' : Nat} {bs : List Addr} (h : Low K p0 G m bs) (l : m ≤ m') : Low K p0 G m' bs := fun b hb =>
  let ⟨y, n, h1, h2, h3⟩ := h b hb
  ⟨y, n, h1, h2, Nat.le_trans h3 l⟩
theorem Low.two {K : PySem.W.Frag} {m : Nat} {bs cs : List Addr} (h : Low K p0 G m bs) (h' : Low K p0 G m cs) : Low K p0 G m (bs ++ cs) := fun b hb =>
  (List.mem_append.mp hb).elim (h b) (h' b)
theorem plain_up : ∀ (n m : Nat) (a : D), n ≤ m → plain a n = true → plain a m = true := by
  intro n
  induction n with
  | zero => intro m a _ h; cases a <;> simp [plain] at h <;> simp [plain]
  | succ n ih =>
    intro m a l h
    cases m with
    | zero => omega
    | succ m =>
      have l' : n ≤ m := by omega
      have hL : ∀ xs : List D, plainL xs n = true → plainL xs m = true := by
        intro xs
        induction xs with
        | nil => intro _; rfl
        | cons x xs ix =>
          intro q
          simp only [plainL, Bool.and_eq_true] at q ⊢
          exact ⟨ih m x l' q.1, ix q.2⟩
      have hK : ∀ xs : List (Key × D), plainK xs n = true → plainK xs m = true := by
        intro xs
        induction xs with
        | nil => intro _; rfl
        | cons x xs ix =>
          intro q
          obtain ⟨k, x⟩ := x
          simp only [plainK, Bool.and_eq_true] at q ⊢
          exact ⟨ih m x l' q.1, ix q.2⟩
      cases a <;> simp [plain] at h <;> simp [plain]
      · exact hL _ h
      · exact hL _ h
      · exact ⟨hK _ h.1, h.2⟩
theorem low_not (I : Inv X pins σ H s) (le : Le G H) {a : Addr} {d : D} {n m : Nat} {bs : List Addr} (pd : plain d n = true) (r : Rep X.K p0 G (.ref a) d) (hd : m < (toPy d).depth) (h : Low X.K p0 G m bs) : a ∉ bs := fun hm => by
  obtain ⟨y, k, h1, h2, h3⟩ := h a hm
  have e := Rep.inj I le (max n k) d y (.ref a) (plain_up n _ d (Nat.le_max_left _ _) pd) (plain_up k _ y (Nat.le_max_right _ _) h1) r h2
  rw [e] at hd
  omega
theorem Low.put {K : PySem.W.Frag} {a : Addr} {d : D} {n m : Nat} {bs : List Addr} (pd : plain d n = true) (r : Rep K p0 G (.ref a) d) (hm : m ≤ (toPy d).depth) (h : Low K p0 G m bs) : Low K p0 G (toPy d).depth (a :: bs) := fun b hb => by
  rcases List.mem_cons.mp hb with rfl | hb
  · exact ⟨d, n, pd, r, Nat.le_refl _⟩
  · exact h.up hm b hb
theorem key_shown (k : Key) (v : Value) (h : keyIs k v = true) (hs : (kPy k).showable = true) (hz : (kPy k).shown.length ≤ sizeLine) {P : Program} {w : World} (bs : List Addr) (h0 : Heap) (d : Nat) : ReprK P w bs h0 d v (kPy k).shown := by
  rcases keyIs_shape h with ⟨i, t, rfl, rfl⟩ | ⟨x, t, rfl, rfl⟩
  · simp only [kPy, PyData.shown]; exact .of_is (ReprIs.int t (by simpa [kPy, PyData.showable] using hs)) _ _ _
  · simp only [kPy, PyData.shown]; exact .of_is (ReprIs.str x t (by simpa [kPy, PyData.shown] using hz)) _ _ _
theorem entK_more {P : Program} {w : World} {h0 : Heap} {as as' : List Addr} {d d' : Nat} (hsub : ∀ b ∈ as, b ∈ as') (hd : d ≤ d') : ∀ {l : List DictEntry} {ts : List Str}, ReprEntriesK P w as h0 d l ts → ReprEntriesK P w as' h0 d' l ts
  | _, _, .nil => .nil
  | _, _, .cons hx hy hl => .cons ((hx.more hsub).level_le hd) ((hy.more hsub).level_le hd) (entK_more hsub hd hl)
mutual
theorem rk (I : Inv X pins σ H s) (le : Le G H) : ∀ (n : Nat) (a : D) (x : V) (v : Value), plain a n = true → (toPy a).showable = true → (toPy a).shown.length ≤ sizeLine → Rep X.K p0 G x a → RelV x v →
    ∃ bs, Low X.K p0 G (toPy a).depth bs ∧ ReprK X.prog X.w bs s.heap (toPy a).depth v (toPy a).shown
  | n, _, _, v, pa, hs, hz, .non, rv => by
    cases (show v = Value.none from rv)
    simp only [toPy, PyData.shown]; exact ⟨[], (fun _ h => nomatch h), .of_is ReprIs.none _ _ _⟩
  | n, .bl b, _, v, pa, hs, hz, .bl _, rv => by
    cases (show v = Value.bool b from rv)
    simp only [toPy, PyData.shown]; exact ⟨[], (fun _ h => nomatch h), .of_is (ReprIs.bool b) _ _ _⟩
  | n, .int i, _, v, pa, hs, hz, .int _, rv => by
    obtain ⟨t, rfl⟩ := (show ∃ t, v = Value.int i t from rv)
    simp only [toPy, PyData.shown]; exact ⟨[], (fun _ h => nomatch h), .of_is (ReprIs.int t (by simpa [toPy, PyData.showable] using hs)) _ _ _⟩
  | n, .str y, _, v, pa, hs, hz, .str _, rv => by
    obtain ⟨t, rfl⟩ := (show ∃ t, v = Value.str y t from rv)
    simp only [toPy, PyData.shown]; exact ⟨[], (fun _ h => nomatch h), .of_is (ReprIs.str y t (by simpa only [toPy, PyData.shown] using hz)) _ _ _⟩
  | n, _, _, v, pa, hs, hz, .ref _, rv => by cases n <;> simp [plain] at pa
  | n, _, _, v, pa, hs, hz, .ty _, rv => by cases n <;> simp [plain] at pa
  | n, _, _, v, pa, hs, hz, .pen, rv => by cases n <;> simp [plain] at pa
  | n, _, _, v, pa, hs, hz, .ins _ _, rv => by cases n <;> simp [plain] at pa
  | 0, _, _, v, pa, hs, hz, .lst _ _, rv => by simp [plain] at pa
  | 0, _, _, v, pa, hs, hz, .tup _ _, rv => by simp [plain] at pa
  | 0, _, _, v, pa, hs, hz, .dct _ _, rv => by simp [plain] at pa
  | n + 1, .lst xs, .ref a, v, pa, hs, hz, .lst (vs := vs) h1 r1, rv => by
    cases (show v = Value.ref a from rv)
    have hz' : (listText (PyData.shownAll (toPyL xs))).length ≤ sizeLine := by simpa only [toPy, PyData.shown] using hz
    obtain ⟨us, v1, p1, _⟩ := I.list (le_l le (.inl h1))
    obtain ⟨bs, hb, hk⟩ := rkL I le n xs vs us (by simpa [plain] using pa) (by simpa [toPy, PyData.showable] using hs) (fun t ht => Nat.le_trans (listText_mem_le ht) hz') r1 v1
    have r : Rep X.K p0 G (.ref a) (.lst xs) := .lst h1 r1
    have ed : (toPy (.lst xs)).depth = PyData.depthAll (toPyL xs) + 1 := by simp only [toPy, PyData.depth] <;> omega
    have hna : a ∉ bs := low_not I le pa r (by rw [ed]; omega) hb
    refine ⟨a :: bs, Low.put pa r (by rw [ed]; omega) hb, ?_⟩
    obtain ⟨o, k, q1, q2, q3, q4⟩ := p1
    rw [ed]
    simp only [toPy, PyData.shown]
    cases us with
    | nil =>
      cases v1
      cases r1
      simp only [toPyL, PyData.shownAll, listText_nil]
      exact ReprK.listEmpty q1 q2 q4
    | cons u l => exact ReprK.list q1 q2 q4 hna (by simpa using hk.length_eq) (fun i y e => hk.item i y (by simpa using e))
  | n + 1, .tup xs, .ref a, v, pa, hs, hz, .tup (vs := vs) h1 r1, rv => by
    cases (show v = Value.ref a from rv)
    have hz' : (tupleText (PyData.shownAll (toPyL xs))).length ≤ sizeLine := by simpa only [toPy, PyData.shown] using hz
    obtain ⟨us, v1, p1, _⟩ := I.tuple (le_t le h1)
    obtain ⟨bs, hb, hk⟩ := rkL I le n xs vs us (by simpa [plain] using pa) (by simpa [toPy, PyData.showable] using hs) (fun t ht => Nat.le_trans (tupleText_mem_le ht) hz') r1 v1
    have r : Rep X.K p0 G (.ref a) (.tup xs) := .tup h1 r1
    have ed : (toPy (.tup xs)).depth = PyData.depthAll (toPyL xs) + 1 := by simp only [toPy, PyData.depth] <;> omega
    have hna : a ∉ bs := low_not I le pa r (by rw [ed]; omega) hb
    refine ⟨a :: bs, Low.put pa r (by rw [ed]; omega) hb, ?_⟩
    obtain ⟨o, q1, q2, k, q3⟩ := p1
    rw [ed]
    simp only [toPy, PyData.shown]
    exact ReprK.tuple q1 q2 q3 hna (by simpa using hk)
  | n + 1, .dct xs, .ref a, v, pa, hs, hz, .dct (vs := vs) h1 r1, rv => by
    cases (show v = Value.ref a from rv)
    have hz' : (dictText (PyData.shownKv (toPyK xs))).length ≤ sizeLine := by simpa only [toPy, PyData.shown] using hz
    obtain ⟨hsys, ⟨us, v1, d1⟩, _⟩ := dic_of I le h1
    obtain ⟨o, es, ep, q1, q2, q3, q4, q5, q6⟩ := d1
    have pa' : plainK xs n = true := by
      simp only [plain, Bool.and_eq_true] at pa; exact pa.1
    obtain ⟨bs, hb, hk⟩ := rkK I le n xs vs us es.toList pa' (by simpa [toPy, PyData.showable] using hs) (fun t ht => Nat.le_trans (dictText_mem_le ht) hz') r1 v1 q5
    have r : Rep X.K p0 G (.ref a) (.dct xs) := .dct h1 r1
    have ed : (toPy (.dct xs)).depth = PyData.depthKv (toPyK xs) + 1 := by simp only [toPy, PyData.depth] <;> omega
    have hna : a ∉ bs := low_not I le pa r (by rw [ed]; omega) hb
    refine ⟨a :: bs, Low.put pa r (by rw [ed]; omega) hb, ?_⟩
    rw [ed]
    simp only [toPy, PyData.shown]
    exact ReprK.dict q1 q2.1 q3 hsys hna hk
theorem rkL (I : Inv X pins σ H s) (le : Le G H) : ∀ (n : Nat) (a : List D) (x : List V) (v : List Value), plainL a n = true → PyData.showableAll (toPyL a) = true → (∀ t ∈ PyData.shownAll (toPyL a), t.length ≤ sizeLine) → RepL X.K p0 G x a → Vals x v →
    ∃ bs, Low X.K p0 G (PyData.depthAll (toPyL a)) bs ∧ ReprAllK X.prog X.w bs s.heap (PyData.depthAll (toPyL a)) v (PyData.shownAll (toPyL a))
  | n, _, _, _, _, _, _, .nil, .nil => ⟨[], (fun _ h => nomatch h), by simp only [toPyL, PyData.shownAll]; exact .nil⟩
  | n, d :: ds, _ :: _, _ :: _, pa, hs, hz, .cons h1 r1, .cons v1 t1 => by
    simp only [plainL, Bool.and_eq_true] at pa
    simp only [toPyL, PyData.showableAll, Bool.and_eq_true] at hs
    obtain ⟨b1, l1, k1⟩ := rk I le n _ _ _ pa.1 hs.1 (hz _ (by simp only [toPyL, PyData.shownAll]; exact List.mem_cons_self ..)) h1 v1
    obtain ⟨b2, l2, k2⟩ := rkL I le n _ _ _ pa.2 hs.2 (fun t ht => hz t (by simp only [toPyL, PyData.shownAll]; exact List.mem_cons_of_mem _ ht)) r1 t1
    have m1 : (toPy d).depth ≤ PyData.depthAll (toPyL (d :: ds)) := by simp only [toPyL, PyData.depthAll]; omega
    have m2 : PyData.depthAll (toPyL ds) ≤ PyData.depthAll (toPyL (d :: ds)) := by simp only [toPyL, PyData.depthAll]; omega
    refine ⟨b1 ++ b2, (l1.up m1).two (l2.up m2), ?_⟩
    simp only [toPyL, PyData.shownAll]
    exact .cons ((k1.more fun b hb => List.mem_append_left _ hb).level_le m1) (k2.more_le (fun b hb => List.mem_append_right _ hb) m2)
theorem rkK (I : Inv X pins σ H s) (le : Le G H) : ∀ (n : Nat) (a : List (Key × D)) (x : List (Key × V)) (v : List (Key × Value)) (es : List DictEntry), plainK a n = true → PyData.showableKv (toPyK a) = true → (∀ t ∈ PyData.shownKv (toPyK a), t.length ≤ sizeLine) → RepK X.K p0 G x a → KV x v → Pairs (mixKind X.prog X.w) es v →
    ∃ bs, Low X.K p0 G (PyData.depthKv (toPyK a)) bs ∧ ReprEntriesK X.prog X.w bs s.heap (PyData.depthKv (toPyK a)) es (PyData.shownKv (toPyK a))
  | n, _, _, _, _, _, _, _, .nil, .nil, .nil => ⟨[], (fun _ h => nomatch h), by simp only [toPyK, PyData.shownKv]; exact .nil⟩
  | n, (k, d) :: ds, (_, _) :: _, (k2, u) :: us, e :: es, pa, hs, hz, .cons h1 r1, .cons v1 t1, .cons q1 q2 q3 => by
    simp only [plainK, Bool.and_eq_true] at pa
    simp only [toPyK, PyData.showableKv, Bool.and_eq_true] at hs
    obtain ⟨e1, e2⟩ := v1
    have e1 : k = k2 := e1
    subst e1
    have q2 : e.val = u := q2
    have hz0 := hz _ (by simp only [toPyK, PyData.shownKv]; exact List.mem_cons_self ..)
    rw [strLen_append, strLen_append] at hz0
    obtain ⟨b1, l1, k1⟩ := rk I le n _ _ _ pa.1 hs.1.2 (by omega) h1 e2
    obtain ⟨b2, l2, k2⟩ := rkK I le n _ _ _ _ pa.2 hs.2 (fun t ht => hz t (by simp only [toPyK, PyData.shownKv]; exact List.mem_cons_of_mem _ ht)) r1 t1 q3
    have m1 : (toPy d).depth ≤ PyData.depthKv (toPyK ((k, d) :: ds)) := by simp only [toPyK, PyData.depthKv]; omega
    have m2 : PyData.depthKv (toPyK ds) ≤ PyData.depthKv (toPyK ((k, d) :: ds)) := by simp only [toPyK, PyData.depthKv]; omega
    refine ⟨b1 ++ b2, (l1.up m1).two (l2.up m2), ?_⟩
    simp only [toPyK, PyData.shownKv]
    refine .cons (key_shown k e.key q1 hs.1.1 (by omega) _ _ _) ?_ (entK_more (fun b hb => List.mem_append_right _ hb) m2 k2)
    rw [q2]
    exact (k1.more fun b hb => List.mem_append_left _ hb).level_le m1
end
end
end DL

/-! DLK: built-in calls, operators, subscripts, slices over data. -/
namespace DL
open PySem L2 PySem.Spec PyProof.Rows PySem.SeqAt
section
variable {X : Cx} {c : Fr} {W : WX} {N : List Str} {sc : Scope} {k : Nat} {bb : Bool} {e a b : Expr} {es : List Expr} {pos p : Pos} {r ra rb : DTE} {rs : DTA} {x : Str} {id T : String}
abbrev DBu := List D → (D → Prop) → Prop
def DRL (c : Fr) (r : List V → Hp → VK → Prop) (o : DBu) : Prop := ∀ (G H : Hp) (σ : L2.St) (δ : S) (vs : List V) (ds : List D) (P : D → Prop) (Q : VK), Rel c G H σ δ → RepL c.K c.p0 G vs ds → o ds P →
  (∀ d w G' H', P d → Go c.p0 G H G' H' → Rel c G' H' σ δ → Rep c.K c.p0 G' w d → Q w H') → r vs H Q
structure BuD (X : Cx) (c : Fr) (f : Value) (o : DBu) : Prop where
  ex : ∃ r, CallR X f r ∧ DRL c r o
theorem BuD.or {f : Value} {o o' : DBu} (h : BuD X c f o) (h' : BuD X c f o') : BuD X c f (fun ds P => o ds P ∨ o' ds P) := by
  obtain ⟨r, h1, h2⟩ := h.ex
  obtain ⟨r', h1', h2'⟩ := h'.ex
  refine ⟨_, h1.or h1', fun G H σ δ vs ds P Q R rr o kk => ?_⟩
  rcases o with o | o
  · exact .inl (h2 G H σ δ vs ds P Q R rr o kk)
  · exact .inr (h2' G H σ δ vs ds P Q R rr o kk)
theorem BuD.imp {f : Value} {o o' : DBu} (h : BuD X c f o) (l : ∀ ds P, o' ds P → o ds P) : BuD X c f o' := by
  obtain ⟨r, h1, h2⟩ := h.ex
  exact ⟨r, h1, fun G H σ δ vs ds P Q R rr o kk => h2 G H σ δ vs ds P Q R rr (l _ _ o) kk⟩
def dBu (o : DBu) (rs : DTA) : DTE := fun δ P E => rs δ (fun ds δ1 => o ds (fun z => P z δ1)) E
theorem dbu_ok {o : DBu} {r : List V → Hp → VK → Prop} (hr : DRL c r o) {σ : L2.St} {H : Hp} {Q : VK} : liftE c W (dBu o rs) σ H Q → tCB r (liftA c W rs) σ H Q := fun ⟨G, δ, P, E, R, h, kk, x⟩ =>
  ⟨G, δ, _, E, R, h, fun ds δ1 vs G1 H1 p1 L1 R1 r1 => hr G1 H1 σ δ1 vs ds _ Q R1 r1 p1 fun d w G' H' q L R' rr => kk d δ1 w G' H' q (L1.trans L) R' rr, x⟩
theorem gX (B : XB X c W N sc k bb) (hg : sc.names.lookup x = some .globalImplicit) : Gl X x := by show X.env.scope.names.lookup x = _; rw [B.hs]; exact hg
/-- f(e, ..), f a built-in function -/
theorem de_bu {o : DBu} (B : XB X c W N sc k bb) (hm : c.mg x = none) (hv : bootBuiltins x = some (.builtin id)) (ho : BuD X c (.builtin id) o) (hg : sc.names.lookup x = some .globalImplicit) (ha : DA X c W (e :: es) rs) (hn : x ≠ "__name__" := by decide) (hdb : (x == ("__debug__" : Str)) = false := by decide)
    (he : starEach (e :: es) X.env = (false, eval e X.env) :: starEach es X.env := by rfl) (hpl : (backTo pos (starEach es X.env)).any (·.1) = false := by rfl) : DE X c W (.Call (.Name x p) (e :: es) [] pos) (dBu o rs) := by
  obtain ⟨r, h1, h2⟩ := ho.ex
  exact peI (pe_callB h1 (gX B hg) (by rw [B.hm]; exact hm) hv ha hn hdb he hpl) fun σ H Q => dbu_ok h2
theorem de_ty {o : DBu} (B : XB X c W N sc k bb) (hm : c.mg x = none) (hv : bootBuiltins x = some (.type T)) (ho : BuD X c (.type T) o) (hg : sc.names.lookup x = some .globalImplicit) (ha : DA X c W (e :: es) rs) (hn : x ≠ "__name__" := by decide) (hdb : (x == ("__debug__" : Str)) = false := by decide)
    (he : starEach (e :: es) X.env = (false, eval e X.env) :: starEach es X.env := by rfl) (hpl : (backTo pos (starEach es X.env)).any (·.1) = false := by rfl) : DE X c W (.Call (.Name x p) (e :: es) [] pos) (dBu o rs) := by
  obtain ⟨r, h1, h2⟩ := ho.ex
  exact peI (pe_callTy h1 (gX B hg) (by rw [B.hm]; exact hm) hv ha hn hdb he hpl) fun σ H Q => dbu_ok h2
/-- a built-in name as a value -/
theorem de_blt {v : V} {u : Value} {d : D} (B : XB X c W N sc k bb) (hg : sc.names.lookup x = some .globalImplicit) (hm : c.mg x = none) (hv : bootBuiltins x = some u) (rv : RelV v u) (hr : ∀ G, Rep c.K c.p0 G v d) (hn : x ≠ "__name__" := by decide) (hd : (x == ("__debug__" : Str)) = false := by decide) : DE X c W (.Name x pos) (dC d) :=
  peI (pe_bltn (gX B hg) (by rw [B.hm]; exact hm) hv rv hn hd) fun σ H Q ⟨G, δ, P, E, R, h, k, x⟩ => k _ _ _ G H h Go.refl R (hr G)

/-! ### repr, len, int, abs, list, tuple -/
theorem repr_run {pins : List (Addr × Obj)} {σ : L2.St} {G H : Hp} {s : Shared} {p0 : Addr} (I : Inv X pins σ H s) (le : Le G H) {A : Around} (hu : A.units + 60 < cLine) (gd : A.guards = some []) {a : D} {x : V} {v : Value} (pa : plain a 40 = true) (hs : (toPy a).showable = true) (hz : (toPy a).shown.length ≤ sizeLine) (r : Rep X.K p0 G x a) (rv : RelV x v) (dp : (toPy a).depth ≤ 50)
    {Q : Value → Shared → Prop} {E : Value → Shared → Prop} (q : ∀ u s', Inv X pins σ H s' → RelV (.str (toPy a).shown) u → Q u s') : wpAny (model X.prog X.w) A (call (.builtin "repr") [v]) Q E s := by
  have fin : ∀ h' u tk, (∀ b o, s.heap.get? b = some o → h'.get? b = some o) → Q (.str (toPy a).shown u) { s with heap := h', toks := tk } := fun h' u tk kk => q _ _ (I.kept kk) ⟨_, rfl⟩
  cases r with
  | non => cases (show v = Value.none from rv); refine PySem.P.repr_of_none ?_; simpa only [toPy, PyData.shown] using fin s.heap s.toks (s.toks + 1) (fun _ _ e => e)
  | bl b => cases (show v = Value.bool b from rv); refine PySem.P.repr_of_bool ?_; simpa only [toPy, PyData.shown] using fin s.heap s.toks (s.toks + 1) (fun _ _ e => e)
  | int i => obtain ⟨t, rfl⟩ := (show ∃ t, v = Value.int i t from rv); refine PySem.P.repr_of_int (by simpa [toPy, PyData.showable] using hs) ?_; simpa only [toPy, PyData.shown] using fin s.heap s.toks (s.toks + 1) (fun _ _ e => e)
  | str y => obtain ⟨t, rfl⟩ := (show ∃ t, v = Value.str y t from rv); refine PySem.P.repr_of_str ?_ (by simpa only [toPy, PyData.shown] using hz); simpa only [toPy, PyData.shown] using fin s.heap s.toks (s.toks + 1) (fun _ _ e => e)
  | ref _ => simp [plain] at pa
  | ty _ => simp [plain] at pa
  | pen => simp [plain] at pa
  | ins _ _ => simp [plain] at pa
  | @lst a vs xs h1 r1 =>
    cases (show v = Value.ref a from rv)
    have hz' : (listText (PyData.shownAll (toPyL xs))).length ≤ sizeLine := by simpa only [toPy, PyData.shown] using hz
    obtain ⟨us, v1, p1, _⟩ := I.list (le_l le (.inl h1))
    obtain ⟨bs, hb, hk⟩ := rkL I le 39 xs vs us (by simpa [plain] using pa) (by simpa [toPy, PyData.showable] using hs) (fun t ht => Nat.le_trans (listText_mem_le ht) hz') r1 v1
    have r : Rep X.K p0 G (.ref a) (.lst xs) := .lst h1 r1
    have ed : (toPy (.lst xs)).depth = PyData.depthAll (toPyL xs) + 1 := by simp only [toPy, PyData.depth] <;> omega
    have hna : a ∉ bs := low_not I le pa r (by rw [ed]; omega) hb
    obtain ⟨o, k, q1, q2, q3, q4⟩ := p1
    simp only [toPy, PyData.shown] at fin
    refine call_repr_slot (T := "list") (idr := "list.__repr__") (by omega) ⟨o, q1, q2⟩ F.slot_list_repr.toG ?_
    cases us with
    | nil =>
      cases v1
      cases r1
      simp only [toPyL, PyData.shownAll, listText_nil] at fin
      exact call_list_repr_empty ⟨o, q1, q2⟩ q1 q4 ⟨_, _, rfl, fin s.heap _ _ fun _ _ e => e⟩
    | cons u l => exact call_list_reprK q1 q2 q4 hna (by simpa using hk.length_eq) (fun i y e => hk.item i y (by simpa using e)) (show A.in1.guards = some [] from gd) (fun b _ => Clear.nil b) (by rw [ed] at dp; show A.units + 1 + _ < _; omega) (fun _ _ e => e) (fun h' u tk kk => ⟨_, _, rfl, fin h' u tk kk⟩) hz'
  | @tup a vs xs h1 r1 =>
    cases (show v = Value.ref a from rv)
    have hz' : (tupleText (PyData.shownAll (toPyL xs))).length ≤ sizeLine := by simpa only [toPy, PyData.shown] using hz
    obtain ⟨us, v1, p1, _⟩ := I.tuple (le_t le h1)
    obtain ⟨bs, hb, hk⟩ := rkL I le 39 xs vs us (by simpa [plain] using pa) (by simpa [toPy, PyData.showable] using hs) (fun t ht => Nat.le_trans (tupleText_mem_le ht) hz') r1 v1
    have r : Rep X.K p0 G (.ref a) (.tup xs) := .tup h1 r1
    have ed : (toPy (.tup xs)).depth = PyData.depthAll (toPyL xs) + 1 := by simp only [toPy, PyData.depth] <;> omega
    have hna : a ∉ bs := low_not I le pa r (by rw [ed]; omega) hb
    obtain ⟨o, q1, q2, k, q3⟩ := p1
    simp only [toPy, PyData.shown] at fin
    refine call_repr_slot (T := "tuple") (idr := "tuple.__repr__") (by omega) ⟨o, q1, q2⟩ F.slot_tuple_repr ?_
    exact call_tuple_reprK q1 q2 q3 hna (by simpa using hk) (show A.in1.guards = some [] from gd) (fun b _ => Clear.nil b) (by rw [ed] at dp; show A.units + 1 + _ < _; omega) (fun _ _ e => e) (fun h' u tk kk => ⟨_, _, rfl, fin h' u tk kk⟩) hz'
  | @dct a vs xs h1 r1 =>
    cases (show v = Value.ref a from rv)
    have hz' : (dictText (PyData.shownKv (toPyK xs))).length ≤ sizeLine := by simpa only [toPy, PyData.shown] using hz
    obtain ⟨hsys, ⟨us, v1, d1⟩, _⟩ := dic_of I le h1
    obtain ⟨o, es, ep, q1, q2, q3, q4, q5, q6⟩ := d1
    have pa' : plainK xs 39 = true := by
      simp only [plain, Bool.and_eq_true] at pa; exact pa.1
    obtain ⟨bs, hb, hk⟩ := rkK I le 39 xs vs us es.toList pa' (by simpa [toPy, PyData.showable] using hs) (fun t ht => Nat.le_trans (dictText_mem_le ht) hz') r1 v1 q5
    have r : Rep X.K p0 G (.ref a) (.dct xs) := .dct h1 r1
    have ed : (toPy (.dct xs)).depth = PyData.depthKv (toPyK xs) + 1 := by simp only [toPy, PyData.depth] <;> omega
    have hna : a ∉ bs := low_not I le pa r (by rw [ed]; omega) hb
    simp only [toPy, PyData.shown] at fin
    refine call_repr_slot (T := "dict") (idr := "dict.__repr__") (by omega) ⟨o, q1, q2.1⟩ F.slot_dict_repr ?_
    exact call_dict_reprK q1 q2.1 q3 hsys hna hk (show A.in1.guards = some [] from gd) (fun b _ => Clear.nil b) (by rw [ed] at dp; show A.units + 1 + _ < _; omega) (fun _ _ e => e) (fun h' u tk kk => ⟨_, _, rfl, fin h' u tk kk⟩) hz'
/-- repr of plain data that can be shown -/
def shw (d : D) : Prop := plain d 40 = true ∧ (toPy d).showable = true ∧ (toPy d).depth ≤ 50 ∧ (toPy d).shown.length ≤ 100000
def oRepr : DBu := fun ds P => match ds with
  | [d] => shw d ∧ P (.str (toPy d).shown)
  | _ => False
theorem b_repr (B : XB X c W N sc k bb) : BuD X c (.builtin "repr") oRepr := by
  refine ⟨fun xs H Q => ∃ G x a, xs = [x] ∧ Le G H ∧ Rep X.K c.p0 G x a ∧ shw a ∧ Q (.str (toPy a).shown) H, fun pins s σ H xs us Q I r h => ?_, fun G H σ δ vs ds P Q R rr o kk => ?_⟩
  · obtain ⟨G, x, a, rfl, le, ra, ⟨h1, h2, h3, h4⟩, q⟩ := h
    obtain ⟨u, rfl, rx⟩ := vals1 r
    exact repr_run I le (by have := B.room.un; omega) B.gd h1 h2 (sz5 h4) ra rx h3 fun u s' I' ru => ⟨_, H, I', ru, q⟩
  · cases rr with
    | nil => exact o.elim
    | cons r1 rr =>
      cases rr with
      | nil => exact ⟨G, _, _, rfl, R.le, by rw [B.hK]; exact r1, o.1, kk _ _ G H o.2 Go.refl R (.str _)⟩
      | cons _ _ => exact o.elim
def oLen : DBu := fun ds P => match ds with
  | [.str s] => s.length ≤ 100000 ∧ P (.int s.length)
  | [.lst xs] => P (.int xs.length)
  | [.tup xs] => P (.int xs.length)
  | _ => False
theorem b_len (B : XB X c W N sc k bb) : BuD X c (.builtin "len") oLen := by
  refine ⟨_, call_len, fun G H σ δ vs ds P Q R rr o kk => ?_⟩
  cases rr with
  | nil => exact o.elim
  | cons r1 rr =>
    cases rr with
    | cons _ _ => cases r1 <;> exact o.elim
    | nil =>
      cases r1 with
      | str s => exact ⟨_, _, rfl, ⟨sz5 o.1, rfl⟩, kk _ _ G H o.2 Go.refl R (.int _)⟩
      | lst h1 r1 => exact ⟨_, _, rfl, .inl ⟨_, by rw [B.hK]; exact le_l R.le (.inl h1), rfl⟩, by rw [r1.len]; exact kk _ _ G H o Go.refl R (.int _)⟩
      | tup h1 r1 => exact ⟨_, _, rfl, .inr ⟨_, by rw [B.hK]; exact le_t R.le h1, rfl⟩, by rw [r1.len]; exact kk _ _ G H o Go.refl R (.int _)⟩
      | _ => exact o.elim
def oInt : DBu := fun ds P => match ds with
  | [.int i] => P (.int i)
  | [.bl b] => P (.int (if b then 1 else 0))
  | _ => False
theorem b_int : BuD X c (.type "int") oInt := by
  refine ⟨_, call_int1, fun G H σ δ vs ds P Q R rr o kk => ?_⟩
  cases rr with
  | nil => exact o.elim
  | cons r1 rr =>
    cases rr with
    | cons _ _ => cases r1 <;> exact o.elim
    | nil =>
      cases r1 with
      | int i => exact .inl ⟨_, rfl, kk _ _ G H o Go.refl R (.int _)⟩
      | bl b => exact .inr ⟨_, rfl, kk _ _ G H o Go.refl R (.int _)⟩
      | _ => exact o.elim
def oAbs : DBu := fun ds P => match ds with
  | [.int i] => P (.int (if i < 0 then -i else i))
  | _ => False
theorem b_abs : BuD X c (.builtin "abs") oAbs := by
  refine ⟨_, call_abs, fun G H σ δ vs ds P Q R rr o kk => ?_⟩
  cases rr with
  | nil => exact o.elim
  | cons r1 rr =>
    cases rr with
    | cons _ _ => cases r1 <;> exact o.elim
    | nil =>
      cases r1 with
      | int i => exact ⟨_, rfl, kk _ _ G H o Go.refl R (.int _)⟩
      | _ => exact o.elim
def oList : DBu := fun ds P => match ds with
  | [.lst xs] => P (.lst xs)
  | [.tup xs] => P (.lst xs)
  | _ => False
theorem b_list (B : XB X c W N sc k bb) : BuD X c (.type "list") oList := by
  refine ⟨_, call_list_of, fun G H σ δ vs ds P Q R rr o kk => ?_⟩
  cases rr with
  | nil => exact o.elim
  | cons r1 rr =>
    cases rr with
    | cons _ _ => cases r1 <;> exact o.elim
    | nil =>
      cases r1 with
      | lst h1 r1 => exact ⟨_, _, rfl, .inl (by rw [B.hK]; exact le_l R.le (.inl h1)), fun l hl => kk _ _ _ _ o (Go.newH hl (R.gnone hl)) (R.laid' hl) (.lst (.inl upd_same) (r1.mono (Le.new (R.gnone hl))))⟩
      | tup h1 r1 => exact ⟨_, _, rfl, .inr (by rw [B.hK]; exact le_t R.le h1), fun l hl => kk _ _ _ _ o (Go.newH hl (R.gnone hl)) (R.laid' hl) (.lst (.inl upd_same) (r1.mono (Le.new (R.gnone hl))))⟩
      | _ => exact o.elim
def oTuple : DBu := fun ds P => match ds with
  | [.lst xs] => P (.tup xs)
  | [.tup xs] => P (.tup xs)
  | _ => False
theorem b_tuple (B : XB X c W N sc k bb) : BuD X c (.type "tuple") oTuple := by
  refine ⟨_, call_tuple_of, fun G H σ δ vs ds P Q R rr o kk => ?_⟩
  cases rr with
  | nil => exact o.elim
  | cons r1 rr =>
    cases rr with
    | cons _ _ => cases r1 <;> exact o.elim
    | nil =>
      cases r1 with
      | lst h1 r1 => exact ⟨_, _, rfl, .inl ⟨by rw [B.hK]; exact le_l R.le (.inl h1), fun l hl => kk _ _ _ _ o (Go.newH hl (R.gnone hl)) (R.laid' hl) (.tup (.inl (.inl upd_same)) (r1.mono (Le.new (R.gnone hl))))⟩⟩
      | tup h1 r1 => exact ⟨_, _, rfl, .inr ⟨by rw [B.hK]; exact le_t R.le h1, kk _ _ G H o Go.refl R (.tup h1 r1)⟩⟩
      | _ => exact o.elim

/-! ### isinstance -/
/-- what isinstance asks of an own class -/
structure CI (c : Wd) (C : Addr) : Prop where
  cl : Cls c.K C
  a : PySem.W.findIn c.K (.ref C) "__class__" = some (some (.builtin "object.__class__"))
  n : PySem.W.specialIn c.K (.builtin "object.__class__") "__get__" = some (some (.builtin "getset_descriptor.__get__"))
  t : PySem.W.takesIn c.K (.builtin "object.__class__") = some true
  m : PySem.W.mroIn c.K C (.type "object") = some true
def tyD (c : Wd) : D → (Value → Prop) → Prop
  | .non, P => P (.type "NoneType")
  | .bl _, P => P (.type "bool")
  | .int _, P => P (.type "int")
  | .str _, P => P (.type "str")
  | .lst _, P => P (.type "list")
  | .tup _, P => P (.type "tuple")
  | .dct _, P => P (.type "dict")
  | .ins C _, P => CI c C ∧ P (.ref C)
  | _, _ => False
theorem ty_of {G H : Hp} (le : Le G H) {K : PySem.W.Frag} (hK : K = c.K) {x : V} {d : D} (r : Rep c.K c.p0 G x d) {P : Value → Prop} (h : tyD c.toWd d P) : ∃ t, TyX K H x t ∧ P t := by
  subst hK
  cases r with
  | non => exact ⟨_, .base .non, h⟩
  | bl b => exact ⟨_, .base (.bl b), h⟩
  | int i => exact ⟨_, .base (.int i), h⟩
  | str s => exact ⟨_, .base (.str s), h⟩
  | lst h1 r1 =>
    rcases le_rd le h1 with q | ⟨o, q⟩
    · exact ⟨_, .base (.lst q), h⟩
    · exact ⟨_, .base (.frz q), h⟩
  | tup h1 r1 =>
    rcases le_t le h1 with (q | ⟨o, q⟩) | ⟨o, its, n, q1, q2, _⟩
    · exact ⟨_, .base (.tup q), h⟩
    · exact ⟨_, .fTuple q, h⟩
    · exact ⟨_, .kTuple q1 q2, h⟩
  | dct h1 r1 =>
    rcases le_rd le h1 with q | ⟨o, q⟩
    · exact ⟨_, .base (.dK q), h⟩
    · exact ⟨_, .fDict q, h⟩
  | ins h1 r1 => exact ⟨_, .base (.ins (le _ _ h1) h.1.cl h.1.a h.1.n h.1.t h.1.m), h.2⟩
  | _ => exact h.elim
def clD : D → Option Value
  | .ty n => some (.type n)
  | .ref C => some (.ref C)
  | _ => none
def oIsi (c : Wd) : DBu := fun ds P => match ds with
  | [d, k] => (match clD k with
    | some u => tyD c d (fun t => ∃ b, PySem.W.kitOne c.K t u = some b ∧ P (.bl b))
    | none => False)
  | _ => False
theorem b_isi (B : XB X c W N sc k bb) : BuD X c (.builtin "isinstance") (oIsi c.toWd) := by
  refine ⟨_, call_isi, fun G H σ δ vs ds P Q R rr o kk => ?_⟩
  cases rr with
  | nil => exact o.elim
  | cons r1 rr =>
    cases rr with
    | nil => exact o.elim
    | cons r2 rr =>
      cases rr with
      | cons _ _ => exact o.elim
      | nil =>
        cases r2 with
        | ty n =>
          obtain ⟨t, ht, bo, e, hp⟩ := ty_of R.le B.hK r1 o
          exact ⟨_, _, t, _, bo, rfl, .ty n, ht, by rw [B.hK]; exact e, kk _ _ G H hp Go.refl R (.bl _)⟩
        | ref C =>
          obtain ⟨t, ht, bo, e, hp⟩ := ty_of R.le B.hK r1 o
          exact ⟨_, _, t, _, bo, rfl, .own C, ht, by rw [B.hK]; exact e, kk _ _ G H hp Go.refl R (.bl _)⟩
        | _ => exact o.elim
end
end DL

/-! DLL: operators, subscripts, slices over data. -/
namespace DL
open PySem L2 PySem.Spec PyProof.Rows PySem.SeqAt
section
variable {X : Cx} {c : Fr} {W : WX} {N : List Str} {sc : Scope} {k : Nat} {bb : Bool} {e a b : Expr} {es : List Expr} {pos p p2 : Pos} {r ra rb : DTE} {rs : DTA} {x : Str} {id T : String}
theorem OpD.or {f : Value → Value → Sem Value} {o o' : DOp} (h : OpD X c f o) (h' : OpD X c f o') : OpD X c f (fun x y P => o x y P ∨ o' x y P) := by
  obtain ⟨r, h1, h2⟩ := h.ex
  obtain ⟨r', h1', h2'⟩ := h'.ex
  refine ⟨_, h1.or h1', fun G H σ δ u v x y P Q R ru rv o kk => ?_⟩
  rcases o with o | o
  · exact .inl (h2 G H σ δ u v x y P Q R ru rv o kk)
  · exact .inr (h2' G H σ δ u v x y P Q R ru rv o kk)
theorem OpD.imp {f : Value → Value → Sem Value} {o o' : DOp} (h : OpD X c f o) (l : ∀ x y P, o' x y P → o x y P) : OpD X c f o' := by
  obtain ⟨r, h1, h2⟩ := h.ex
  exact ⟨r, h1, fun G H σ δ u v x y P Q R ru rv o kk => h2 G H σ δ u v x y P Q R ru rv (l _ _ _ o) kk⟩
/-- ints -/
def oI (C : Int → Int → Prop) (g : Int → Int → D) : DOp := fun x y P => match x, y with
  | .int i, .int j => C i j ∧ P (g i j)
  | _, _ => False
theorem oI_of {f : Value → Value → Sem Value} {C : Int → Int → Prop} {g : Int → Int → V} {gd : Int → Int → D} (h : OpR X f (rI C g)) (hr : ∀ G i j, Rep c.K c.p0 G (g i j) (gd i j)) : OpD X c f (oI C gd) := by
  refine ⟨_, h, fun G H σ δ u v x y P Q R ru rv o kk => ?_⟩
  cases ru with
  | int i =>
    cases rv with
    | int j => exact ⟨i, j, rfl, rfl, o.1, kk _ _ G H o.2 Go.refl R (hr G i j)⟩
    | _ => exact o.elim
  | _ => cases rv <;> exact o.elim
theorem oI_of0 {f : Value → Value → Sem Value} {g : Int → Int → V} {gd : Int → Int → D} (h : OpR X f (rI0 g)) (hr : ∀ G i j, Rep c.K c.p0 G (g i j) (gd i j)) : OpD X c f (oI (fun _ _ => True) gd) := by
  refine ⟨_, h, fun G H σ δ u v x y P Q R ru rv o kk => ?_⟩
  cases ru with
  | int i =>
    cases rv with
    | int j => exact ⟨i, j, rfl, rfl, kk _ _ G H o.2 Go.refl R (hr G i j)⟩
    | _ => exact o.elim
  | _ => cases rv <;> exact o.elim
theorem o_addI : OpD X c (binaryOp .Add) (oI (fun _ _ => True) fun i j => .int (i + j)) := oI_of0 op_add fun _ _ _ => .int _
theorem o_sub : OpD X c (binaryOp .Sub) (oI (fun _ _ => True) fun i j => .int (i - j)) := oI_of0 op_sub fun _ _ _ => .int _
theorem o_mul : OpD X c (binaryOp .Mult) (oI CMul fun i j => .int (i * j)) := oI_of op_mul fun _ _ _ => .int _
theorem o_mulX : OpD X c (binaryOp .Mult) (oI CMulX fun i j => .int (i * j)) := oI_of op_mulX fun _ _ _ => .int _
theorem o_fdiv : OpD X c (binaryOp .FloorDiv) (oI CDiv fun i j => .int (i / j)) := oI_of op_fdiv fun _ _ _ => .int _
theorem o_fdivW : OpD X c (binaryOp .FloorDiv) (oI CDivW fun i j => .int (i / j)) := oI_of op_fdivW fun _ _ _ => .int _
theorem o_mod : OpD X c (binaryOp .Mod) (oI (fun _ j => 0 < j) fun i j => .int (i % j)) := oI_of op_mod fun _ _ _ => .int _
theorem o_pow : OpD X c (binaryOp .Pow) (oI CPow fun i j => .int (i ^ j.toNat)) := oI_of op_pow fun _ _ _ => .int _
theorem o_lt : OpD X c (compareOp .Lt) (oI (fun _ _ => True) fun i j => .bl (decide (i < j))) := oI_of0 op_lt fun _ _ _ => .bl _
theorem o_le : OpD X c (compareOp .LtE) (oI (fun _ _ => True) fun i j => .bl (decide (i ≤ j))) := oI_of0 op_le fun _ _ _ => .bl _
theorem o_gt : OpD X c (compareOp .Gt) (oI (fun _ _ => True) fun i j => .bl (decide (j < i))) := oI_of0 op_gt fun _ _ _ => .bl _
theorem o_ge : OpD X c (compareOp .GtE) (oI (fun _ _ => True) fun i j => .bl (decide (j ≤ i))) := oI_of0 op_ge fun _ _ _ => .bl _
/-- is None, is not None -/
def oIsN (neg : Bool) : DOp := fun x y P => match x, y with
  | .non, .non => P (.bl (!neg))
  | .bl _, .non => P (.bl neg)
  | .int _, .non => P (.bl neg)
  | .str _, .non => P (.bl neg)
  | .lst _, .non => P (.bl neg)
  | .tup _, .non => P (.bl neg)
  | .dct _, .non => P (.bl neg)
  | .ins _ _, .non => P (.bl neg)
  | _, _ => False
theorem o_isN : OpD X c (compareOp .Is) (oIsN false) := by
  refine ⟨_, op_isN, fun G H σ δ u v x y P Q R ru rv o kk => ?_⟩
  cases rv with
  | non =>
    refine ⟨rfl, ?_⟩
    cases ru <;> first | exact o.elim | exact kk _ _ G H o Go.refl R (.bl _)
  | _ => cases ru <;> exact o.elim
theorem o_notN : OpD X c (compareOp .IsNot) (oIsN true) := by
  refine ⟨_, op_notN, fun G H σ δ u v x y P Q R ru rv o kk => ?_⟩
  cases rv with
  | non =>
    refine ⟨rfl, ?_⟩
    cases ru <;> first | exact o.elim | exact kk _ _ G H o Go.refl R (.bl _)
  | _ => cases ru <;> exact o.elim
/-- list + list -/
def rCatL : R2 := fun x y H Q => ∃ l b xs zs, x = .ref l ∧ y = .ref b ∧ Rd H l (.lst xs) ∧ Rd H b (.lst zs) ∧ xs.length + zs.length ≤ sizeLine ∧ ∀ p, H p = none → Q (.ref p) (upd H p (.lst (xs ++ zs)))
theorem op_catL : OpR X (binaryOp .Add) rCatL := by
  intro pins s σ H x y v u Q I rx ry h
  obtain ⟨l, b, xs, zs, rfl, rfl, hH, hB, hz, q⟩ := h
  cases rx
  cases ry
  obtain ⟨z, its, n, r, e⟩ := hH.ok I.hok
  obtain ⟨z2, its2, n2, r2, e2⟩ := hB.ok I.hok
  have hl := r.length
  have hl2 := r2.length
  refine PySem.P.add_list e e2 ?_ (by rw [List.size_toArray, List.size_toArray]; omega)
  have ea : its.toArray ++ its2.toArray = (its ++ its2).toArray := by simp
  rw [ea]
  exact ⟨.ref _, _, I.lnew (t' := s.toks) (r.append r2) (by rw [List.length_append]; omega), rfl, q _ I.fresh⟩
theorem RepL.nil_iff {K : PySem.W.Frag} {p0 : Addr} {G : Hp} {vs : List V} {ds : List D} (h : RepL K p0 G vs ds) : vs = [] ↔ ds = [] := by cases h <;> simp
/-- + -/
def oAdd : DOp := fun x y P => match x, y with
  | .int i, .int j => P (.int (i + j))
  | .int i, .bl b => P (.int (i + b2i b))
  | .str s, .str t => s.length + t.length ≤ 1000000 ∧ P (.str (s ++ t))
  | .lst xs, .lst ys => xs.length + ys.length ≤ 100000 ∧ P (.lst (xs ++ ys))
  | .tup xs, .tup ys => xs.length + ys.length ≤ 100000 ∧ P (.tup (xs ++ ys))
  | _, _ => False
theorem sz6 {n : Nat} (h : n ≤ 1000000) : n ≤ sizeLine := Nat.le_trans h (by decide)
theorem o_add (hK : X.K = c.K) : OpD X c (binaryOp .Add) oAdd := by
  refine ⟨_, op_add.or (op_add_ib.or (op_add_str.or (op_catL.or op_catA))), fun G H σ δ u v x y P Q R ru rv o kk => ?_⟩
  cases ru with
  | int i =>
    cases rv with
    | int j => exact .inl ⟨i, j, rfl, rfl, kk _ _ G H o Go.refl R (.int _)⟩
    | bl j => exact .inr (.inl ⟨i, j, rfl, rfl, kk _ _ G H o Go.refl R (.int _)⟩)
    | _ => exact o.elim
  | str i =>
    cases rv with
    | str j => exact .inr (.inr (.inl ⟨i, j, rfl, rfl, sz6 o.1, kk _ _ G H o.2 Go.refl R (.str _)⟩))
    | _ => exact o.elim
  | lst h1 r1 =>
    cases rv with
    | lst h2 r2 => exact .inr (.inr (.inr (.inl ⟨_, _, _, _, rfl, rfl, le_rd R.le h1, le_rd R.le h2, by rw [r1.len, r2.len]; exact sz5 o.1, fun p hp =>
        kk _ _ _ _ o.2 (Go.newH hp (R.gnone hp)) (R.laid' hp) (.lst (.inl upd_same) ((r1.app r2).mono (Le.new (R.gnone hp))))⟩)))
    | _ => exact o.elim
  | tup h1 r1 =>
    cases rv with
    | tup h2 r2 => exact .inr (.inr (.inr (.inr ⟨_, _, _, _, rfl, rfl, by rw [hK]; exact le_t R.le h1, by rw [hK]; exact le_t R.le h2, by rw [r1.len, r2.len]; exact sz5 o.1,
        fun z => by have e := r1.nil_iff.mp z; have p := o.2; rw [e] at p; exact kk _ _ G H p Go.refl R (.tup h2 (by simpa using r2)),
        fun _ z => by have e := r2.nil_iff.mp z; have p := o.2; rw [e, List.append_nil] at p; exact kk _ _ G H p Go.refl R (.tup h1 r1),
        fun _ _ p hp => kk _ _ _ _ o.2 (Go.newH hp (R.gnone hp)) (R.laid' hp) (.tup (.inl (.inl upd_same)) ((r1.app r2).mono (Le.new (R.gnone hp))))⟩)))
    | _ => exact o.elim
  | _ => cases rv <;> exact o.elim

/-! ### unary minus -/
def dNeg (ra : DTE) : DTE := fun δ P E => ra δ (fun d δ1 => match d with
  | .int i => P (.int (-i)) δ1
  | _ => False) E
theorem de_neg (ha : DE X c W a ra) : DE X c W (.UnaryOp .USub a pos) (dNeg ra) :=
  peI (pe_un un_neg ha) fun σ H Q ⟨G, δ, P, E, R, h, kk, x⟩ => ⟨G, δ, _, E, R, h, fun d δ1 v G1 H1 p L R1 rr => by
    cases rr with
    | int i => exact ⟨i, rfl, kk _ δ1 _ G1 H1 p L R1 (.int _)⟩
    | _ => exact p.elim, x⟩

/-! ### subscripts -/
def oIx : DOp := fun x y P => match x, y with
  | .lst xs, .int i => ∃ d, atI xs i = some d ∧ P d
  | .tup xs, .int i => ∃ d, atI xs i = some d ∧ P d
  | .str s, .int i => s.length ≤ 1000000 ∧ ∃ ch, atI s.cps.toList i = some ch ∧ P (.str ⟨#[ch]⟩)
  | _, _ => False
theorem RepL.atI {K : PySem.W.Frag} {p0 : Addr} {G : Hp} {vs : List V} {ds : List D} (h : RepL K p0 G vs ds) {i : Int} {d : D} (e : L2.atI ds i = some d) : ∃ v, L2.atI vs i = some v ∧ Rep K p0 G v d := by
  unfold L2.atI at e ⊢
  rw [h.len]
  cases q : ixN ds.length i with
  | none => rw [q] at e; cases e
  | some j => rw [q] at e; exact h.get e
def dIx (ra rb : DTE) : DTE := dBin oIx ra rb
theorem de_ix (B : XB X c W N sc k bb) (ha : DE X c W a ra) (hb : DE X c W b rb) (hs : PlainIx b := by intro _ _; rfl) : DE X c W (.Subscript a b pos) (dIx ra rb) :=
  peI (pe_ix ix_seq ha hb hs) fun σ H Q => dbin_ok (r2 := rIx X.K) (o := oIx) fun G H σ δ u v x y P Q R ru rv o kk => by
    cases ru with
    | lst h1 r1 =>
      cases rv with
      | int i => obtain ⟨d, e, p⟩ := o; obtain ⟨w, e2, rw⟩ := r1.atI e; exact .inl ⟨_, _, i, w, rfl, rfl, by rw [B.hK]; exact le_l R.le (.inl h1), e2, kk _ _ G H p Go.refl R rw⟩
      | _ => exact o.elim
    | tup h1 r1 =>
      cases rv with
      | int i => obtain ⟨d, e, p⟩ := o; obtain ⟨w, e2, rw⟩ := r1.atI e; exact .inr (.inl ⟨_, _, i, w, rfl, rfl, by rw [B.hK]; exact le_t R.le h1, e2, kk _ _ G H p Go.refl R rw⟩)
      | _ => exact o.elim
    | str s =>
      cases rv with
      | int i => obtain ⟨z, ch, e, p⟩ := o; exact .inr (.inr ⟨s, i, ch, rfl, rfl, sz6 z, e, kk _ _ G H p Go.refl R (.str _)⟩)
      | _ => exact o.elim
    | _ => cases rv <;> exact o.elim

/-! ### slices -/
abbrev DTO := S → (Option Int → S → Prop) → (Er → S → Prop) → Prop
def liftO (c : Fr) (W : WX) (r : DTO) : TO := fun σ H Q => ∃ G δ P E, Rel c G H σ δ ∧ r δ P E ∧
  (∀ d δ' G' H', P d δ' → Go c.p0 G H G' H' → Rel c G' H' σ δ' → Q d H') ∧ ExOk c W G σ E
abbrev DO (X : Cx) (c : Fr) (W : WX) (e : Option Expr) (r : DTO) : Prop := PO X e (liftO c W r)
theorem poI {e : Option Expr} {t t' : TO} (h : PO X e t) (k : ∀ σ H Q, t' σ H Q → t σ H Q) : PO X e t' := ⟨fun pins s σ H Q I q => h.run pins s σ H Q I (k σ H Q q)⟩
def dNone : DTO := fun δ P _ => P none δ
def dPart (r : DTE) : DTO := fun δ P E => r δ (fun d δ1 => match d with
  | .int i => P (some i) δ1
  | _ => False) E
theorem do_none : DO X c W none dNone := poI po_none fun σ H Q ⟨G, δ, P, E, R, h, kk, x⟩ => kk _ _ G H h Go.refl R
theorem do_some (ha : DE X c W a ra) : DO X c W (some a) (dPart ra) := poI (po_some ha) fun σ H Q ⟨G, δ, P, E, R, h, kk, x⟩ => ⟨G, δ, _, E, R, h, fun d δ1 v G1 H1 p L R1 rr => by
    cases rr with
    | int i => exact ⟨i, rfl, kk _ δ1 G1 H1 p L R1⟩
    | _ => exact p.elim, x⟩
def cutD {α : Type} (xs : List α) (lo hi : Option Int) : List α := (xs.drop (HT.sIx xs.length 0 lo)).take (HT.sIx xs.length xs.length hi - HT.sIx xs.length 0 lo)
theorem RepL.cut {K : PySem.W.Frag} {p0 : Addr} {G : Hp} {vs : List V} {ds : List D} (h : RepL K p0 G vs ds) (lo hi : Option Int) : RepL K p0 G (cutV vs lo hi) (cutD ds lo hi) := by
  unfold cutV cutD
  rw [h.len]
  exact RepL.take _ (RepL.drop _ h)
def oSl (d : D) (lo hi : Option Int) (P : D → Prop) : Prop := match d with
  | .lst xs => P (.lst (cutD xs lo hi))
  | .tup xs => P (.tup (cutD xs lo hi))
  | .str s => s.length ≤ 1000000 ∧ P (.str (cutS s lo hi))
  | _ => False
def dSl (ra : DTE) (ro rp : DTO) : DTE := fun δ P E => ra δ (fun d δ1 => ro δ1 (fun lo δ2 => rp δ2 (fun hi δ3 => oSl d lo hi (fun z => P z δ3)) E) E) E
theorem whole_cut {α : Type} {xs : List α} {lo hi : Option Int} (h : HT.sIx xs.length 0 lo = 0 ∧ HT.sIx xs.length xs.length hi = xs.length) : cutD xs lo hi = xs := by
  unfold cutD
  rw [h.1, h.2]
  simp
theorem de_sl {lo hi : Option Expr} {ro rp : DTO} (B : XB X c W N sc k bb) (ha : DE X c W a ra) (hl : DO X c W lo ro) (hh : DO X c W hi rp) : DE X c W (.Subscript a (.Slice lo hi none p2) pos) (dSl ra ro rp) :=
  peI (pe_slice (sl_list.or (sl_tupA.or sl_str)) ha hl hh) fun σ H Q ⟨G, δ, P, E, R, h, kk, x⟩ => ⟨G, δ, _, E, R, h, fun d δ1 v G1 H1 p L R1 rr =>
    ⟨G1, δ1, _, E, R1, p, fun l δ2 G2 H2 p2 L2 R2 => ⟨G2, δ2, _, E, R2, p2, fun u δ3 G3 H3 p3 L3 R3 => by
      have rr3 := rr.mono (L2.g.trans L3.g)
      have LL := (L.trans L2).trans L3
      cases rr3 with
      | lst h1 r1 => exact .inl ⟨_, _, rfl, by rw [B.hK]; exact le_l R3.le (.inl h1), fun p hp => kk _ _ _ _ _ p3 (LL.trans (Go.newH hp (R3.gnone hp))) (R3.laid' hp) (.lst (.inl upd_same) ((r1.cut l u).mono (Le.new (R3.gnone hp))))⟩
      | tup h1 r1 => exact .inr (.inl ⟨_, _, rfl, by rw [B.hK]; exact le_t R3.le h1, fun w => by rw [r1.len] at w; have e := whole_cut w; have p := p3; unfold oSl at p; simp only [e] at p; exact kk _ _ _ _ _ p LL R3 (.tup h1 r1),
          fun _ p hp => kk _ _ _ _ _ p3 (LL.trans (Go.newH hp (R3.gnone hp))) (R3.laid' hp) (.tup (.inl (.inl upd_same)) ((r1.cut l u).mono (Le.new (R3.gnone hp))))⟩)
      | str s => exact .inr (.inr ⟨s, rfl, sz6 p3.1, kk _ _ _ _ _ p3.2 LL R3 (.str _)⟩)
      | _ => exact p3.elim, (x.mono L.g).mono L2.g⟩, x.mono L.g⟩, x⟩
end
end DL

/-! DLM: list comprehensions over data. -/
namespace DL
open PySem L2 PySem.Spec PyProof.Rows PySem.SeqAt
section
variable {X : Cx} {c : Fr} {W : WX} {N : List Str} {sc : Scope} {k : Nat} {bb : Bool} {e a b : Expr} {es : List Expr} {pos p : Pos} {r ra rb : DTE} {rs : DTA} {x : Str}
/-- a comprehension's target: the slots vs alone change -/
def liftGo (c : Fr) (vs : List Nat) (g : DTG) : TG := fun v σ H Q => ∃ G δ d P, Rel c G H σ δ ∧ Rep c.K c.p0 G v d ∧ g d δ P ∧
  (∀ δ' G' H' σ', P δ' → Go c.p0 G H G' H' → Rel c G' H' σ' δ' → wipe σ' vs = wipe σ vs → Q σ' H')
abbrev DGo (X : Cx) (c : Fr) (vs : List Nat) (tg : Expr) (g : DTG) : Prop := PG X tg (liftGo c vs g)
theorem wipe_set {σ : L2.St} {i : Nat} {o : Option V} : ∀ {vs : List Nat}, i ∈ vs → wipe (σ.set i o) vs = wipe σ vs
  | v :: vs, h => by
    unfold wipe
    by_cases q : i ∈ vs
    · rw [wipe_set q]
    · have e : i = v := by simpa [q] using h
      subst e
      have hw : ∀ {ws : List Nat}, i ∉ ws → wipe (σ.set i o) ws = (wipe σ ws).set i o := by
        intro ws
        induction ws with
        | nil => intro _; rfl
        | cons w ws ih =>
          intro hn
          have n1 : i ≠ w := fun z => hn (by simp [z])
          have n2 : i ∉ ws := fun z => hn (by simp [z])
          unfold wipe
          rw [ih n2, List.set_comm _ _ n1]
      rw [hw q, List.set_set]
theorem wipe_at {σ : L2.St} {i : Nat} {vs : List Nat} (h : i ∉ vs) : at_ (wipe σ vs) i = at_ σ i := by
  unfold at_
  rw [wipe_out h]
theorem wipe_get {σ : L2.St} {j : Nat} : ∀ {vs : List Nat}, (wipe σ vs)[j]? = if j ∈ vs then (σ[j]?).map (fun _ => none) else σ[j]?
  | [] => by simp [wipe]
  | v :: vs => by
    unfold wipe
    rw [List.getElem?_set, wipe_length]
    by_cases e : v = j
    · subst e
      by_cases h : v < σ.length
      · simp [h]
      · simp [h]
    · rw [if_neg e, wipe_get]
      have e' : ¬ j = v := fun z => e z.symm
      simp [e']
theorem wipe_twice {σ : L2.St} {vs : List Nat} : wipe (wipe σ vs) vs = wipe σ vs := List.ext_getElem? fun j => by
  rw [wipe_get, wipe_get]
  by_cases h : j ∈ vs
  · simp only [h, if_true]; cases σ[j]? <;> rfl
  · simp [h]
theorem dgo_name {i : Nat} {x : Str} {vs : List Nat} (B : XB X c W N sc k bb) (hi : N[i]? = some x) (hx : sc.names.lookup x = some .local) (hv : i ∈ vs) : DGo X c vs (.Name x pos) (gN i) :=
  pgI (pg_name (i := i) (by rw [B.hN]; exact B.nd) (by rw [B.hN]; exact hi) (by rw [B.hs]; exact .inl hx) (.inr (by rw [B.hs]; exact hx))) fun v σ H Q ⟨G, δ, d, P, R, r, h, kk⟩ => kk _ G H _ h Go.refl (R.set' r) (wipe_set hv)
def liftGos (c : Fr) (vs : List Nat) (g : DTGs) : TGs := fun v σ H Q => ∃ G δ d P, Rel c G H σ δ ∧ RepL c.K c.p0 G v d ∧ g d δ P ∧ (∀ δ' G' H' σ', P δ' → Go c.p0 G H G' H' → Rel c G' H' σ' δ' → wipe σ' vs = wipe σ vs → Q σ' H')
abbrev DGos (X : Cx) (c : Fr) (vs : List Nat) (tg : List Expr) (g : DTGs) : Prop := PGs X tg (liftGos c vs g)
theorem dgos_nil {vs : List Nat} : DGos X c vs [] gZ := pgsI pgs_nil fun v σ H Q ⟨G, δ, d, P, R, r, h, kk⟩ => by
  cases r with
  | nil => exact ⟨rfl, kk _ G H _ h Go.refl R rfl⟩
  | cons a b => exact h.elim
theorem dgos_cons {vs : List Nat} {g : DTG} {h : DTGs} (h1 : DGo X c vs e g) (h2 : DGos X c vs es h) (hs : (assignEach (e :: es) X.env).map (·.2) = assign e X.env :: (assignEach es X.env).map (·.2) := by rfl) : DGos X c vs (e :: es) (gC g h) :=
  pgsI (pgs_cons h1 h2 hs) fun v σ H Q ⟨G, δ, d, P, R, r, h, kk⟩ => by
    cases r with
    | nil => exact h.elim
    | cons a b => exact ⟨_, _, rfl, G, δ, _, _, R, a, h, fun δ' G' H' σ' p L R' e1 => ⟨G', δ', _, P, R', b.mono L.g, p, fun δ2 G2 H2 σ2 p2 L2 R2 e2 => kk δ2 G2 H2 σ2 p2 (L.trans L2) R2 (e2.trans e1)⟩⟩
theorem dgo_tup {vs : List Nat} {n : Nat} {kk : Nat} {g : DTGs} (B : XB X c W N sc k bb) (h : DGos X c vs es g) (hn : (assignEach es X.env).length = n := by rfl) (hst : (assignEach es X.env).findIdx? (·.1) = none := by rfl) : DGo X c vs (.Tuple es kk pos) (gT n g) :=
  pgI (pg_tup B.calm h hn hst) fun v σ H Q ⟨G, δ, d, P, R, r, h, kk⟩ => by
    cases r with
    | tup hq rl => exact ⟨_, _, rfl, by rw [B.hK]; exact le_t R.le hq, by rw [rl.len]; exact h.1, G, δ, _, P, R, rl, h.2, kk⟩
    | _ => exact h.elim
/-- the tests of a clause -/
abbrev DTs (X : Cx) (c : Fr) (W : WX) (ifs : List Expr) (t : DTT) : Prop := PTs X ifs (liftT c W t)
def dYes : DTT := fun δ P _ => P true δ
theorem dts_nil : DTs X c W [] dYes := ⟨fun pins s σ H Q I ⟨G, δ, P, E, R, h, kk, x⟩ => pts_nil.run pins s σ H Q I (kk true δ G H h Go.refl R)⟩
theorem dts_one {t : DTT} (h : DT X c W a t) : DTs X c W [a] t := pts_one h
/-- any frame over the same world -/
theorem pg_ex {ι : Type} {tg : Expr} {g : ι → TG} (h : ∀ i, PG X tg (g i)) : PG X tg (fun v σ H Q => ∃ i, g i v σ H Q) := ⟨fun pins s σ H v u Q I r ⟨i, q⟩ => (h i).run pins s σ H v u Q I r q⟩
theorem pe_ex {ι : Type} {g : ι → TE} (h : ∀ i, PE X e (g i)) : PE X e (fun σ H Q => ∃ i, g i σ H Q) := ⟨fun pins s σ H Q I ⟨i, q⟩ => (h i).run pins s σ H Q I q⟩
theorem pts_ex {ι : Type} {ifs : List Expr} {g : ι → TT} (h : ∀ i, PTs X ifs (g i)) : PTs X ifs (fun σ H Q => ∃ i, g i σ H Q) := ⟨fun pins s σ H Q I ⟨i, q⟩ => (h i).run pins s σ H Q I q⟩
def never : WX := fun _ _ _ _ => False
/-- the slots as a block sees them -/
def cleanSl (vs : List Nat) : Nat → List Sl → List Sl
  | _, [] => []
  | i, s :: r => (if i ∈ vs then .un else match s with
    | .d x => .d x
    | _ => .un) :: cleanSl vs (i + 1) r
theorem clean_len (vs : List Nat) : ∀ (i : Nat) (l : List Sl), (cleanSl vs i l).length = l.length
  | _, [] => rfl
  | i, s :: r => by simp [cleanSl, clean_len vs (i + 1) r]
theorem clean_get {vs : List Nat} : ∀ {i j : Nat} {l : List Sl} {s : Sl}, (cleanSl vs i l)[j]? = some s → s = .un ∨ (i + j ∉ vs ∧ ∃ x, s = .d x ∧ l[j]? = some (.d x))
  | i, j, [], s, h => by simp [cleanSl] at h
  | i, 0, t :: r, s, h => by
    simp only [cleanSl, List.getElem?_cons_zero, Option.some.injEq] at h
    by_cases q : i ∈ vs
    · rw [if_pos q] at h; exact .inl h.symm
    · rw [if_neg q] at h
      cases t <;> first | exact .inl h.symm | exact .inr ⟨by simpa using q, _, h.symm, rfl⟩
  | i, j + 1, t :: r, s, h => by
    simp only [cleanSl, List.getElem?_cons_succ] at h ⊢
    rcases clean_get h with z | ⟨z1, z2⟩
    · exact .inl z
    · exact .inr ⟨by rwa [show i + (j + 1) = i + 1 + j by omega], z2⟩
theorem clean_own {vs : List Nat} {i j : Nat} {l : List Sl} {s : Sl} (h : (cleanSl vs i l)[j]? = some s) : isOwn s = false := by
  rcases clean_get h with rfl | ⟨_, x, rfl, _⟩ <;> rfl
def dCol (g : DTG) (tt : DTT) (te : DTE) (cl : List Sl) (P : List D → Nat → Prop) : List D → List D → Nat → Prop
  | [], acc, n => P acc n
  | x :: r, acc, n => g x ⟨cl, n⟩ (fun δ2 => tt δ2 (fun b δ3 => if b = true then te δ3 (fun y δ4 => acc.length < 100000 ∧ dCol g tt te cl P r (acc ++ [y]) δ4.fu) (fun _ _ => False) else dCol g tt te cl P r acc δ3.fu) (fun _ _ => False))
def dLC (ri : DTI) (g : DTG) (tt : DTT) (te : DTE) (vs : List Nat) : DTE := fun δ P E => ri δ (fun items δ1 => dCol g tt te (cleanSl vs 0 δ1.sl) (fun ds n => P (.lst ds) { δ1 with fu := n }) items [] δ1.fu) E
theorem RepL.snoc {K : PySem.W.Frag} {p0 : Addr} {G : Hp} {v : V} {d : D} (h : Rep K p0 G v d) : ∀ {vs : List V} {ds : List D}, RepL K p0 G vs ds → RepL K p0 G (vs ++ [v]) (ds ++ [d])
  | _, _, .nil => .cons h .nil
  | _, _, .cons a b => .cons a (RepL.snoc h b)
/-- the block's frame, at its start -/
theorem rel_block {G H : Hp} {σ : L2.St} {δ : S} {q : Addr} (R : Rel c G H σ δ) (hq : H q = none) (vs : List Nat) (o : HO) : Rel (frOf c.toWd G (upd H q o) [c.p0, q]) G (upd H q o) (wipe σ vs) ⟨cleanSl vs 0 δ.sl, δ.fu⟩ := by
  have ne0 : q ≠ c.p0 := fun e => by
    obtain ⟨_, _, _, _, z, _⟩ := R.pn
    rw [e, z] at hq; cases hq
  refine ⟨fun a u e => by rw [upd_ne (ne_of_none (R.le a u e) hq)]; exact R.le a u e, Le.refl _, fun a o h _ => h, fun a o h => ⟨o, h⟩, fun a o h => .inl h, by simp, R.pn.mono (Le.refl _) (by rw [upd_ne (Ne.symm ne0)]), R.pg, by rw [wipe_length, R.len]; exact (clean_len vs 0 δ.sl).symm, fun i s h => ?_, fun i j a s t _ h1 _ o1 _ _ _ => by rw [clean_own h1] at o1; cases o1⟩
  rcases clean_get h with rfl | ⟨hv, x, rfl, hl⟩
  · trivial
  · obtain ⟨v, h1, h2⟩ := R.sl i _ hl
    exact ⟨v, by rw [wipe_at (by simpa using hv)]; exact h1, h2⟩
/-- the slots of one state, all else of a later one -/
theorem rel_mix {G G' H H' : Hp} {σ σ' : L2.St} {cl : List Sl} {n : Nat} {δ' : S} (R : Rel c G H σ ⟨cl, n⟩) (R' : Rel c G' H' σ' δ') (L : Le G G') (ho : ∀ (i : Nat) (s : Sl), cl[i]? = some s → isOwn s = false) : Rel c G' H' σ ⟨cl, δ'.fu⟩ := by
  refine ⟨R'.le, R'.g0, R'.h0, R'.ht, R'.nw, R'.pm, R'.pn, R'.pg, R.len, fun i s h => ?_, fun i j a s t _ h1 _ o1 _ _ _ => by rw [ho i s h1] at o1; cases o1⟩
  have h' := R.sl i s h
  have o := ho i s h
  cases s with
  | un => trivial
  | d x => obtain ⟨v, h1, h2⟩ := h'; exact ⟨v, h1, h2.mono L⟩
  | own _ => cases o
  | ownK _ => cases o
  | self _ _ => cases o
/-- what may change of the entry changes -/
theorem rel_mu {G H : Hp} {σ : L2.St} {cl : List Sl} {n : Nat} {q : Addr} {o : HO} (R : Rel c G H σ ⟨cl, n⟩) (ho : ∀ (i : Nat) (s : Sl), cl[i]? = some s → isOwn s = false) (hm : q ∈ c.mu) (gq : G q = none) (hq : ∃ u, H q = some u) (n0 : q ≠ c.p0) : Rel c G (upd H q o) σ ⟨cl, n⟩ := by
  refine ⟨fun b u e => ?_, R.g0, fun b u e hb => ?_, fun b u e => ?_, R.nw, R.pm, R.pn.mono (Le.refl _) (by rw [upd_ne (Ne.symm n0)]), R.pg, R.len, fun i s h => ?_, fun i j a s t _ h1 _ o1 _ _ _ => by rw [ho i s h1] at o1; cases o1⟩
  · have ne : b ≠ q := fun z => by rw [z, gq] at e; cases e
    rw [upd_ne ne]; exact R.le b u e
  · have ne : b ≠ q := fun z => hb (z ▸ hm)
    rw [upd_ne ne]; exact R.h0 b u e hb
  · by_cases ne : b = q
    · subst ne; exact ⟨_, upd_same⟩
    · rw [upd_ne ne]; exact R.ht b u e
  · have h' := R.sl i s h
    have o := ho i s h
    cases s with
    | un => trivial
    | d x => exact h'
    | own _ => cases o
    | ownK _ => cases o
    | self _ _ => cases o
theorem relabel_eq {scope : Scope} {env : Env} {sc : Scope} (h : env.scope = sc) : relabel scope env = relS scope sc := by
  subst h
  rfl
theorem xb_blk {scope : Scope} (B : XB X c W N sc k bb) (c' : Fr) (hc : c'.toWd = c.toWd) (s : Shared) (H : Hp) (C : Addr) (cl : List (Str × Addr)) (fp : List Addr) : XB (X.blk s H scope (compEnvC scope cl C X.env) fp) c' never N (relS scope sc) k true :=
  ⟨by rw [hc]; exact B.hP, by rw [hc]; exact B.hw, by rw [hc]; exact B.hK, by rw [hc]; exact B.hm, by rw [hc]; exact B.hb, B.hN, B.nd, relabel_eq B.hs, B.calm, B.room, B.gd, fun u s' h => by
    obtain ⟨a, B', sI, pins, σ, H, cls, d, e, I, nb, up, sky, na, os, ag, w⟩ := h
    exact w, PassesOwn.never, fun h => by cases h⟩
/-- [elt for tg in iter if ..] -/
theorem de_lc {elt tg iter : Expr} {ifs : List Expr} {scope : Scope} {own : List (Str × Nat)} {ri : DTI} {g : DTG} {tt : DTT} {te : DTE} (B : XB X c W N sc k bb) (hi : DI X c W tg iter ri) (ok : BlkOk N sc scope own)
    (hb : ∀ (X' : Cx) (c' : Fr), c'.toWd = c.toWd → XB X' c' never N (relS scope sc) k true → DGo X' c' (own.map (·.2)) tg g ∧ DTs X' c' never ifs tt ∧ DE X' c' never elt te)
    (hs : ∀ x, foldedSetIterable iter X.env x = pure x := by intro _; rfl) : DE X c W (.ListComp elt [⟨tg, iter, ifs, 0⟩] scope pos) (dLC ri g tt te (own.map (·.2))) := by
  let ι := { c' : Fr // c'.toWd = c.toWd }
  have hg := fun s H C cl fp => pg_ex (X := X.blk s H scope (compEnvC scope cl C X.env) fp) (ι := ι) fun i => (hb _ i.1 i.2 (xb_blk B i.1 i.2 s H C cl fp)).1
  have ht := fun s H C cl fp => pts_ex (X := X.blk s H scope (compEnvC scope cl C X.env) fp) (ι := ι) fun i => (hb _ i.1 i.2 (xb_blk B i.1 i.2 s H C cl fp)).2.1
  have he := fun s H C cl fp => pe_ex (X := X.blk s H scope (compEnvC scope cl C X.env) fp) (ι := ι) fun i => (hb _ i.1 i.2 (xb_blk B i.1 i.2 s H C cl fp)).2.2
  refine peI (pe_lc B.calm (by rw [B.hN]; exact B.nd) hi (by rw [B.hN, B.hs]; exact ok) hg ht he hs) fun σ H Q ⟨G, δ, P, E, R, h, kk, x⟩ => ?_
  refine ⟨G, δ, _, E, R, h, fun items δ1 J G1 H1 p L R1 j => ?_, x⟩
  intro q hq
  have ne0 : q ≠ c.p0 := fun e => by
    obtain ⟨_, _, _, _, z, _⟩ := R1.pn
    rw [e, z] at hq; cases hq
  have gq1 : G1 q = none := R1.gnone hq
  let c' : Fr := frOf c.toWd G1 (upd H1 q (.lst [])) [c.p0, q]
  let cl := cleanSl (own.map (·.2)) 0 δ1.sl
  let PP : List D → Nat → Prop := fun ds n => P (.lst ds) { δ1 with fu := n }
  have ho : ∀ (i : Nat) (s : Sl), cl[i]? = some s → isOwn s = false := fun i s h => clean_own h
  have gqn : ∀ {G' H' : Hp} {σ' : L2.St} {δ' : S}, Rel c' G' H' σ' δ' → G' q = none := fun {G' H' σ' δ'} R' => by
    cases e : G' q with
    | none => rfl
    | some u =>
      rcases R'.nw q u e with z | z
      · rw [show c'.G0 q = none from gq1] at z; cases z
      · rw [show c'.H0 q = some (.lst []) from upd_same] at z; cases z
  refine ⟨fun i m H' => m = items.length - i ∧ i ≤ items.length ∧ ∃ G2 n vacc acc, Rel c' G2 H' (wipe σ (own.map (·.2))) ⟨cl, n⟩ ∧ Le G1 G2 ∧ H' q = some (.lst vacc) ∧ RepL c.K c.p0 G2 vacc acc ∧ dCol g tt te cl PP (items.drop i) acc n,
    ⟨items.length, rfl, Nat.zero_le _, G1, δ1.fu, [], [], rel_block R1 hq _ _, Le.refl _, upd_same, .nil, p⟩, ?_⟩
  rintro i m H' ⟨rfl, hi', G2, n, vacc, acc, R2, L2, hH, hr, p2⟩
  by_cases hlt : i < items.length
  · right
    rw [drop_cons hlt] at p2
    refine ⟨j.go i H' G2 hlt L2 R2.le, fun H'' => i + 1 ≤ items.length ∧ ∃ G2 n vacc acc, Rel c' G2 H'' (wipe σ (own.map (·.2))) ⟨cl, n⟩ ∧ Le G1 G2 ∧ H'' q = some (.lst vacc) ∧ RepL c.K c.p0 G2 vacc acc ∧ dCol g tt te cl PP (items.drop (i + 1)) acc n,
      fun H3 ⟨q1, q2⟩ => ⟨items.length - (i + 1), by omega, rfl, q1, q2⟩, fun x3 H3 y => ?_⟩
    obtain ⟨G3, d, e3, L3, R3, r3, k3, _⟩ := j.yld G1 (upd H1 q (.lst [])) [c.p0, q] i H' x3 H3 G2 _ _ L2 R2 y hlt
    have ed : d = items[i] := by rw [List.getElem?_eq_getElem hlt] at e3; exact (Option.some.inj e3).symm
    subst ed
    have hH3 := k3 _ _ hH ne0
    refine ⟨⟨c', rfl⟩, G3, ⟨cl, n⟩, _, _, R3, r3, p2, fun δ4 G4 H4 σ4 p4 L4 R4 ew => ?_⟩
    refine ⟨by rw [ew]; exact wipe_twice, ⟨c', rfl⟩, G4, δ4, _, _, R4, p4, fun b δ5 G5 H5 p5 L5 R5 => ?_, fun er δ' cls dd G' H' z => z.elim⟩
    have L35 : Le G2 G5 := (L3.trans L4.g).trans L5.g
    have hH5 := L5.h _ _ (L4.h _ _ hH3 ne0) ne0
    cases b with
    | false =>
      simp only [Bool.false_eq_true, if_false] at p5 ⊢
      exact ⟨hlt, G5, δ5.fu, vacc, acc, rel_mix R2 R5 L35 ho, L2.trans L35, hH5, hr.mono L35, p5⟩
    | true =>
      simp only [if_true] at p5 ⊢
      refine ⟨⟨c', rfl⟩, G5, δ5, _, _, R5, p5, fun z δ6 v6 G6 H6 p6 L6 R6 r6 => ?_, fun er δ' cls dd G' H' z => z.elim⟩
      have L26 : Le G2 G6 := L35.trans L6.g
      have hH6 := L6.h _ _ hH5 ne0
      refine ⟨vacc, hH6, sl5 (by rw [hr.len]; exact p6.1), hlt, G6, δ6.fu, vacc ++ [v6], acc ++ [z], rel_mu (rel_mix R2 R6 L26 ho) ho (by simp [c']) (gqn R6) ⟨_, hH6⟩ ne0, L2.trans L26, upd_same, RepL.snoc r6 (hr.mono L26), p6.2⟩
  · left
    have e : items.drop i = [] := List.drop_eq_nil_of_le (by omega)
    rw [e] at p2
    refine ⟨j.stop i H' G2 (by omega) L2 R2.le, ?_⟩
    have gq2 := gqn R2
    have LL : Le G2 (upd G2 q (.lst vacc)) := Le.new gq2
    have po : Post c.K c.cs c.p0 G1 H1 (upd G2 q (.lst vacc)) H' n := by
      refine ⟨L2.trans LL, fun a u e => ?_, fun a u e na => ?_, fun a u e => ?_, R2.pn.mono LL rfl, by rw [upd_ne (Ne.symm ne0)]; exact R2.pg⟩
      · by_cases z : a = q
        · subst z; rw [upd_same] at e; cases e; exact hH
        · rw [upd_ne z] at e; exact R2.le a u e
      · have nq : a ≠ q := ne_of_none e hq
        exact R2.h0 a u (by show upd H1 q _ a = _; rw [upd_ne nq]; exact e) (by simp [c', na, nq])
      · by_cases z : a = q
        · subst z; exact .inr hq
        · rw [upd_ne z] at e
          rcases R2.nw a u e with y | y
          · exact .inl y
          · right
            have y : upd H1 q (.lst []) a = none := y
            rw [upd_ne z] at y; exact y
    exact kk (.lst acc) _ (.ref q) _ H' p2 (L.trans po.go) (R1.post po) (.lst (.inl upd_same) (hr.mono LL))
end
end DL

/-! DLN: == and != by an own __eq__. -/
namespace PySem.SeqAt
open MeetsSeq
theorem none_declines_own (x C dx : Addr)  :
    Meets (Builtin.«NoneType.__eq__» ⟨[.none, .ref x], []⟩) (fun _ R s => s.heap.get? x = some (PySem.W.instObj C dx) ∧ R (.ok (.ret .notImplemented)) s) :=
  .of_wp fun prog w A R s h => by obtain ⟨hp, g, d, tk, os⟩ := s; obtain ⟨hl, h⟩ := h; wp_walk using AutoSeq1.wpAny_loadPart' hl, wpAny_load hl; exact ⟨_, rfl, h⟩
theorem int_declines_own (x C dx : Addr) (b : Int) (u : Tok) :
    Meets (Builtin.«int.__eq__» ⟨[.int b u, .ref x], []⟩) (fun _ R s => s.heap.get? x = some (PySem.W.instObj C dx) ∧ R (.ok (.ret .notImplemented)) s) :=
  .of_wp fun prog w A R s h => by obtain ⟨hp, g, d, tk, os⟩ := s; obtain ⟨hl, h⟩ := h; wp_walk using AutoSeq1.wpAny_loadPart' hl, wpAny_load hl; exact ⟨_, rfl, h⟩
theorem bool_declines_own (x C dx : Addr) (b : Bool) :
    Meets (Builtin.«int.__eq__» ⟨[.bool b, .ref x], []⟩) (fun _ R s => s.heap.get? x = some (PySem.W.instObj C dx) ∧ R (.ok (.ret .notImplemented)) s) :=
  .of_wp fun prog w A R s h => by obtain ⟨hp, g, d, tk, os⟩ := s; obtain ⟨hl, h⟩ := h; wp_walk using AutoSeq1.wpAny_loadPart' hl, wpAny_load hl; exact ⟨_, rfl, h⟩
theorem str_declines_own (x C dx : Addr) (b : Str) (u : Tok) :
    Meets (Builtin.«str.__eq__» ⟨[.str b u, .ref x], []⟩) (fun _ R s => s.heap.get? x = some (PySem.W.instObj C dx) ∧ R (.ok (.ret .notImplemented)) s) :=
  .of_wp fun prog w A R s h => by obtain ⟨hp, g, d, tk, os⟩ := s; obtain ⟨hl, h⟩ := h; wp_walk using AutoSeq1.wpAny_loadPart' hl, wpAny_load hl; exact ⟨_, rfl, h⟩
theorem list_declines_own {K : PySem.W.Frag} {P : Program} {w : World} (x C dx l : Addr) (hs : PySem.W.mroIn K C (.type "list") = some false) :
    MeetsIn P w (Builtin.«list.__eq__» ⟨[.ref l, .ref x], []⟩) (fun _ R s => K.In s.heap ∧ s.heap.get? x = some (PySem.W.instObj C dx) ∧ R (.ok (.ret .notImplemented)) s) := by
  intro A R s h
  obtain ⟨X, hl, h⟩ := h
  have hx := PySem.W.looks_mroIn (M := model P w) X hs
  obtain ⟨hp, g, d, tk, os⟩ := s
  wp_walk using AutoSeq1.wpAny_loadPart' hl, wpAny_load hl
  refine hx.here ?_
  wp_walk
  exact h
theorem tuple_declines_own {K : PySem.W.Frag} {P : Program} {w : World} (x C dx l : Addr) (hs : PySem.W.mroIn K C (.type "tuple") = some false) :
    MeetsIn P w (Builtin.«tuple.__eq__» ⟨[.ref l, .ref x], []⟩) (fun _ R s => K.In s.heap ∧ s.heap.get? x = some (PySem.W.instObj C dx) ∧ R (.ok (.ret .notImplemented)) s) := by
  intro A R s h
  obtain ⟨X, hl, h⟩ := h
  have hx := PySem.W.looks_mroIn (M := model P w) X hs
  obtain ⟨hp, g, d, tk, os⟩ := s
  wp_walk using AutoSeq1.wpAny_loadPart' hl, wpAny_load hl
  refine hx.here ?_
  wp_walk
  exact h
theorem dict_declines_own {K : PySem.W.Frag} {P : Program} {w : World} (x C dx a : Addr) (es : Array DictEntry) (ep : Nat) (dd : Option Addr) (sl : Array (Option Value)) (hs : PySem.W.mroIn K C (.type "dict") = some false) :
    MeetsIn P w (Builtin.«dict.__eq__» ⟨[.ref a, .ref x], []⟩) (fun _ R s => K.In s.heap ∧ s.heap.get? x = some (PySem.W.instObj C dx) ∧ s.heap.get? a = some { cls := .type "dict", dict := dd, data := .dict es ep, slots := sl } ∧ R (.ok (.ret .notImplemented)) s) := by
  intro A R s h
  obtain ⟨X, hl, ha, h⟩ := h
  have hx := PySem.W.looks_mroIn (M := model P w) X hs
  obtain ⟨hp, g, d, tk, os⟩ := s
  have f2 := F.sub_dict_dict
  wp_walk using AutoSeq1.wpAny_loadPart' hl, wpAny_load hl, AutoSeq1.wpAny_loadPart' ha, wpAny_load ha
  refine hx.here ?_
  wp_walk
  exact h
end PySem.SeqAt

namespace DL
open PySem L2 PySem.Spec PyProof.Rows PySem.SeqAt
theorem tryOwn {M : Model} {A : Around} {E : Value → Shared → Prop} {st : Shared} {K : PySem.W.Frag} {x C f : Addr} {ox : Obj} {od : Option Obj} {name : Str} {b : Value} {Q : Value → Shared → Prop} (X : K.In st.heap) (I : PySem.W.InstAt st.heap x ox C od) (hs : PySem.W.findIn K (.ref C) name = some (some (.ref f))) (hf : PySem.W.isFn K (.ref f) = true)
    (h : wpAny M A (call (.ref f) [.ref x, b]) (PySem.W.CmpBack Q) E st) : wpAny M A (tryCompare (.ref x) name b) (fun r s' => ∃ v, r = some v ∧ Q v s') E st := by
  unfold tryCompare
  refine wpAny_bind (PySem.W.ifBound_K X I hs hf (wpAny_mono h (fun v s' hv => ?_) fun _ _ e => e))
  cases v <;> first | exact hv.elim | exact wpAny_pure ⟨_, rfl, hv⟩
/-- a rich comparison whose left side answers -/
theorem rc_left {M : Model} {A : Around} {E : Value → Shared → Prop} {st : Shared} {K : PySem.W.Frag} {x C : Addr} {ox : Obj} {od : Option Obj} {op : CmpOp} {b tb : Value} {Q : Value → Shared → Prop} (hu : A.units < cLine) (X : K.In st.heap) (I : PySem.W.InstAt st.heap x ox C od)
    (hb : PySem.W.Looks M st.heap (typeOf b) tb) (hn : PySem.W.notFirst K C tb = true) (one : wpAny M A (tryCompare (.ref x) (cmpInfo op).2.1 b) (fun r s' => ∃ v, r = some v ∧ Q v s') E st) : wpAny M A (richCompare op (.ref x) b) Q E st := by
  unfold richCompare
  simp only [oneThing_ref]
  refine wpAny_holding (wpAny_bind (wpAny_cRoomFor hu ?_))
  refine wpAny_bind (I.type.here (wpAny_bind (hb.here ?_)))
  split
  · rename_i q
    have e : PySem.W.subIn K tb (.ref C) = some false := by
      rcases Bool.or_eq_true_iff.mp hn with e | e
      · rw [beq_iff_eq.mp e] at q; simp at q
      · exact beq_iff_eq.mp e
    refine wpAny_bind ((PySem.W.looks_subIn X e).here ?_)
    simp only [Bool.false_eq_true, if_false]
    refine wpAny_bind (wpAny_mono one (fun r s' z => ?_) fun _ _ e => e)
    obtain ⟨v, rfl, hq⟩ := z
    exact wpAny_pure hq
  · refine wpAny_bind (wpAny_pure ?_)
    simp only [Bool.false_eq_true, if_false]
    refine wpAny_bind (wpAny_mono one (fun r s' z => ?_) fun _ _ e => e)
    obtain ⟨v, rfl, hq⟩ := z
    exact wpAny_pure hq
/-- a rich comparison: the left side, of a built-in type, declines, the right one's own def answers -/
theorem rc_right {M : Model} {A : Around} {E : Value → Shared → Prop} {st : Shared} {K : PySem.W.Frag} {x C : Addr} {ox : Obj} {od : Option Obj} {a : Value} {T : String} {Q : Value → Shared → Prop} (hu : A.units < cLine) (X : K.In st.heap) (I : PySem.W.InstAt st.heap x ox C od)
    (ha : PySem.W.Looks M st.heap (typeOf a) (.type T)) (hn : PySem.W.mroIn K C (.type T) = some false) (h1 : oneThing? .Eq a (.ref x) = none)
    (one : wpAny M A (tryCompare a "__eq__" (.ref x)) (fun r s' => r = none ∧ s' = st) E st) (two : wpAny M A (tryCompare (.ref x) "__eq__" a) (fun r s' => ∃ v, r = some v ∧ Q v s') E st) : wpAny M A (richCompare .Eq a (.ref x)) Q E st := by
  simp only [richCompare, cmpInfo_Eq, h1]
  refine wpAny_holding (wpAny_bind (wpAny_cRoomFor hu ?_))
  refine wpAny_bind (ha.here (wpAny_bind (I.type.here ?_)))
  split
  · refine wpAny_bind ((PySem.W.looks_mroIn X hn).here ?_)
    simp only [Bool.false_eq_true, if_false, Bool.not_false, if_true]
    refine wpAny_bind (m := tryCompare a _ (.ref x)) (wpAny_mono one (fun r s1 z => ?_) fun _ _ e => e)
    obtain ⟨z1, z2⟩ := z
    subst z1
    subst z2
    refine wpAny_bind (m := tryCompare (.ref x) _ a) (wpAny_mono two (fun r s2 z => ?_) fun _ _ e => e)
    obtain ⟨v, rfl, hq⟩ := z
    exact wpAny_pure hq
  · rename_i q
    exact absurd (by simp) q
/-- object.__ne__ of an instance with an own __eq__ -/
theorem ne_entry {M : Model} {A : Around} {E : Value → Shared → Prop} {st : Shared} {K : PySem.W.Frag} {x C f : Addr} {ox : Obj} {od : Option Obj} {b : Value} {Q : Fin → Shared → Prop} (X : K.In st.heap) (I : PySem.W.InstAt st.heap x ox C od) (hs : PySem.W.findIn K (.ref C) "__eq__" = some (some (.ref f))) (hf : PySem.W.isFn K (.ref f) = true) (hu : A.units < cLine)
    (hcall : wpAny M A (call (.ref f) [.ref x, b]) (fun v s' => ∃ k, v = .bool k ∧ Q (.done (.ret (.bool (!k)))) s') E st) : wpAny M A (Builtin.«object.__ne__» ⟨[.ref x, b], []⟩) Q E st := by
  unfold Builtin.«object.__ne__»
  repeat (first
    | with_reducible refine wpAny_cRoomFor hu ?_
    | (refine wpAny_bind (m := callSpecialIfBound? (.ref x) (Str.ofString "__eq__") [b])
        (PySem.W.ifBound_K X I hs hf (wpAny_mono hcall (fun r s' hr => by
          obtain ⟨k, rfl, hq⟩ := hr
          repeat (first | exact hq | exact wpAny_pure hq | exact wpAny_truthy_bool hq | (refine wpAny_bind (m := truthy (.bool _)) (wpAny_truthy_bool ?_)) | wp_step)) fun _ _ e => e)))
    | wp_step)
theorem ifBound_ne {M : Model} {A : Around} {E : Value → Shared → Prop} {st : Shared} {K : PySem.W.Frag} {x C : Addr} {ox : Obj} {od : Option Obj} {args : List Value} {Q : Option Value → Shared → Prop} (X : K.In st.heap) (I : PySem.W.InstAt st.heap x ox C od) (hs : PySem.W.findIn K (.ref C) "__ne__" = some (some (.builtin "object.__ne__")))
    (h : wpAny M A (call (.builtin "object.__ne__") (.ref x :: args)) (fun v => Q (some v)) E st) : wpAny M A (callSpecialIfBound? (.ref x) "__ne__" args) Q E st := by
  simp only [callSpecialIfBound?, bindSpecialIfBound?]
  refine wpAny_holding (wpAny_bind (wpAny_bind (wpAny_bind (I.type.here ((PySem.W.looks_findIn X hs).here ?_)))))
  refine wpAny_bind (wpAny_askSetting (wpAny_ite ?_))
  have fin : wpAny M A (call (.builtin "object.__ne__") ([.ref x] ++ args) >>= fun v => pure (some v)) Q E st := wpAny_bind (wpAny_mono h (fun v s' h' => wpAny_pure h') fun _ _ h' => h')
  split
  · exact wpAny_bind (wpAny_of_eq (F.cmp_object.ne.bind _) (wpAny_pure (by exact fin)))
  · exact wpAny_tryCatch (wpAny_bind (wpAny_of_eq (F.cmp_object.ne.bind _) (wpAny_pure (by exact fin))))
theorem try_ne {P : Program} {w : World} {A : Around} {E : Value → Shared → Prop} {st : Shared} {K : PySem.W.Frag} {x C f : Addr} {ox : Obj} {od : Option Obj} {b : Value} {Q : Value → Shared → Prop} (X : K.In st.heap) (I : PySem.W.InstAt st.heap x ox C od) (hs : PySem.W.findIn K (.ref C) "__eq__" = some (some (.ref f))) (hf : PySem.W.isFn K (.ref f) = true) (hn : PySem.W.findIn K (.ref C) "__ne__" = some (some (.builtin "object.__ne__"))) (hm : PySem.W.mroIn K C (.type "object") = some true) (hu : A.units + 1 < cLine)
    (hcall : wpAny (model P w) A.in1 (call (.ref f) [.ref x, b]) (fun v s' => ∃ k, v = .bool k ∧ Q (.bool (!k)) s') E st) : wpAny (model P w) A (tryCompare (.ref x) "__ne__" b) (fun r s' => ∃ v, r = some v ∧ Q v s') E st := by
  unfold tryCompare
  refine wpAny_bind (ifBound_ne X I hn (wpAny_call (codeAny_call_builtin F.cmp_object.ne.plain F.cmpEntry_ne (PySem.W.check_slot F.cmpKind_ne F.cmpSplit_ne (I.type.andThen (PySem.W.looks_mroIn X hm)) (F.cmpArgs_ne _ _)
    (ne_entry (A := A.in1) X I hs hf hu (wpAny_mono hcall (fun v s' hv => ?_) fun _ _ e => e))))))
  obtain ⟨k, rfl, hq⟩ := hv
  exact ⟨k, rfl, wpAny_pure ⟨_, rfl, hq⟩⟩
end DL

/-! DLO: own __eq__ over data: ==, !=, in. -/
namespace DL
open PySem L2 PySem.Spec PyProof.Rows PySem.SeqAt
/-- a class with an own __eq__ that keeps s and lets nothing out -/
structure EqC (c : Wd) (C : Addr) (k : Nat) (s : DSp) : Prop where
  ex : ∃ (f : Addr) (fd : FuncData) (ps : List Str), FnG c k f fd ps (liftSp c s) ∧ Shape c fd ps 2 [] (fun ds _ => ds) ∧ PySem.W.findIn c.K (.ref C) "__eq__" = some (some (.ref f)) ∧ PySem.W.isFn c.K (.ref f) = true
  ne : PySem.W.findIn c.K (.ref C) "__ne__" = some (some (.builtin "object.__ne__"))
  ob : PySem.W.mroIn c.K C (.type "object") = some true
  bt : ∀ T, T ∈ ["NoneType", "bool", "int", "str", "list", "tuple", "dict"] → PySem.W.mroIn c.K C (.type T) = some false
theorem EqC.mono {c : Wd} {C : Addr} {j k : Nat} {s : DSp} (h : EqC c C j s) (l : j ≤ k) : EqC c C k s := by
  obtain ⟨f, fd, ps, F, b, h1, h2⟩ := h.ex
  exact ⟨⟨f, fd, ps, ⟨F.len, fun A o s H args us vs Q E r => F.run A o s H args us vs Q E (r.mono l)⟩, b, h1, h2⟩, h.ne, h.ob, h.bt⟩
section
variable {X : Cx} {c : Fr} {W : WX} {N : List Str} {sc : Scope} {k j : Nat} {bb : Bool} {e a b : Expr} {es : List Expr} {pos p : Pos} {r ra rb : DTE} {rs : DTA} {x : Str} {C : Addr} {s : DSp}
/-- what a comparison's right side is, by its type -/
def notF (w : Wd) (C : Addr) (y : D) : Prop := tyD w y (fun t => PySem.W.notFirst w.K C t = true)
theorem units1 (B : XB X c W N sc k bb) : X.A.units + 150 < cLine := by have := B.room.un; omega
theorem looksTy (B : XB X c W N sc k bb) {pins : List (Addr × Obj)} {st : Shared} {σ : L2.St} {G H : Hp} (I : Inv X pins σ H st) (le : Le G H) {y : V} {v : Value} {d : D} (ry : Rep c.K c.p0 G y d) (rv : RelV y v) {P : Value → Prop} (h : tyD c.toWd d P) :
    ∃ t, P t ∧ PySem.W.Looks (model X.prog X.w) st.heap (typeOf v) t := by
  obtain ⟨t, ht, hp⟩ := ty_of le B.hK ry h
  obtain ⟨Z, kx, hz, _⟩ := kit_of I rv ht
  exact ⟨t, hp, kx.ty _ _ I.kIn hz⟩
/-- x == y, x an instance with an own __eq__ -/
def rOwnE (c : Fr) (C : Addr) (s : DSp) (neg : Bool) : R2 := fun x y H Q => ∃ (G : Hp) (σ : L2.St) (δ : S) (P : Bool → Prop) (dx dy : D) (fs : List (Str × D)), Rel c G H σ δ ∧ Rep c.K c.p0 G x dx ∧ Rep c.K c.p0 G y dy ∧ dx = .ins C fs ∧ notF c.toWd C dy ∧ s [dx, dy] δ.fu (fun d n => n = δ.fu ∧ ∃ b, d = .bl b ∧ P b) (fun _ _ => False) ∧
  ∀ b G' H', P b → Go c.p0 G H G' H' → Rel c G' H' σ δ → Q (.bl (if neg then !b else b)) H'
theorem rel_any {c : Fr} {G H : Hp} {σ σ' : L2.St} {δ : S} (R : Rel c G H σ δ) {G' H' : Hp} {δ' : S} (p : Post c.K c.cs c.p0 G H G' H' δ.fu) : Rel c G' H' σ δ := by
  have q := R.post p
  exact q
theorem rep_ins {K : PySem.W.Frag} {p0 : Addr} {G : Hp} {x : V} {C : Addr} {fs : List (Str × D)} (h : Rep K p0 G x (.ins C fs)) : ∃ xa dx vs, x = .ref xa ∧ G xa = some (.ins C dx vs) := by
  cases h with
  | ins h1 r1 => exact ⟨_, _, _, rfl, h1⟩
/-- own_run without the frame's own slots -/
theorem own_run (B : XB X c W N sc k bb) (hE : EqC c.toWd C j s) {A : Around} (hr : Room j A) (hg : A.guards = some []) (hf : A.frames = X.A.frames) {pins : List (Addr × Obj)} {st : Shared} {σ σ0 : L2.St} {G H : Hp} {δ : S} {xa : Addr} {y : V} {v : Value} {dx dy : D} {P : D → Prop} (I : Inv X pins σ H st) (R : Rel c G H σ0 δ)
    (rx : Rep c.K c.p0 G (.ref xa) dx) (ry : Rep c.K c.p0 G y dy) (rv : RelV y v) (h : s [dx, dy] δ.fu (fun d n => n = δ.fu ∧ P d) (fun _ _ => False)) :
    ∃ f, PySem.W.findIn c.K (.ref C) "__eq__" = some (some (.ref f)) ∧ PySem.W.isFn c.K (.ref f) = true ∧ ∀ E, wpAny (model X.prog X.w) A (call (.ref f) [.ref xa, v]) (fun u s' => ∃ d w G' H', P d ∧ RelV w u ∧ Rep c.K c.p0 G' w d ∧ Go c.p0 G H G' H' ∧ Rel c G' H' σ0 δ ∧ Inv X pins σ H' s') E st := by
  obtain ⟨f, fd, ps, F, b, h1, h2⟩ := hE.ex
  refine ⟨f, h1, h2, fun E => ?_⟩
  obtain ⟨g, gV, kb, hgV⟩ := b.ex
  have rl : RepL c.K c.p0 G [.ref xa, y] [dx, dy] := .cons rx (.cons ry .nil)
  have rv2 : Vals [V.ref xa, y] [Value.ref xa, v] := .cons rfl (.cons rv .nil)
  have hsp : liftSp c.toWd s (gV [.ref xa, y] []) H (fun w H' => ∃ d G', P d ∧ Rep c.K c.p0 G' w d ∧ Go c.p0 G H G' H' ∧ Rel c G' H' σ0 δ) (fun _ _ _ => False) :=
    ⟨G, [dx, dy], δ.fu, _, _, R.le, R.pn, R.pg, hgV G _ [] _ [] rl .nil, h, fun d n' w G' H' ⟨en, hp⟩ po rr => ⟨d, G', hp, rr, po.go, by subst en; exact R.post po⟩, fun _ _ _ _ _ _ z => z.elim⟩
  have e0 : Env0 c.P c.w c.K c.mg c.base A X.stack st H := by
    have e := I.env0
    rw [B.hP, B.hw, B.hK, B.hm, B.hb] at e
    exact ⟨by rw [hf]; exact e.frames, e.mod, e.bs, e.bsz, e.funs, e.frf, e.hok, e.bare⟩
  have hP := B.hP
  have hw := B.hw
  rw [hP, hw]
  refine wpAny_call (codeAny_mono (F.run A X.stack st H ⟨[.ref xa, v], []⟩ (g [.ref xa, v] []) (gV [.ref xa, y] []) _ _ hr hg e0 (kb.to st [.ref xa, v] [] (by rw [← B.hK]; exact I.kIn) rfl rfl) (kb.rel rv2 .nil) hsp) fun res s' hq => ?_)
  cases res with
  | error ee =>
    obtain ⟨_, _, _, _, _, _, _, _, _, _, _, _, z⟩ := hq
    exact z.elim
  | ok fl =>
    rw [← hP, ← hw] at hq
    cases fl with
    | ret u =>
      obtain ⟨w, H', I', rw', d, G', hp, rr, L, R'⟩ := I.after hq
      exact ⟨d, w, G', H', hp, rw', rr, L, R', I'⟩
    | next => exact hq.elim
    | brk => exact hq.elim
    | cont => exact hq.elim
theorem insAt {pins : List (Addr × Obj)} {st : Shared} {σ : L2.St} {H : Hp} (I : Inv X pins σ H st) {xa dx : Addr} {vs : List (Str × V)} (h : H xa = some (.ins C dx vs)) : ∃ od, PySem.W.InstAt st.heap xa (PySem.W.instObj C dx) C (some od) := by
  obtain ⟨mA, O, _⟩ := ins_get I.hok h
  obtain ⟨od, J, _⟩ := O.look
  exact ⟨od, J⟩
theorem op_ownE (B : XB X c W N sc k bb) (hE : EqC c.toWd C j s) (hj : j ≤ k) : OpR X (compareOp .Eq) (rOwnE c C s false) := by
  intro pins st σ H x y v u Q I rx ry ⟨G, σ0, δ, P, dx, dy, fs, R, hx, hy, e, nf, hs, kk⟩
  subst e
  obtain ⟨xa, dd, vs, rfl, hG⟩ := rep_ins hx
  cases (show v = Value.ref xa from rx)
  obtain ⟨od, J⟩ := insAt I (R.le _ _ hG)
  obtain ⟨t, hn, ht⟩ := looksTy B I R.le hy ry nf
  obtain ⟨f, h1, h2, run⟩ := own_run B hE (B.room.mono hj) B.gd rfl I R hx hy ry hs
  show wpAny _ _ (richCompare .Eq (.ref xa) u) _ _ _
  refine rc_left (op := .Eq) (by have := units1 B; omega) I.kIn J ht (by rw [B.hK]; exact hn) (tryOwn I.kIn J (by rw [B.hK]; exact h1) (by rw [B.hK]; exact h2) (wpAny_mono (run _) (fun w s' z => ?_) fun _ _ x => x))
  obtain ⟨d, wv, G', H', ⟨b, e, hp⟩, rw', rr, L, R', I'⟩ := z
  subst e
  cases rr
  cases (show w = Value.bool b from rw')
  exact ⟨.bl b, H', I', rfl, kk b G' H' hp L R'⟩
theorem op_ownN (B : XB X c W N sc (k + 1) bb) (hE : EqC c.toWd C j s) (hj : j ≤ k) : OpR X (compareOp .NotEq) (rOwnE c C s true) := by
  intro pins st σ H x y v u Q I rx ry ⟨G, σ0, δ, P, dx, dy, fs, R, hx, hy, e, nf, hs, kk⟩
  subst e
  obtain ⟨xa, dd, vs, rfl, hG⟩ := rep_ins hx
  cases (show v = Value.ref xa from rx)
  obtain ⟨od, J⟩ := insAt I (R.le _ _ hG)
  obtain ⟨t, hn, ht⟩ := looksTy B I R.le hy ry nf
  obtain ⟨f, h1, h2, run⟩ := own_run (A := X.A.in1) B hE (B.room.in1.mono hj) B.gd rfl I R hx hy ry hs
  show wpAny _ _ (richCompare .NotEq (.ref xa) u) _ _ _
  refine rc_left (op := .NotEq) (by have := units1 B; omega) I.kIn J ht (by rw [B.hK]; exact hn) (try_ne I.kIn J (by rw [B.hK]; exact h1) (by rw [B.hK]; exact h2) (by rw [B.hK]; exact hE.ne) (by rw [B.hK]; exact hE.ob) (by have := units1 B; omega) (wpAny_mono (run _) (fun w s' z => ?_) fun _ _ x => x))
  obtain ⟨d, wv, G', H', ⟨b, e, hp⟩, rw', rr, L, R', I'⟩ := z
  subst e
  cases rr
  cases (show w = Value.bool b from rw')
  exact ⟨b, rfl, .bl (!b), H', I', rfl, kk b G' H' hp L R'⟩
/-- the reading -/
def oOwn (w : Wd) (C : Addr) (s : DSp) (neg : Bool) (n : Nat) : DOp := fun x y P => (match x with
  | .ins C' _ => C' = C
  | _ => False) ∧ notF w C y ∧ s [x, y] n (fun d m => m = n ∧ ∃ b, d = .bl b ∧ P (.bl (if neg then !b else b))) (fun _ _ => False)
def dBinF (o : Nat → DOp) (ra rb : DTE) : DTE := fun δ P E => ra δ (fun x δ1 => rb δ1 (fun y δ2 => o δ2.fu x y (fun z => P z δ2)) E) E
theorem own_ok {neg : Bool} {σ : L2.St} {H : Hp} {Q : VK} : liftE c W (dBinF (oOwn c.toWd C s neg) ra rb) σ H Q → tOp (rOwnE c C s neg) (liftE c W ra) (liftE c W rb) σ H Q := fun ⟨G, δ, P, E, R, h, kk, x⟩ =>
  ⟨G, δ, _, E, R, h, fun dx δ1 v G1 H1 p1 L1 R1 r1 => ⟨G1, δ1, _, E, R1, p1, fun dy δ2 u G2 H2 p2 L2 R2 r2 => by
    obtain ⟨q1, q2, q3⟩ := p2
    have r1' := r1.mono L2.g
    cases r1' with
    | ins h1 rf =>
      cases (q1 : _ = C)
      exact ⟨G2, σ, δ2, fun b => P (.bl (if neg then !b else b)) δ2, _, dy, _, R2, .ins h1 rf, r2, rfl, q2, q3, fun b G' H' hp L R' => kk _ δ2 _ G' H' hp ((L1.trans L2).trans L) R' (.bl _)⟩
    | _ => exact q1.elim, x.mono L1.g⟩, x⟩
theorem de_eqO (B : XB X c W N sc k bb) (hE : EqC c.toWd C j s) (hj : j ≤ k) (ha : DE X c W a ra) (hb : DE X c W b rb) (hm : behindInMarks .Eq b = false := by rfl) : DE X c W (.Compare a [.Eq] [b] pos) (dBinF (oOwn c.toWd C s false) ra rb) :=
  peI (pe_cmpR (op_ownE B hE hj) ha hb hm) fun σ H Q => own_ok
theorem de_neO (B : XB X c W N sc (k + 1) bb) (hE : EqC c.toWd C j s) (hj : j ≤ k) (ha : DE X c W a ra) (hb : DE X c W b rb) (hm : behindInMarks .NotEq b = false := by rfl) : DE X c W (.Compare a [.NotEq] [b] pos) (dBinF (oOwn c.toWd C s true) ra rb) :=
  peI (pe_cmpR (op_ownN B hE hj) ha hb hm) fun σ H Q => own_ok
theorem dt_eqO (B : XB X c W N sc k bb) (hE : EqC c.toWd C j s) (hj : j ≤ k) (ha : DE X c W a ra) (hb : DE X c W b rb) (hm : behindInMarks .Eq b = false := by rfl) : DT X c W (.Compare a [.Eq] [b] pos) (dTB (dBinF (oOwn c.toWd C s false) ra rb)) :=
  ptI (pt_cmpR (op_ownE B hE hj) ha hb hm) fun σ H Q ⟨G, δ, P, E, R, h, kk, x⟩ => own_ok ⟨G, δ, _, E, R, h, fun d δ' v G' H' p L R' r => dtb_ok kk p L R' r, x⟩
theorem dt_neO (B : XB X c W N sc (k + 1) bb) (hE : EqC c.toWd C j s) (hj : j ≤ k) (ha : DE X c W a ra) (hb : DE X c W b rb) (hm : behindInMarks .NotEq b = false := by rfl) : DT X c W (.Compare a [.NotEq] [b] pos) (dTB (dBinF (oOwn c.toWd C s true) ra rb)) :=
  ptI (pt_cmpR (op_ownN B hE hj) ha hb hm) fun σ H Q ⟨G, δ, P, E, R, h, kk, x⟩ => own_ok ⟨G, δ, _, E, R, h, fun d δ' v G' H' p L R' r => dtb_ok kk p L R' r, x⟩
end
end DL

/-! DLP: in, not in: an own __eq__ on the right side of each comparison, or plain data. -/
namespace DL
open PySem L2 PySem.Spec PyProof.Rows PySem.SeqAt MeetsSeq
section
variable {prog : Program} {w : World} {A : Around} {R : Result → Shared → Prop} {E : Value → Shared → Prop}
/-- at each turn the list is read anew -/
def InI (prog : Program) (w : World) (A : Around) (E : Value → Shared → Prop) (l : Addr) (x : Value) (N : Nat) (I : Nat → Shared → Prop) (T : Shared → Prop) : Prop :=
  ∀ i s, I i s → ∃ (items : Array Value) (n : Nat), s.heap.get? l = some { cls := .type "list", data := .seq items n } ∧ items.size = N ∧
    ∀ (h : i < items.size), wpAny (model prog w) A.in1 (eqBool items[i] x) (fun r s' => if r = true then T s' else I (i + 1) s') E s
theorem in_loopG (l : Addr) (x : Value) (N : Nat) (I : Nat → Shared → Prop) (T : Shared → Prop) (hl : InI prog w A (fun e s' => R (.error e) s') l x N I T)
    (fin : ∀ s, I N s → R (.ok (.ret (.bool false))) s) (yes : ∀ s, T s → R (.ok (.ret (.bool true))) s) (k : Nat) :
    ∀ i : Nat, N - i = k → i ≤ N → ∀ s, I i s →
      wpAny (model prog w) A.in1 (Builtin.«list.__contains__.loop» ⟨[.ref l, x, rawInt i], []⟩) (GQ.FinOf prog w A R) (fun e s' => R (.error e) s') s := by
  induction k with
  | zero =>
    intro i hk hi s h
    obtain ⟨items, n, hl1, hs1, _⟩ := hl _ _ h
    have hi' : i = N := by omega
    have hR : R (.ok (.ret (.bool false))) s := fin s (hi' ▸ h)
    obtain ⟨hp, g, d, tk, os⟩ := s
    wp_walk using AutoSeq1.wpAny_loadPart' hl1
    have hi1 : items[((i : Nat) : Int).toNat]? = none := by simp; omega
    rw [hi1]
    wp_walk
    exact hR
  | succ k ih =>
    intro i hk hi s h
    obtain ⟨items, n, hl1, hs1, turn⟩ := hl _ _ h
    have hlt : i < items.size := by omega
    have ht := turn hlt
    obtain ⟨hp, g, d, tk, os⟩ := s
    wp_walk using AutoSeq1.wpAny_loadPart' hl1
    have hi1 : items[((i : Nat) : Int).toNat]? = some items[i] := by simp [hlt]
    have hc : ((i : Int) + 1) = ((i + 1 : Nat) : Int) := by omega
    rw [hi1]
    refine wpAny_bind (wpAny_mono ht (fun r s2 h2 => ?_) fun _ _ x => x)
    cases r with
    | true =>
      rw [if_pos rfl] at h2
      have hR := yes s2 h2
      obtain ⟨hp2, g2, d2, tk2, os2⟩ := s2
      wp_walk
      exact hR
    | false =>
      rw [if_neg (by simp)] at h2
      have hrec := ih (i + 1) (by omega) (by omega) s2 h2
      obtain ⟨hp2, g2, d2, tk2, os2⟩ := s2
      wp_walk
      rw [hc]
      exact ⟨plainId_quiet plain_contains_loop _, codeAny_builtin entry_contains_loop (by
        rw [Around.under_plainId plain_contains_loop _]
        exact hrec)⟩
theorem list_inG (l : Addr) (x : Value) (N : Nat) (I : Nat → Shared → Prop) (T : Shared → Prop) (hl : InI prog w A (fun e s' => R (.error e) s') l x N I T)
    (fin : ∀ s, I N s → R (.ok (.ret (.bool false))) s) (yes : ∀ s, T s → R (.ok (.ret (.bool true))) s) {s : Shared} (h : I 0 s) :
    wpAny (model prog w) A.in1 (Builtin.«list.__contains__» ⟨[.ref l, x], []⟩) (GQ.FinOf prog w A R) (fun e s' => R (.error e) s') s := by
  have hrec := in_loopG (A := A) (R := R) l x N I T hl fin yes _ 0 rfl (Nat.zero_le _) s h
  obtain ⟨items, n, hl1, hs1, _⟩ := hl _ _ h
  obtain ⟨hp, g, d, tk, os⟩ := s
  wp_walk using AutoSeq1.wpAny_loadPart' hl1
  exact ⟨plainId_quiet plain_contains_loop _, codeAny_builtin entry_contains_loop (by
    rw [Around.under_plainId plain_contains_loop _]
    exact hrec)⟩
theorem contains_listG {l : Addr} {x : Value} {N : Nat} {Q : Bool → Shared → Prop} {s : Shared} (I : Nat → Shared → Prop) (T : Shared → Prop) (hl : InI prog w A E l x N I T) (fin : ∀ s, I N s → Q false s) (yes : ∀ s, T s → Q true s) (h : I 0 s) :
    wpAny (model prog w) A (contains (.ref l) x) Q E s := by
  obtain ⟨items, n, hl1, hs1, _⟩ := hl _ _ h
  refine wpAny_contains_slot ⟨_, hl1, rfl⟩ F.slot_list_contains (wpAny_mono (GQ.call_here (Q := fun v s' => ∃ b, v = .bool b ∧ Q b s') F.slot_list_contains ⟨_, hl1, rfl⟩ F.entry_list_contains (F.args_list_contains_2 _ _)
    (list_inG (R := wants (fun v s' => ∃ b, v = .bool b ∧ Q b s') E) l x N I T hl (fun s' q => ⟨_, rfl, fin s' q⟩) (fun s' q => ⟨_, rfl, yes s' q⟩) h)) (fun v s' hv => ?_) fun _ _ e => e)
  obtain ⟨b, rfl, hq⟩ := hv
  exact wpAny_truthy_bool hq
end
section
variable {X : Cx} {c : Fr} {W : WX} {N : List Str} {sc : Scope} {k j : Nat} {bb : Bool} {e a b : Expr} {es : List Expr} {pos p : Pos} {r ra rb : DTE} {rs : DTA} {x : Str} {C : Addr} {s : DSp}
/-- == within a container -/
theorem eqB_of {M : Model} {A : Around} {E : Value → Shared → Prop} {st : Shared} {a : Value} {x : Addr} {Q : Bool → Shared → Prop} (hne : a ≠ .ref x) (h : wpAny M A (richCompare .Eq a (.ref x)) (fun v s' => ∃ r, v = .bool r ∧ Q r s') E st) : wpAny M A (eqBool a (.ref x)) Q E st := by
  unfold eqBool
  refine wpAny_holding ?_
  refine wpAny_ite_split (fun hab => absurd (eq_of_beq hab) hne) (fun _ => ?_)
  have fin : wpAny M A (richCompare .Eq a (.ref x) >>= fun v => truthOfDropped v) Q E st := wpAny_bind (wpAny_mono h (fun v s' hv => by
    obtain ⟨r, rfl, q⟩ := hv
    exact wpAny_truthy_bool q) fun _ _ x => x)
  cases a <;> exact fin
/-- plain data, == : the left side declines -/
theorem declines (B : XB X c W N sc k bb) (hE : EqC c.toWd C j s) {A : Around} (hu : A.units < cLine) {pins : List (Addr × Obj)} {st : Shared} {σ : L2.St} {G H : Hp} (I : Inv X pins σ H st) (le : Le G H) {y : V} {v : Value} {dy : D} (py : plain dy 40 = true) (ry : Rep c.K c.p0 G y dy) (rv : RelV y v) {xa dx : Addr} {vs : List (Str × V)} (hx : H xa = some (.ins C dx vs)) :
    v ≠ .ref xa ∧ ∃ T, PySem.W.mroIn c.K C (.type T) = some false ∧ PySem.W.Looks (model X.prog X.w) st.heap (typeOf v) (.type T) ∧ oneThing? .Eq v (.ref xa) = none ∧ ∀ E, wpAny (model X.prog X.w) A (tryCompare v "__eq__" (.ref xa)) (fun r s' => r = none ∧ s' = st) E st := by
  obtain ⟨od, J⟩ := insAt I hx
  have hob := J.at_
  have one : ∀ {z : Value}, (∀ f t, z ≠ .float f t) → True := fun _ => trivial
  have lk : ∀ {z : Value} {T : String}, st.TypeIs z T → PySem.W.Looks (model X.prog X.w) st.heap (typeOf z) (.type T) := fun {z T} h => by
    intro A Q E s' kk q
    refine wpAny_typeOf ?_ q
    cases z with
    | ref a => obtain ⟨o, h1, h2⟩ := h; exact ⟨o, kk _ _ h1, h2⟩
    | _ => exact h
  cases ry with
  | non =>
    cases (show v = Value.none from rv)
    exact ⟨by simp, "NoneType", hE.bt _ (by simp), lk rfl, rfl, fun E => wpAny_tryCompare_declines (show st.TypeIs .none "NoneType" from rfl) F.slot_NoneType_eq (call_meets F.slot_NoneType_eq rfl F.entry_NoneType_eq (F.args_NoneType_eq_2 _ _) (none_declines_own xa C dx) ⟨hob, rfl, rfl, rfl⟩)⟩
  | bl b =>
    cases (show v = Value.bool b from rv)
    exact ⟨by simp, "bool", hE.bt _ (by simp), lk rfl, rfl, fun E => wpAny_tryCompare_declines (show st.TypeIs (.bool b) "bool" from rfl) F.slot_bool_eq (call_meets F.slot_bool_eq rfl F.entry_int_eq (F.args_int_eq_2 _ _) (bool_declines_own xa C dx b) ⟨hob, rfl, rfl, rfl⟩)⟩
  | int i =>
    obtain ⟨t, rfl⟩ := (show ∃ t, v = Value.int i t from rv)
    exact ⟨by simp, "int", hE.bt _ (by simp), lk (typeIs_int st i t), rfl, fun E => wpAny_tryCompare_declines (typeIs_int st i t) F.slot_int_eq (call_meets F.slot_int_eq (typeIs_int st i t) F.entry_int_eq (F.args_int_eq_2 _ _) (int_declines_own xa C dx i t) ⟨hob, rfl, rfl, rfl⟩)⟩
  | str y =>
    obtain ⟨t, rfl⟩ := (show ∃ t, v = Value.str y t from rv)
    exact ⟨by simp, "str", hE.bt _ (by simp), lk (typeIs_str st y t), rfl, fun E => wpAny_tryCompare_declines (typeIs_str st y t) F.slot_str_eq (call_meets F.slot_str_eq (typeIs_str st y t) F.entry_str_eq (F.args_str_eq_2 _ _) (str_declines_own xa C dx y t) ⟨hob, rfl, rfl, rfl⟩)⟩
  | @lst l ws zs h1 r1 =>
    cases (show v = Value.ref l from rv)
    obtain ⟨us, v1, p1, _⟩ := I.list (le_l le (.inl h1))
    have hT : st.TypeIs (.ref l) "list" := p1.isList.typeIs
    refine ⟨fun z => ?_, "list", hE.bt _ (by simp), lk hT, oneThing_ref .., fun E => wpAny_tryCompare_declines hT F.slot_list_eq (call_meetsIn F.slot_list_eq hT F.entry_list_eq (F.args_list_eq_2 _ _) (list_declines_own (K := c.K) xa C dx l (hE.bt _ (by simp))) ⟨by rw [← B.hK]; exact I.kIn, hob, rfl, rfl, rfl⟩)⟩
    obtain ⟨o, h1, h2⟩ := hT
    cases z
    rw [hob] at h1; cases h1; cases h2
  | @tup l ws zs h1 r1 =>
    cases (show v = Value.ref l from rv)
    obtain ⟨us, v1, p1, _⟩ := I.tuple (le_t le (by rw [B.hK]; exact h1))
    have hT : st.TypeIs (.ref l) "tuple" := p1.typeIs
    refine ⟨fun z => ?_, "tuple", hE.bt _ (by simp), lk hT, oneThing_ref .., fun E => wpAny_tryCompare_declines hT F.slot_tuple_eq (call_meetsIn F.slot_tuple_eq hT F.entry_tuple_eq (F.args_tuple_eq_2 _ _) (tuple_declines_own (K := c.K) xa C dx l (hE.bt _ (by simp))) ⟨by rw [← B.hK]; exact I.kIn, hob, rfl, rfl, rfl⟩)⟩
    obtain ⟨o, h1, h2⟩ := hT
    cases z
    rw [hob] at h1; cases h1; cases h2
  | @dct l ws zs h1 r1 =>
    cases (show v = Value.ref l from rv)
    obtain ⟨es, ep, dd, sl, ho⟩ := (dic_of I le h1).2.2
    have hT : st.TypeIs (.ref l) "dict" := ⟨_, ho, rfl⟩
    refine ⟨fun z => ?_, "dict", hE.bt _ (by simp), lk hT, oneThing_ref .., fun E => wpAny_tryCompare_declines hT F.slot_dict_eq (call_meetsIn F.slot_dict_eq hT F.entry_dict_eq (F.args_dict_eq_2 _ _) (dict_declines_own (K := c.K) xa C dx l es ep dd sl (hE.bt _ (by simp))) ⟨by rw [← B.hK]; exact I.kIn, hob, ho, rfl, rfl, rfl⟩)⟩
    cases z
    rw [hob] at ho; cases ho
  | ref _ => simp [plain] at py
  | ty _ => simp [plain] at py
  | pen => simp [plain] at py
  | ins _ _ => simp [plain] at py

/-- el in ys, ys plain, el with an own __eq__ -/
def inS (s : DSp) (x : D) (n : Nat) : List D → (Bool → Prop) → Prop
  | [], P => P false
  | y :: r, P => plain y 40 = true ∧ s [x, y] n (fun d m => m = n ∧ ∃ b, d = .bl b ∧ (if b = true then P true else inS s x n r P)) (fun _ _ => False)
def rInO (c : Fr) (C : Addr) (s : DSp) (neg : Bool) : R2 := fun x y H Q => ∃ (G : Hp) (σ : L2.St) (δ : S) (P : Bool → Prop) (fs : List (Str × D)) (ys : List D), Rel c G H σ δ ∧ Rep c.K c.p0 G x (.ins C fs) ∧ Rep c.K c.p0 G y (.lst ys) ∧ inS s (.ins C fs) δ.fu ys P ∧
  ∀ b G' H', P b → Go c.p0 G H G' H' → Rel c G' H' σ δ → Q (.bl (if neg then !b else b)) H'
theorem contains_own (B : XB X c W N sc (k + 1) bb) (hE : EqC c.toWd C j s) (hj : j ≤ k) {pins : List (Addr × Obj)} {st : Shared} {σ σ0 : L2.St} {G H : Hp} {δ : S} {P : Bool → Prop} {fs : List (Str × D)} {ys : List D} {xa la : Addr} {Q : Bool → Shared → Prop} {E : Value → Shared → Prop}
    (I : Inv X pins σ H st) (R : Rel c G H σ0 δ) (rx : Rep c.K c.p0 G (.ref xa) (.ins C fs)) (ry : Rep c.K c.p0 G (.ref la) (.lst ys)) (h : inS s (.ins C fs) δ.fu ys P)
    (q : ∀ b G' H' s', P b → Go c.p0 G H G' H' → Rel c G' H' σ0 δ → Inv X pins σ H' s' → Q b s') : wpAny (model X.prog X.w) X.A (contains (.ref la) (.ref xa)) Q E st := by
  cases ry with
  | @lst _ vs _ h1 r1 =>
    refine contains_listG (N := ys.length) (fun i s' => ∃ G2 H2, Go c.p0 G H G2 H2 ∧ Rel c G2 H2 σ0 δ ∧ Inv X pins σ H2 s' ∧ inS s (.ins C fs) δ.fu (ys.drop i) P) (fun s' => ∃ G2 H2, Go c.p0 G H G2 H2 ∧ Rel c G2 H2 σ0 δ ∧ Inv X pins σ H2 s' ∧ P true)
      (fun i s' ⟨G2, H2, L2, R2, I2, p2⟩ => ?_) (fun s' ⟨G2, H2, L2, R2, I2, p2⟩ => ?_) (fun s' ⟨G2, H2, L2, R2, I2, p2⟩ => q true G2 H2 s' p2 L2 R2 I2) ⟨G, H, Go.refl, R, I, h⟩
    · obtain ⟨z, its, n, rv, e⟩ := (le_rd R2.le (le_rd L2.g h1)).ok I2.hok
      have hl := rv.length
      have hl2 := r1.len
      refine ⟨its.toArray, n, e, by rw [List.size_toArray]; omega, fun hi => ?_⟩
      have hi' : i < its.length := by simpa using hi
      have hy : i < ys.length := by omega
      have hv : i < vs.length := by omega
      rw [drop_cons hy] at p2
      obtain ⟨py, p2⟩ := p2
      obtain ⟨yv, g1, g2⟩ := r1.get (i := i) (x := ys[i]) (by simp [hy])
      obtain ⟨yu, g3, g4⟩ := rv.get g1
      have e3 : its.toArray[i] = yu := by
        rw [List.getElem?_eq_getElem hi'] at g3
        simpa using Option.some.inj g3
      rw [e3]
      have g2' := g2.mono L2.g
      have rx2 := rx.mono L2.g
      obtain ⟨xa', dd, ws, ex, hG⟩ := rep_ins rx2
      cases ex
      obtain ⟨hne, T, hm, ht, h1t, dec⟩ := declines B hE (A := X.A.in1) (by have := units1 B; show X.A.units + 1 < cLine; omega) I2 R2.le py g2' g4 (R2.le _ _ hG)
      obtain ⟨od, J⟩ := insAt I2 (R2.le _ _ hG)
      obtain ⟨f, f1, f2, run⟩ := own_run (A := X.A.in1) B hE (B.room.in1.mono hj) B.gd rfl I2 R2 rx2 g2' g4 p2
      refine eqB_of hne (rc_right (by have := units1 B; show X.A.units + 1 < cLine; omega) I2.kIn J ht (by rw [B.hK]; exact hm) h1t (dec _) (tryOwn I2.kIn J (by rw [B.hK]; exact f1) (by rw [B.hK]; exact f2) (wpAny_mono (run _) (fun w s2 z => ?_) fun _ _ x => x)))
      obtain ⟨d, wv, G3, H3, ⟨b, e, hp⟩, rw', rr, L3, R3, I3⟩ := z
      subst e
      cases rr
      cases (show w = Value.bool b from rw')
      refine ⟨b, rfl, ?_⟩
      cases b with
      | true => rw [if_pos rfl]; rw [if_pos rfl] at hp; exact ⟨G3, H3, L2.trans L3, R3, I3, hp⟩
      | false => rw [if_neg (by simp)]; rw [if_neg (by simp)] at hp; exact ⟨G3, H3, L2.trans L3, R3, I3, hp⟩
    · rw [List.drop_eq_nil_of_le (Nat.le_refl _)] at p2
      exact q false G2 H2 s' p2 L2 R2 I2
theorem op_inO (B : XB X c W N sc (k + 1) bb) (hE : EqC c.toWd C j s) (hj : j ≤ k) : OpR X (compareOp .In) (rInO c C s false) := by
  intro pins st σ H x y v u Q I rx ry ⟨G, σ0, δ, P, fs, ys, R, hx, hy, hs, kk⟩
  obtain ⟨xa, dd, vs, rfl, hG⟩ := rep_ins hx
  cases (show v = Value.ref xa from rx)
  have hy' := hy
  cases hy with
  | @lst la ws _ h1 r1 =>
    cases (show u = Value.ref la from ry)
    show wpAny (model X.prog X.w) X.A (do return Value.bool (← contains (.ref la) (.ref xa))) (EP X pins σ Q) X.xe st
    exact wpAny_bind (contains_own B hE hj I R hx hy' hs fun b G' H' s' hp L R' I' => wpAny_pure ⟨.bl b, H', I', rfl, kk b G' H' hp L R'⟩)
theorem op_notInO (B : XB X c W N sc (k + 1) bb) (hE : EqC c.toWd C j s) (hj : j ≤ k) : OpR X (compareOp .NotIn) (rInO c C s true) := by
  intro pins st σ H x y v u Q I rx ry ⟨G, σ0, δ, P, fs, ys, R, hx, hy, hs, kk⟩
  obtain ⟨xa, dd, vs, rfl, hG⟩ := rep_ins hx
  cases (show v = Value.ref xa from rx)
  have hy' := hy
  cases hy with
  | @lst la ws _ h1 r1 =>
    cases (show u = Value.ref la from ry)
    show wpAny (model X.prog X.w) X.A (do return Value.bool (!(← contains (.ref la) (.ref xa)))) (EP X pins σ Q) X.xe st
    exact wpAny_bind (contains_own B hE hj I R hx hy' hs fun b G' H' s' hp L R' I' => wpAny_pure ⟨.bl (!b), H', I', rfl, kk b G' H' hp L R'⟩)
def oInO (C : Addr) (s : DSp) (neg : Bool) (n : Nat) : DOp := fun x y P => match x, y with
  | .ins C' fs, .lst ys => C' = C ∧ inS s (.ins C' fs) n ys (fun b => P (.bl (if neg then !b else b)))
  | _, _ => False
theorem inO_ok {neg : Bool} {σ : L2.St} {H : Hp} {Q : VK} : liftE c W (dBinF (oInO C s neg) ra rb) σ H Q → tOp (rInO c C s neg) (liftE c W ra) (liftE c W rb) σ H Q := fun ⟨G, δ, P, E, R, h, kk, x⟩ =>
  ⟨G, δ, _, E, R, h, fun dx δ1 v G1 H1 p1 L1 R1 r1 => ⟨G1, δ1, _, E, R1, p1, fun dy δ2 u G2 H2 p2 L2 R2 r2 => by
    have r1' := r1.mono L2.g
    cases r1' with
    | ins h1 rf =>
      cases r2 with
      | lst h2 rl =>
        obtain ⟨q1, q3⟩ := p2
        subst q1
        exact ⟨G2, σ, δ2, fun b => P (.bl (if neg then !b else b)) δ2, _, _, R2, .ins h1 rf, .lst h2 rl, q3, fun b G' H' hp L R' => kk _ δ2 _ G' H' hp ((L1.trans L2).trans L) R' (.bl _)⟩
      | _ => exact p2.elim
    | _ => cases r2 <;> exact p2.elim, x.mono L1.g⟩, x⟩
theorem de_inO (B : XB X c W N sc (k + 1) bb) (hE : EqC c.toWd C j s) (hj : j ≤ k) (ha : DE X c W a ra) (hb : DE X c W b rb) (hm : behindInMarks .In b = false := by first | exact nobehind _ (by decide) (by decide) | rfl) : DE X c W (.Compare a [.In] [b] pos) (dBinF (oInO C s false) ra rb) :=
  peI (pe_cmpR (op_inO B hE hj) ha hb hm) fun σ H Q => inO_ok
theorem de_notInO (B : XB X c W N sc (k + 1) bb) (hE : EqC c.toWd C j s) (hj : j ≤ k) (ha : DE X c W a ra) (hb : DE X c W b rb) (hm : behindInMarks .NotIn b = false := by first | exact nobehind _ (by decide) (by decide) | rfl) : DE X c W (.Compare a [.NotIn] [b] pos) (dBinF (oInO C s true) ra rb) :=
  peI (pe_cmpR (op_notInO B hE hj) ha hb hm) fun σ H Q => inO_ok
end
end DL

/-! DLQ: the pen: its cells, how many were begun, the rest of a great one. -/
namespace DL
open PySem L2 PySem.Spec PyProof.Rows PySem.SeqAt
section
variable {X : Cx} {c : Fr} {W : WX} {N : List Str} {sc : Scope} {k j : Nat} {bb : Bool} {e a b : Expr} {es : List Expr} {pos p p2 : Pos} {r ra rb : DTE} {rs : DTA} {x : Str}
/-- the pen's contents change -/
theorem Rel.pen {G H : Hp} {σ : L2.St} {δ : S} (R : Rel c G H σ δ) {q : Addr} {b : Nat} {z : Int} {n : Nat} (hq : Rd G q (.lst (c.cs.map V.int))) (hz : b + n ≤ 1000000) (hl : c.cs.length ≤ 63) : Rel c G (upd H c.p0 (.lst [.ref q, .int (b : Int), .int z])) σ { δ with fu := n } := by
  refine ⟨fun a u e => ?_, R.g0, fun a u e m => ?_, fun a u e => ?_, R.nw, R.pm, ⟨q, b, z, c.cs, upd_same, ⟨hq, rfl⟩, hz, hl⟩, R.pg, R.len, fun i s h => ?_, R.uq⟩
  · have ne : a ≠ c.p0 := fun z => by rw [z, R.pg] at e; cases e
    rw [upd_ne ne]; exact R.le a u e
  · have ne : a ≠ c.p0 := fun z => m (z ▸ R.pm)
    rw [upd_ne ne]; exact R.h0 a u e m
  · by_cases ne : a = c.p0
    · subst ne; exact ⟨_, upd_same⟩
    · rw [upd_ne ne]; exact R.ht a u e
  · have h' := R.sl i s h
    cases s with
    | un => trivial
    | d y => exact h'
    | own xs => obtain ⟨d, ws, k1, k2, k3, k4⟩ := h'; exact ⟨d, ws, k1, by rw [upd_ne k3.2.2]; exact k2, k3, k4⟩
    | ownK xs => obtain ⟨d, ws, k1, k2, k3, k4⟩ := h'; exact ⟨d, ws, k1, by rw [upd_ne k3.2.2]; exact k2, k3, k4⟩
    | self C2 f2 => obtain ⟨d, dy, ws, k1, k2, k3, k4⟩ := h'; exact ⟨d, dy, ws, k1, by rw [upd_ne k3.2.2]; exact k2, k3, k4⟩
theorem penV {K : PySem.W.Frag} {p0 : Addr} {G : Hp} {v : V} (h : Rep K p0 G v .pen) : v = .ref p0 := by cases h; rfl
theorem cellsD {K : PySem.W.Frag} {p0 : Addr} {G : Hp} : ∀ (cs : List Int), RepL K p0 G (cs.map V.int) (cs.map D.int)
  | [] => .nil
  | i :: r => .cons (.int i) (cellsD r)
def isPen (δ : S) (i : Nat) : Prop := δ.sl[i]? = some (.d .pen)
/-- pen[0], pen[1], pen[2] -/
def dPen (w : Wd) (i : Nat) (ix : Int) : DTE := fun δ P _ => isPen δ i ∧ (if ix = 0 then w.cs.length ≤ 63 → P (.lst (w.cs.map D.int)) δ else if ix = 1 then ∀ b : Nat, b + δ.fu ≤ 1000000 → P (.int (b : Int)) δ else if ix = 2 then ∀ z : Int, P (.int z) δ else False)
theorem de_pen {i : Nat} {x : Str} {ix : Int} {jx} {pos' : Pos} (B : XB X c W N sc k bb) (hN : N[i]? = some x) (hv : Vis sc x) (hd : (x == ("__debug__" : Str)) = false := by decide) (hcd : (x == ("__classdict__" : Str)) = false := by decide) :
    DE X c W (.Subscript (.Name x p) (.Constant (.int ix) jx pos') pos) (dPen c.toWd i ix) :=
  peI (pe_ix ix_seq (pe_var (i := i) (by rw [B.hN]; exact hN) (by rw [B.hs]; exact hv) hd hcd) pe_int (fun _ _ => rfl)) fun σ H Q ⟨G, δ, P, E, R, ⟨ip, h⟩, kk, x⟩ => by
    obtain ⟨v, h1, h2⟩ := R.sl i _ ip
    have ev := penV h2
    subst ev
    obtain ⟨q, b, z, cs, q1, ⟨q2, q3⟩, q4, q5⟩ := R.pn
    subst q3
    refine ⟨_, at_some h1, .inl ⟨c.p0, [.ref q, .int (b : Int), .int z], ix, ?_⟩⟩
    by_cases i0 : ix = 0
    · subst i0
      rw [if_pos rfl] at h
      exact ⟨.ref q, rfl, rfl, .inl (.inl q1), rfl, kk _ δ _ G H (h q5) Go.refl R (.lst q2 (cellsD _))⟩
    · rw [if_neg i0] at h
      by_cases i1 : ix = 1
      · subst i1
        rw [if_pos rfl] at h
        exact ⟨.int b, rfl, rfl, .inl (.inl q1), rfl, kk _ δ _ G H (h b q4) Go.refl R (.int _)⟩
      · rw [if_neg i1] at h
        by_cases i2 : ix = 2
        · subst i2
          rw [if_pos rfl] at h
          exact ⟨.int z, rfl, rfl, .inl (.inl q1), rfl, kk _ δ _ G H (h z) Go.refl R (.int _)⟩
        · rw [if_neg i2] at h; exact h.elim
/-- pen[1] = .., pen[2] = .. -/
def gPen (i : Nat) (ix : Int) : DTG := fun d δ P => isPen δ i ∧ (match d with
  | .int v => if ix = 1 then ∃ b n : Nat, v = (b : Int) ∧ b + n ≤ 1000000 ∧ P { δ with fu := n } else if ix = 2 then ∃ n : Nat, n ≤ δ.fu ∧ P { δ with fu := n } else False
  | _ => False)
theorem dg_pen {i : Nat} {x : Str} {ix : Int} {jx} {pos' : Pos} (B : XB X c W N sc k bb) (hN : N[i]? = some x) (hv : Vis sc x) (hd : (x == ("__debug__" : Str)) = false := by decide) (hcd : (x == ("__classdict__" : Str)) = false := by decide) :
    DG X c (.Subscript (.Name x p) (.Constant (.int ix) jx pos') pos) (gPen i ix) :=
  pgI (pg_sub (pe_var (i := i) (by rw [B.hN]; exact hN) (by rw [B.hs]; exact hv) hd hcd) pe_int set_list) fun v σ H Q ⟨G, δ, d, P, R, r, ⟨ip, h⟩, kk⟩ => by
    obtain ⟨w, h1, h2⟩ := R.sl i _ ip
    have ev := penV h2
    subst ev
    obtain ⟨q, b, z, cs, q1, ⟨q2, q3⟩, q4, q5⟩ := R.pn
    subst q3
    refine ⟨_, at_some h1, c.p0, [.ref q, .int (b : Int), .int z], ix, ?_⟩
    cases r with
    | int v =>
      by_cases i1 : ix = 1
      · subst i1
        simp only [if_true] at h
        obtain ⟨b', n, e, hz, hp⟩ := h
        subst e
        exact ⟨1, rfl, rfl, q1, rfl, kk _ G _ _ hp (Le.refl _) (R.pen q2 hz q5)⟩
      · simp only [i1, if_false] at h
        by_cases i2 : ix = 2
        · subst i2
          simp only [if_true] at h
          obtain ⟨n, hn, hp⟩ := h
          exact ⟨2, rfl, rfl, q1, rfl, kk _ G _ _ hp (Le.refl _) (R.pen q2 (by omega) q5)⟩
        · simp only [i2, if_false] at h
    | _ => exact h.elim
/-- what a draw gives -/
def sDraw : DSp := fun ds n P _ => ∃ m : Int, ds = [.pen, .int m] ∧ 0 < m ∧ m < 1073741824 ∧ 0 < n ∧ ∀ z : Int, 0 ≤ z → z < m → P (.int z) (n - 1)
end
end DL

/-! DLR: small rules; the law's end. -/
namespace DL
open PySem L2 PySem.Spec PyProof.Rows PySem.SeqAt
section
variable {X : Cx} {c : Fr} {W : WX} {N : List Str} {sc : Scope} {k j : Nat} {bb : Bool} {e a b : Expr} {es : List Expr} {pos p p2 : Pos} {r ra rb : DTE} {rs : DTA} {x : Str} {t : DTS} {st : Stmt} {sts : List Stmt}
/-- {} -/
theorem de_dct0 : DE X c W (.Dict [] [] pos) (dC (.dct [])) := peI pe_dnewK fun σ H Q ⟨G, δ, P, E, R, h, kk, x⟩ p hp =>
  kk _ δ _ _ _ h (Go.newH hp (R.gnone hp)) (R.laid' hp) (.dct (.inl upd_same) .nil)
/-- {text: int} -/
theorem de_dct1 {z : Str} {i : Int} {j1 j2 : Nat} {p3 p4 : Pos} : DE X c W (.Dict [some (.Constant (.str z) j1 p3)] [.Constant (.int i) j2 p4] pos) (dC (.dct [(.inr z, .int i)])) :=
  peI (pe_disp (pps_cons pe_str pe_int pps_nil) rfl rfl (by simp) (by simp)) fun σ H Q ⟨G, δ, P, E, R, h, kk, x⟩ p hp => by
    refine ⟨upd_same, [(.inr z, V.int i)], rfl, by simp, ?_⟩
    have e : upd (upd H p (.dK [])) p (.dK (mergeK [] [(Sum.inr z, V.int i)])) = upd H p (.dK [((.inr z : Key), V.int i)]) := by
      funext a
      by_cases q : a = p
      · subst q; rw [upd_same, upd_same]; rfl
      · rw [upd_ne q, upd_ne q, upd_ne q]
    rw [e]
    exact kk _ δ _ _ _ h (Go.newH hp (R.gnone hp)) (R.laid' hp) (.dct (.inl upd_same) (.cons (.int i) .nil))
/-- names, by sight -/
theorem dv {i : Nat} {x : Str} (B : XB X c W N sc k bb) (hN : N[i]? = some x := by rfl) (hv : Vis sc x := by first | exact Or.inl rfl | exact Or.inr (Or.inl rfl) | exact Or.inr (Or.inr rfl)) (hd : (x == ("__debug__" : Str)) = false := by decide) (hcd : (x == ("__classdict__" : Str)) = false := by decide) : DE X c W (.Name x pos) (dVar i) := de_var B hN hv hd hcd
theorem dset {i : Nat} {x : Str} {pos' : Pos} (B : XB X c W N sc k false) (he : DE X c W e r) (hi : N[i]? = some x := by rfl) (hx : Loc sc x := by first | exact Or.inl rfl | exact Or.inr rfl) (hs : swapsWith e (some (.Name x pos')) pos.line X.env = pure false := by rfl) : DS X c W (.Assign [.Name x pos'] e pos) (dSet i r) := ds_set B hi hx he hs
theorem dgn {i : Nat} {x : Str} (B : XB X c W N sc k false) (hi : N[i]? = some x := by rfl) (hx : Loc sc x := by first | exact Or.inl rfl | exact Or.inr rfl) : DG X c (.Name x pos) (gN i) := dg_name B hi hx
theorem dcp {op : CmpOp} {o : DOp} (ho : OpD X c (compareOp op) o) (ha : DE X c W a ra) (hb : DE X c W b rb) (hm : behindInMarks op b = false := by first | exact nobehind _ (by decide) (by decide) | rfl) : DE X c W (.Compare a [op] [b] pos) (dBin o ra rb) := de_cmp ho ha hb hm
theorem dtc {op : CmpOp} {o : DOp} (ho : OpD X c (compareOp op) o) (ha : DE X c W a ra) (hb : DE X c W b rb) (hm : behindInMarks op b = false := by first | exact nobehind _ (by decide) (by decide) | rfl) : DT X c W (.Compare a [op] [b] pos) (dTB (dBin o ra rb)) := dt_cmp ho ha hb hm
/-! ### how a call's values fall to the parameters -/
def pick {α : Type} (ix : List Nat) (l : List α) : List α := ix.filterMap fun i => l[i]?
theorem Vals.pick {vs : List V} {us : List Value} (h : Vals vs us) : ∀ ix : List Nat, Vals (pick ix vs) (pick ix us)
  | [] => .nil
  | i :: ix => by
    unfold DL.pick
    rw [List.filterMap_cons, List.filterMap_cons]
    cases e : vs[i]? with
    | none =>
      have e2 : us[i]? = none := by
        rw [List.getElem?_eq_none_iff] at e ⊢
        rw [← h.length]; exact e
      rw [e2]
      exact Vals.pick h ix
    | some v =>
      obtain ⟨u, h1, h2⟩ := h.get e
      rw [h1]
      exact .cons h2 (Vals.pick h ix)
theorem RepL.pick {K : PySem.W.Frag} {p0 : Addr} {G : Hp} {vs : List V} {ds : List D} (h : RepL K p0 G vs ds) : ∀ ix : List Nat, RepL K p0 G (pick ix vs) (pick ix ds)
  | [] => .nil
  | i :: ix => by
    unfold DL.pick
    rw [List.filterMap_cons, List.filterMap_cons]
    cases e : ds[i]? with
    | none =>
      have e2 : vs[i]? = none := by
        rw [List.getElem?_eq_none_iff] at e ⊢
        rw [h.len]; exact e
      rw [e2]
      exact RepL.pick h ix
    | some d =>
      obtain ⟨u, h1, h2⟩ := h.get e
      rw [h1]
      exact .cons h2 (RepL.pick h ix)
theorem Vals.app : ∀ {vs : List V} {us : List Value} {zs : List V} {ws : List Value}, Vals vs us → Vals zs ws → Vals (vs ++ zs) (us ++ ws)
  | _, _, _, _, .nil, h => h
  | _, _, _, _, .cons a b, h => .cons a (Vals.app b h)
/-- a def without defaults: n values, the keywords ks; the parameters from ix -/
theorem shape_of {w : Wd} {x qual : Str} {st : Stmt} {f : Addr} {fd : FuncData} {ps ks : List Str} {n : Nat} (F : Fun w.K x qual st f fd) (ix : List Nat)
    (h : ∀ (kV doc pm : Value) (an : Option Addr) (cdv ct : Value) (us ws : List Value), us.length = n → ws.length = ks.length → bindArgs (PySem.W.fnOf x qual (defArgs st) (defBody st) (defScope st) .none kV doc pm an cdv ct) ⟨us, ks.zip ws⟩ = pure (ps.zip (pick ix (us ++ ws)))) :
    Shape w fd ps n ks (fun ds es => pick ix (ds ++ es)) := by
  obtain ⟨oc, od, kV, doc, pm, an, cdv, ct, osl, rfl, lk, hcd⟩ := F.ex
  exact ⟨_, _, ⟨fun s us ws _ h1 h2 => .of_eq (h kV doc pm an cdv ct us ws h1 h2), fun r1 r2 => Vals.pick (Vals.app r1 r2) ix⟩, fun G vs zs ds es r1 r2 => RepL.pick (r1.app r2) ix⟩
/-- all by place -/
theorem shape_0 {w : Wd} {x qual : Str} {st : Stmt} {f : Addr} {fd : FuncData} {ps : List Str} {n : Nat} (F : Fun w.K x qual st f fd)
    (h : ∀ (kV doc pm : Value) (an : Option Addr) (cdv ct : Value) (us : List Value), us.length = n → bindArgs (PySem.W.fnOf x qual (defArgs st) (defBody st) (defScope st) .none kV doc pm an cdv ct) ⟨us, []⟩ = pure (ps.zip us)) :
    Shape w fd ps n [] (fun ds _ => ds) := by
  obtain ⟨oc, od, kV, doc, pm, an, cdv, ct, osl, rfl, lk, hcd⟩ := F.ex
  exact ⟨fun us _ => us, fun vs _ => vs, ⟨fun s us ws _ h1 h2 => by
    have e : ws = [] := List.length_eq_zero_iff.mp h2
    subst e
    exact .of_eq (h kV doc pm an cdv ct us h1), fun r1 _ => r1⟩, fun G vs zs ds es r1 _ => r1⟩
theorem kbn_0 {K : PySem.W.Frag} {x qual : Str} {st : Stmt} {f : Addr} {fd : FuncData} {ps : List Str} {n : Nat} (F : Fun K x qual st f fd)
    (h : ∀ (kV doc pm : Value) (an : Option Addr) (cdv ct : Value) (us : List Value), us.length = n → bindArgs (PySem.W.fnOf x qual (defArgs st) (defBody st) (defScope st) .none kV doc pm an cdv ct) ⟨us, []⟩ = pure (ps.zip us)) :
    KBn K fd ps n [] (fun us _ => us) (fun vs _ => vs) := by
  obtain ⟨oc, od, kV, doc, pm, an, cdv, ct, osl, rfl, lk, hcd⟩ := F.ex
  exact ⟨fun s us ws _ h1 h2 => by
    have e : ws = [] := List.length_eq_zero_iff.mp h2
    subst e
    exact .of_eq (h kV doc pm an cdv ct us h1), fun r1 _ => r1⟩
theorem fun_d {K : PySem.W.Frag} {x qual : Str} {st : Stmt} {f : Addr} {fd : FuncData} (F : Fun K x qual st f fd) : FunD K x qual (defArgs st) (defBody st) (defScope st) [] [] f fd := by
  obtain ⟨oc, od, kV, doc, pm, an, cdv, ct, osl, rfl, lk, hcd⟩ := F.ex
  exact ⟨⟨oc, od, .none, kV, doc, pm, an, cdv, ct, osl, rfl, lk, hcd, .inl ⟨rfl, rfl⟩, .inl rfl⟩, F.kp⟩
/-! ### the pen's making -/
/-- the pen is new: the script's cells, nothing begun -/
def spPen (K : PySem.W.Frag) : Sp := fun vs H Q _ => ∃ (l : Addr) (ns : List Int), vs = [.ref l] ∧ SqL K H l (ns.map V.int) ∧ ns.length ≤ 63 ∧
  ∀ (p q : Addr) (H' : Hp), Ext H H' → H p = none → H q = none → p ≠ q → H' q = some (.lst (ns.map V.int)) → H' p = some (.lst [.ref q, .int 0, .int 0]) → Q (.ref p) H'
/-- any frame that bears the world -/
def liftAny (K0 : Wd → Prop) (Wx : WX) (t : Wd → DTS) : TS := fun D σ H => ∃ cf : Fr, K0 cf.toWd ∧ liftS cf Wx (t cf.toWd) D σ H
theorem pss_any {K0 : Wd → Prop} {Wx : WX} {t : Wd → DTS} (h : ∀ cf : Fr, K0 cf.toWd → DSs X cf Wx sts (t cf.toWd)) : PSs X sts (liftAny K0 Wx t) := ⟨fun pins s σ H D I ⟨cf, k0, q⟩ => (h cf k0).run pins s σ H D I q⟩
def lawWd (P : Program) (w : World) (K : PySem.W.Frag) (mg : Str → Option Value) (base : Heap) (p : Addr) (cs : List Int) : Wd := ⟨P, w, K, mg, base, p, cs⟩
def lawN : DN := { nx := fun _ => False, rt := fun d _ => d = .bl true, bk := fun _ => False, ct := fun _ => False, ex := fun _ _ => False }
/-- the frame behind the pen's making -/
theorem rel_law {P : Program} {w : World} {K : PySem.W.Frag} {mg : Str → Option Value} {base : Heap} {H : Hp} {p q : Addr} {ns : List Int} {n : Nat} {v0 : V} (hl : ns.length ≤ 63) (hpq : p ≠ q) (h1 : H q = some (.lst (ns.map V.int))) (h2 : H p = some (.lst [.ref q, .int 0, .int 0])) :
    Rel (frOf (lawWd P w K mg base p ns) (upd (fun _ => none) q (.lst (ns.map V.int))) H [p]) (upd (fun _ => none) q (.lst (ns.map V.int))) H (some v0 :: some (.ref p) :: List.replicate n none) ⟨.un :: .d .pen :: List.replicate n .un, 1000000⟩ := by
  have gz : ∀ a o, upd (fun _ => (none : Option HO)) q (.lst (ns.map V.int)) a = some o → a = q ∧ o = .lst (ns.map V.int) := fun a o e => by
    by_cases z : a = q
    · subst z; rw [upd_same] at e; cases e; exact ⟨rfl, rfl⟩
    · rw [upd_ne z] at e; cases e
  refine ⟨fun a o e => ?_, Le.refl _, fun a o e _ => e, fun a o e => ⟨o, e⟩, fun a o e => .inl e, by simp [lawWd], ⟨q, 0, 0, ns, h2, ⟨.inl upd_same, rfl⟩, by simp, hl⟩, ?_, by simp, fun i s h => ?_, fun i j a s t _ h1 _ o1 _ _ _ => ?_⟩
  · obtain ⟨rfl, rfl⟩ := gz a o e; exact h1
  · show upd (fun _ => none) q _ p = none
    rw [upd_ne hpq]
  · match i, h with
    | 0, h => cases h; trivial
    | 1, h => cases h; exact ⟨.ref p, rfl, .pen⟩
    | i + 2, h =>
      have e : (List.replicate n Sl.un)[i]? = some s := h
      rw [List.getElem?_replicate] at e
      split at e
      · cases e; trivial
      · cases e
  · match i, h1 with
    | 0, h => cases h; cases o1
    | 1, h => cases h; cases o1
    | i + 2, h =>
      have e : (List.replicate n Sl.un)[i]? = some s := h
      rw [List.getElem?_replicate] at e
      split at e
      · cases e; cases o1
      · cases e
end
end DL

/-! DLS: the law as a whole. -/
namespace DL
open PySem L2 PySem.Spec PyProof.Rows PySem.SeqAt
section
variable {X : Cx} {W : WX} {N : List Str} {sc : Scope} {k j : Nat} {e a b : Expr} {es : List Expr} {pos p : Pos} {x : Str}
/-- a def is called that keeps a raw promise and lets nothing out -/
theorem pe_callG {c : Wd} {f : Addr} {fd : FuncData} {ps : List Str} {sp : Sp} {t : TA} {gD : List D → List D → List D} (h1 : X.prog = c.P) (h2 : X.w = c.w) (h3 : X.K = c.K) (h4 : X.mg = c.mg) (h5 : X.base = c.base) (hg0 : X.A.guards = some []) (hr : Room j X.A)
    (F : FnG c j f fd ps sp) (kp : PySem.W.keepIn c.K (.ref f) = true) {n : Nat} (kb : KBn c.K fd ps n [] (fun us _ => us) (fun vs _ => vs)) (hm : c.mg x = some (.ref f)) (hg : Gl X x) (ha : PA X (e :: es) t) (hn : ps.length = n)
    (hdb : (x == ("__debug__" : Str)) = false := by decide) (he : starEach (e :: es) X.env = (false, eval e X.env) :: starEach es X.env := by rfl) (hpl : (backTo pos (starEach es X.env)).any (·.1) = false := by rfl) :
    PE X (.Call (.Name x p) (e :: es) [] pos) (fun σ H Q => t σ H fun vs H1 => sp vs H1 Q (fun _ _ _ => False)) := by
  refine ⟨fun pins st σ H Q I h => ?_⟩
  refine wpAny_Call_Name_kw (ld_glob I hg (by rw [h4]; exact hm) ?_ hdb)
  refine PySem.W.callWith_K (h₀ := X.base) I.ok.mod.kin (by rw [h3]; exact kp) (thn (ha.run pos pins st σ H (fun vs H1 => sp vs H1 Q (fun _ _ _ => False)) I h) fun us s1 ⟨vs, H1, I1, rv, q⟩ => ⟨I1.kIn, ?_⟩) he hpl
  have E0 : Env0 c.P c.w c.K c.mg c.base X.A X.stack s1 H1 := by rw [← h1, ← h2, ← h3, ← h4, ← h5]; exact I1.env0
  have hl := F.len _ _ _ _ q
  have hu : us.length = n := by rw [← rv.length, hl, hn]
  rw [h1, h2]
  refine wpAny_call (codeAny_mono (F.run X.A X.stack s1 H1 ⟨us, []⟩ us vs Q _ hr hg0 E0 (kb.to s1 us [] (by rw [← h3]; exact I1.kIn) hu rfl) rv q) fun res s' hq => ?_)
  cases res with
  | error ee =>
    obtain ⟨_, _, _, _, _, _, _, _, _, _, _, _, z⟩ := hq
    exact z.elim
  | ok fl => rw [← h1, ← h2] at hq; cases fl <;> first | exact I1.after hq | exact hq.elim
end
/-- law's promise -/
def spLaw (K : PySem.W.Frag) : Sp := fun vs H Q _ => ∃ (a : Addr) (ns : List Int), vs = [.ref a] ∧ SqL K H a (ns.map V.int) ∧ ns.length ≤ 63 ∧ ∀ H', Q (.bl true) H'
def isLaw (P : Program) (w : World) (K : PySem.W.Frag) (mg : Str → Option Value) (base : Heap) (c : Wd) : Prop := ∃ p cs, c = lawWd P w K mg base p cs
theorem law_ok {P : Program} {w : World} {K : PySem.W.Frag} {mg : Str → Option Value} {base : Heap} {name qual : Str} {params : Arguments} {rest : List Stmt} {scope : Scope} {dvs : List V} {kws : List (Str × V)} {f fP : Addr} {fd fdP : FuncData} {N : List Str} {k kp n : Nat} {t : Wd → DTS} {y : Str} {pos pos' p1 p2 p3 : Pos}
    (F : FunD K name qual params (.Assign [.Name y pos'] (.Call (.Name "_law_pen" p1) [.Name "_law_script" p2] [] p3) pos :: rest) scope dvs kws f fd) (S : FnScope N ["_law_script"] scope) (hN : N.length = n + 2) (h0 : N[0]? = some ("_law_script" : Str)) (h1 : N[1]? = some y)
    (v0 : Vis scope ("_law_script" : Str)) (v1 : Loc scope y) (g0 : scope.names.lookup ("_law_pen" : Str) = some .globalImplicit)
    (FP : FnG (lawWd P w K mg base 0 []) kp fP fdP ["_law_script"] (spPen K)) (kpn : PySem.W.keepIn K (.ref fP) = true) (hm : mg "_law_pen" = some (.ref fP)) (kb : KBn K fdP ["_law_script"] 1 [] (fun us _ => us) (fun vs _ => vs)) (hk : kp ≤ k)
    (hsw : ∀ env : Env, env.scope = scope → swapsWith (.Call (.Name "_law_pen" p1) [.Name "_law_script" p2] [] p3) (some (.Name y pos')) pos.line env = pure false)
    (hb : ∀ (X : Cx) (cf : Fr) (W : WX), isLaw P w K mg base cf.toWd → XB X cf W N scope k false → DSs X cf W rest (t cf.toWd))
    (hl : ∀ (p : Addr) (ns : List Int), ns.length ≤ 63 → t (lawWd P w K mg base p ns) lawN ⟨.un :: .d .pen :: List.replicate n .un, 1000000⟩) : FnG (lawWd P w K mg base 0 []) (k + 1) f fd ["_law_script"] (spLaw K) := by
  refine fnG_of (c := lawWd P w K mg base 0 []) F S (fun vs H Q E h => ?_) fun cdv A outer s H vs Q E room gd h => ?_
  · obtain ⟨a, ns, rfl, _⟩ := h; rfl
  · obtain ⟨a, ns, rfl, hS, hlen, q⟩ := h
    have tk := takes_of (X := cxOf (L2.CX P w) P w K mg base N qual scope f cdv A outer s H E) (E := E) rfl rfl rfl rfl
    have nd : (cxOf (L2.CX P w) P w K mg base N qual scope f cdv A outer s H E).N.Nodup := S.nd
    refine ⟨_, pss_cons (ps_set (i := 1) nd h1 v1 (pe_callG (c := lawWd P w K mg base 0 []) (gD := fun d _ => d) rfl rfl rfl rfl rfl gd (room.mono hk) FP kpn kb hm g0 (pa_cons (pe_var (i := 0) h0 v0) pa_nil) rfl) (hsw _ rfl) (.inl rfl))
      (pss_any (K0 := isLaw P w K mg base) fun cf k0 => hb _ cf (fun cls dd _ H' => E cls dd H') k0 (by
        obtain ⟨p, cs, e⟩ := k0
        exact ⟨by rw [e]; rfl, by rw [e]; rfl, by rw [e]; rfl, by rw [e]; rfl, by rw [e]; rfl, rfl, S.nd, rfl, rfl, room, gd, tk, passes_of rfl, fun _ _ => rfl⟩)), ?_⟩
    have hst : L2.start N [V.ref a] = some (.ref a) :: List.replicate (n + 1) none := by
      unfold L2.start
      rw [hN]
      rfl
    rw [hst]
    refine ⟨_, rfl, a, ns, rfl, hS, hlen, fun p qq H' ext hp hq hpq e1 e2 => ?_⟩
    have hset : (some (V.ref a) :: List.replicate (n + 1) none).set 1 (some (V.ref p)) = some (.ref a) :: some (.ref p) :: List.replicate n none := by
      rw [List.replicate_succ]; rfl
    show liftAny _ _ _ _ _ _
    rw [hset]
    refine ⟨_, ⟨p, ns, rfl⟩, _, _, lawN, rel_law (n := n) hlen hpq e1 e2, hl p ns hlen, ⟨fun _ _ _ _ z => z.elim, fun d δ' v G' H2 σ' ed L R' rr => ?_, fun _ _ _ _ z => z.elim, fun _ _ _ _ z => z.elim, fun _ _ _ _ _ _ _ z => z.elim⟩⟩
    subst ed
    cases rr
    exact q H2
end DL

/-! DLT: from law's promise to the row. -/
namespace DL
open PySem L2 PySem.Spec PyProof.Rows PySem.SeqAt
/-- what law's end must be -/
abbrev LawEnd (st : Shared) (r : Result) (s' : Shared) : Prop := r = .ok (.ret (.bool true)) ∧ OldK st.heap s'.heap ∧ s'.os = st.os ∧ AllBare s'.gens
/-- H tracks the script at most -/
structure Track (K : PySem.W.Frag) (st : Shared) (a : Addr) (H : Hp) : Prop where
  only : Only H
  just : ∀ b, H b ≠ none → b = a
  off : H a ≠ none → K.lookup a = none
theorem lawTracked {P : Program} {w : World} {K : PySem.W.Frag} {mg mb : Str → Option Value} {k : Nat} {fa a : Addr} {fd : FuncData} {x : Str} {st : Shared} {vs : List Value} {ns : List Int} {H : Hp} (T : Track K st a H) (hok : HOk P w H st.heap) (hS : SqL K H a (ns.map V.int))
    (KX : K.In st.heap) (G1 : st.heap.Ns mainGlobals mg) (G2 : st.heap.Ns builtinsNs mb) (G3 : ∀ x : Str, x ≠ "__name__" → mb x = bootBuiltins x) (G4 : st.heap.NoLimit) (G5 : st.gens = #[]) (hobj : st.heap.get? a = some { cls := .type "list", data := .seq vs.toArray })
    (hr : Room k callerA) (hl : ns.length ≤ 63) (F : ∀ base : Heap, K.In base → base.Ns mainGlobals mg → FnG (lawWd P w K mg base 0 []) k fa fd [x] (spLaw K)) (bnd : ∀ (s : Shared) (u : Value), BindsTo s fd ⟨[u], []⟩ [(x, u)]) :
    codeAny (model P w) callerA (.call (.ref fa) ⟨[.ref a], []⟩) (LawEnd st) st := by
  let hh := hidT st.heap H
  -- what is not the script stands in the base
  have low : ∀ {b : Addr} {o : Obj}, st.heap.get? b = some o → b ≠ a → hh.get? b = some o := fun {b o} e ne => hidT_get e (Classical.byContradiction fun z => ne (T.just b z))
  have dic : ∀ {b : Addr} {o : Obj} {es : Array DictEntry} {ep : Nat}, st.heap.get? b = some o → o.data = .dict es ep → b ≠ a := fun {b o es ep} e d z => by
    subst z
    have e2 := e.symm.trans hobj
    cases e2
    cases d
  have nss : ∀ {b : Addr} {m : Str → Option Value}, st.heap.Ns b m → hh.Ns b m := fun {b m} h => by
    obtain ⟨o, es, ep, e, d, r⟩ := h
    exact ⟨o, es, ep, low e (dic e d), d, r⟩
  have kin : K.In hh := fun b o e => hidT_get (KX b o e) (Classical.byContradiction fun z => by
    have eb := T.just b z
    subst eb
    have e2 := (T.off z).symm.trans e
    cases e2)
  have md : Mod K mg hh := by
    obtain ⟨mc, l1, l2⟩ := G4
    exact ⟨kin, nss G1, ⟨mb, nss G2, G3⟩, ⟨mc, nss l1, l2⟩⟩
  have env : Env0 P w K mg hh callerA [] st H := by
    refine ⟨rfl, md, fun b o e => of_hidT e, Nat.le_of_eq (hidT_size _ _), trivial, fun b hb => ?_, hok, .of_eq G5⟩
    cases hb
  refine codeAny_mono ((F hh kin (nss G1)).run callerA [] st H ⟨[.ref a], []⟩ [.ref a] [.ref a] (fun v _ => v = .bl true) (fun _ _ _ => False) hr rfl env (bnd st (.ref a)) (.cons rfl .nil) ⟨a, ns, rfl, hS, hl, fun _ => rfl⟩) fun r s' h => ?_
  match r, h with
  | .error e, h =>
    obtain ⟨_, _, _, _, _, _, _, _, _, _, _, _, z⟩ := h
    exact z.elim
  | .ok (.ret u), h =>
    obtain ⟨v, H', os, bare, un, hok', rv, ev⟩ := h
    subst ev
    cases (show u = Value.bool true from rv)
    refine ⟨rfl, OldK.of_keep fun b o e => ?_, os, bare⟩
    rcases T.only b with z | ⟨ob, xs, z⟩
    · exact un.keep b o e z (fun w => by cases w) (by simp)
    · have k1 := (hok b _ z).1
      have k2 := (hok' b _ (un.frzs b ob _ z)).1
      have e3 := e.symm.trans k1
      cases e3
      exact k2
  | .ok .next, h => exact h.elim
  | .ok .brk, h => exact h.elim
  | .ok .cont, h => exact h.elim
theorem lawCalled {P : Program} {w : World} {K : PySem.W.Frag} {mg mb : Str → Option Value} {k : Nat} {fa a : Addr} {fd : FuncData} {x : Str} {st : Shared} {vs : List Value} {ns : List Int}
    (KX : K.In st.heap) (G1 : st.heap.Ns mainGlobals mg) (G2 : st.heap.Ns builtinsNs mb) (G3 : ∀ x : Str, x ≠ "__name__" → mb x = bootBuiltins x) (G4 : st.heap.NoLimit) (G5 : st.gens = #[]) (hobj : st.heap.get? a = some { cls := .type "list", data := .seq vs.toArray }) (hi : IntsAre vs ns)
    (hr : Room k callerA) (hl : ns.length ≤ 63) (F : ∀ base : Heap, K.In base → base.Ns mainGlobals mg → FnG (lawWd P w K mg base 0 []) k fa fd [x] (spLaw K)) (bnd : ∀ (s : Shared) (u : Value), BindsTo s fd ⟨[u], []⟩ [(x, u)]) :
    codeAny (model P w) callerA (.call (.ref fa) ⟨[.ref a], []⟩) (LawEnd st) st := by
  have rv := vals_ints hi
  have sz : ns.length ≤ sizeLine := Nat.le_trans hl (by decide)
  cases hk : K.lookup a with
  | some o =>
    have e := hobj.symm.trans (KX a o hk)
    cases e
    refine lawTracked (H := fun _ => none) ⟨fun _ => .inl rfl, fun b z => absurd rfl z, fun z => absurd rfl z⟩ (fun b u z => ?_) (.inr ⟨_, vs.toArray, _, hk, rfl, rfl, rfl, by rw [List.size_toArray, hi.length]; exact sz, by simpa using rv⟩) KX G1 G2 G3 G4 G5 hobj hr hl F bnd
    cases (show (none : Option HO) = some u from z)
  | none =>
    let one : HO := .frz { cls := .type "list", data := .seq vs.toArray } (.lst (ns.map V.int))
    have at1 : ∀ {b u}, upd (fun _ => none) a one b = some u → b = a ∧ u = one := fun {b u} z => by
      by_cases q : b = a
      · subst q; rw [upd_same] at z; cases z; exact ⟨rfl, rfl⟩
      · rw [upd_ne q] at z; cases z
    refine lawTracked (H := upd (fun _ => none) a one) ⟨fun b => ?_, fun b z => ?_, fun _ => hk⟩ (fun b u z => ?_) (.inl (.inr ⟨_, upd_same⟩)) KX G1 G2 G3 G4 G5 hobj hr hl F bnd
    · by_cases q : b = a
      · subst q; exact .inr ⟨_, _, upd_same⟩
      · exact .inl (upd_ne q)
    · exact Classical.byContradiction fun q => z (upd_ne q)
    · obtain ⟨e1, e2⟩ := at1 z
      subst e1
      subst e2
      exact ⟨hobj, by rw [List.length_map]; exact sz, vs, _, rv, hobj⟩
/-- what k_head leaves, from law's promise -/
theorem lawWalk {l : PySem.W.OpenLaw} {k : Nat} {q : Program} {loose : List Str} {XP : (Str → Option Value) → Heap → Prop} {YP : World → Heap → Prop} {d : DefRec} {K : Params → PySem.W.Frag} {x : Str}
    (hn : l.most = some 63) (hdf : d.params.defaults = []) (hr : Room k callerA) (hY : ∀ (w : World) (h : Heap), YP w h → (K w.params).In h)
    (F : ∀ (w : World) (mg : Str → Option Value) (fa : Addr) (h : Heap), (K w.params).In h → h.Ns mainGlobals mg → mg d.name = some (.ref fa) →
      ∃ fd : FuncData, (∀ (s : Shared) (u : Value), BindsTo s fd ⟨[u], []⟩ [(x, u)]) ∧ ∀ base : Heap, (K w.params).In base → base.Ns mainGlobals mg → FnG (lawWd l.prog w (K w.params) mg base 0 []) k fa fd [x] (spLaw (K w.params))) :
    PySem.W.WalkO q loose XP YP l.row.toRowW d [] (fun f vs => PySem.call f vs) :=
  Att.attach_call hn hdf fun w _ s₁ mg mb fa _ _ _ _ a vs ns G Y _ _ _ hmg hobj hints hlen hg => by
    have KX := hY w _ Y
    obtain ⟨fd, hb, hF⟩ := F w mg fa _ KX G.T.g hmg
    exact lawCalled KX G.T.g G.T.b G.T.builtins G.T.nolimit hg hobj hints hr hlen hF hb
end DL

/-! DLU: the def that makes the pen. -/
namespace DL
open PySem L2 PySem.Spec PyProof.Rows PySem.SeqAt
theorem cut63 (xs : List V) (h : xs.length ≤ 63) : cutV xs none (some 63) = xs := by
  have e1 : HT.sIx xs.length 0 none = 0 := rfl
  have e2 : HT.sIx xs.length xs.length (some 63) = xs.length := by
    show HT.sIx xs.length xs.length (some (63 : Int)) = xs.length
    unfold HT.sIx
    simp
    omega
  unfold cutV
  rw [e1, e2]
  simp
theorem pen_ok {c : Wd} {name qual : Str} {params : Arguments} {scope : Scope} {f : Addr} {fd : FuncData} {q1 q2 q3 q4 q5 q6 q7 q8 q9 q10 : Pos} {j1 j2 j3 : Nat}
    (F : FunD c.K name qual params [.Return (some (.List [.Call (.Name "list" q1) [.Subscript (.Name "_law_script" q2) (.Slice none (some (.Constant (.int 63) j1 q3)) none q4) q5] [] q6, .Constant (.int 0) j2 q7, .Constant (.int 0) j3 q8] q9)) q10] scope [] [] f fd)
    (S : FnScope ["_law_script"] ["_law_script"] scope) (v0 : Vis scope ("_law_script" : Str)) (g0 : scope.names.lookup ("list" : Str) = some .globalImplicit) (hl : c.mg ("list" : Str) = none) : FnG c 1 f fd ["_law_script"] (spPen c.K) := by
  refine fnG_of F S (fun vs H Q E h => ?_) fun cdv A outer s H vs Q E room gd h => ?_
  · obtain ⟨a, ns, rfl, _⟩ := h; rfl
  · obtain ⟨a, ns, rfl, hS, hlen, q⟩ := h
    refine ⟨_, pss_one (ps_ret (pe_lst (pa_cons (pe_callTy (T := "list") call_list_of g0 hl (by decide +kernel) (pa_cons (pe_slice sl_list (pe_var (i := 0) rfl v0) po_none (po_some pe_int)) pa_nil)) (pa_cons pe_int (pa_cons pe_int pa_nil))))), ?_⟩
    have hz : (ns.map V.int).length ≤ 63 := by simpa using hlen
    refine ⟨_, rfl, 63, rfl, a, ns.map V.int, rfl, hS, fun l0 h0 => ?_⟩
    rw [cut63 _ hz]
    refine ⟨l0, ns.map V.int, rfl, .inl (.inl (.inl upd_same)), fun l1 h1 => ?_⟩
    refine ⟨by show 3 ≤ sizeLine; decide, fun p hp => ?_⟩
    have n10 : l1 ≠ l0 := fun z => by rw [z, upd_same] at h1; cases h1
    have npl1 : p ≠ l1 := fun z => by rw [z, upd_same] at hp; cases hp
    have npl0 : p ≠ l0 := fun z => by rw [z, upd_ne (Ne.symm n10), upd_same] at hp; cases hp
    refine q p l1 _ (fun b o e => ?_) (by rw [upd_ne npl1, upd_ne npl0] at hp; exact hp) (by rw [upd_ne n10] at h1; exact h1) npl1 (by rw [upd_ne (Ne.symm npl1), upd_same]) upd_same
    have x0 := ne_of_none e h0
    have x1 : b ≠ l1 := fun z => by subst z; rw [upd_ne n10] at h1; rw [h1] at e; cases e
    have x2 : b ≠ p := fun z => by subst z; rw [upd_ne npl1, upd_ne npl0] at hp; rw [hp] at e; cases e
    rw [upd_ne x2, upd_ne x1, upd_ne x0]
    exact e
end DL

/-! DLV: plain facts that draws need. -/
namespace DL
open PySem L2
theorem noDicL_ints : ∀ (cs : List Int) (n : Nat), noDicL (cs.map D.int) n = true
  | [], _ => rfl
  | _ :: r, n => by simp only [List.map_cons, noDicL, noDic, noDicL_ints r n, Bool.and_true]
theorem noDic_ints (cs : List Int) : noDic (.lst (cs.map D.int)) 40 = true := by simp only [noDic]; exact noDicL_ints cs 39
theorem noDic_nil : noDic (.lst []) 40 = true := rfl
theorem eqD_ints_nil (cs : List Int) : eqD (.lst (cs.map D.int)) (.lst []) = cs.isEmpty := by cases cs <;> rfl
theorem putD_lt {f : Str} {v : D} : ∀ {l : List (Str × D)} {n : Nat}, l.length < n → (putD f v l).length < n + 1
  | [], n, h => by simp only [putD, List.length_cons, List.length_nil] at h ⊢; omega
  | (g, w) :: r, n, h => by
    simp only [List.length_cons] at h
    have ih := putD_lt (f := f) (v := v) (l := r) (n := n - 1) (by omega)
    unfold putD
    split
    · simp only [List.length_cons]; omega
    · simp only [List.length_cons]; omega
/-- the cell that is begun -/
theorem atI_cell {cs : List Int} (h : cs ≠ []) (b : Nat) : ∃ i : Int, atI (cs.map D.int) ((b : Int) % ((cs.map D.int).length : Int)) = some (.int i) := by
  have hl : 0 < cs.length := List.length_pos_iff.mpr h
  have hb : b % cs.length < cs.length := Nat.mod_lt _ hl
  have e : ((b : Int) % ((cs.map D.int).length : Int)) = ((b % cs.length : Nat) : Int) := by simp
  refine ⟨cs[b % cs.length], ?_⟩
  rw [e]
  exact atI_nat (by simp [hb])
theorem len_pos {cs : List Int} (h : cs ≠ []) : (0 : Int) < ((cs.map D.int).length : Int) := by
  have hl : 0 < cs.length := List.length_pos_iff.mpr h
  simp
  omega
theorem mulb {x y X Y : Int} (h1 : 0 ≤ x) (h2 : x ≤ X) (h3 : 0 ≤ y) (h4 : y ≤ Y) : 0 ≤ x * y ∧ x * y ≤ X * Y :=
  ⟨Int.mul_nonneg h1 h3, Int.mul_le_mul h2 h4 h3 (Int.le_trans h1 h2)⟩
theorem cpow_of {x : Int} {k : Int} (h1 : 0 ≤ x) (h2 : x < 2 ^ 64) (k1 : 0 ≤ k) (k2 : k ≤ 1000000) : CPow x k := ⟨k1, k2, by omega⟩
theorem cdw_of {x m : Int} (h0 : 0 < m) (h1 : m < 1073741824) : CDivW x m := wide_div (b := 30) h0 (by omega) (by decide) (by decide)
theorem cmul_l {x y : Int} (h1 : 0 ≤ x) (h2 : x < 2 ^ 64) : CMul x y := .inl ⟨by omega, h2⟩
theorem cmul_r {x y : Int} (h1 : 0 ≤ y) (h2 : y < 2 ^ 64) : CMul x y := .inr ⟨by omega, h2⟩
theorem emb (x : Int) {p : Int} (h : 0 < p) : 0 ≤ x % p ∧ x % p < p := ⟨Int.emod_nonneg _ (by omega), Int.emod_lt_of_pos _ h⟩
end DL

namespace K23
open PySem L2 DL
def top (i : Nat) : Stmt := PySem.Challenge.pw_creditturns_k23_papers_of_plays_compared.main.body.getD i (.Pass ⟨0, 0, 0, 0⟩)
abbrev s_Arrival___init__ : Stmt := inClass (top 1) 0
abbrev s_Arrival___eq__ : Stmt := inClass (top 1) 1
abbrev s_Turn___init__ : Stmt := inClass (top 2) 0
abbrev s_Turn___eq__ : Stmt := inClass (top 2) 1
abbrev s_Sent___init__ : Stmt := inClass (top 3) 0
abbrev s_Sent___eq__ : Stmt := inClass (top 3) 1
abbrev s_law_pen : Stmt := top 5
abbrev s_law_draw : Stmt := top 6
abbrev s_law_pick : Stmt := top 7
abbrev s_law_parts : Stmt := top 8
abbrev s_law_other : Stmt := top 9
abbrev s_law_arrival_right : Stmt := top 10
abbrev s_law_turn_right : Stmt := top 11
abbrev s_law_sent_right : Stmt := top 12
abbrev s_law : Stmt := top 13
theorem boo_abs : bootBuiltins ("abs" : Str) = some (.builtin "abs") := by decide +kernel
theorem boo_int : bootBuiltins ("int" : Str) = some (.type "int") := by decide +kernel
theorem boo_isinstance : bootBuiltins ("isinstance" : Str) = some (.builtin "isinstance") := by decide +kernel
theorem boo_len : bootBuiltins ("len" : Str) = some (.builtin "len") := by decide +kernel
theorem boo_list : bootBuiltins ("list" : Str) = some (.type "list") := by decide +kernel
theorem boo_range : bootBuiltins ("range" : Str) = some (.type "range") := by decide +kernel
theorem boo_repr : bootBuiltins ("repr" : Str) = some (.builtin "repr") := by decide +kernel
theorem boo_tuple : bootBuiltins ("tuple" : Str) = some (.type "tuple") := by decide +kernel
/-- where all stands -/
structure Ad where
  f_Arrival___init__ : Addr
  f_Arrival___eq__ : Addr
  f_Turn___init__ : Addr
  f_Turn___eq__ : Addr
  f_Sent___init__ : Addr
  f_Sent___eq__ : Addr
  f_law_pen : Addr
  f_law_draw : Addr
  f_law_pick : Addr
  f_law_parts : Addr
  f_law_other : Addr
  f_law_arrival_right : Addr
  f_law_turn_right : Addr
  f_law_sent_right : Addr
  f_law : Addr
  c_Arrival : Addr
  c_Turn : Addr
  c_Sent : Addr
/-- what the top has written -/
structure Txt (c : Wd) (A : Ad) : Prop where
  no_abs : c.mg ("abs" : Str) = none
  no_int : c.mg ("int" : Str) = none
  no_isinstance : c.mg ("isinstance" : Str) = none
  no_len : c.mg ("len" : Str) = none
  no_list : c.mg ("list" : Str) = none
  no_range : c.mg ("range" : Str) = none
  no_repr : c.mg ("repr" : Str) = none
  no_tuple : c.mg ("tuple" : Str) = none
  F_Arrival___init__ : ∃ fd, Fun c.K "__init__" "Arrival.__init__" s_Arrival___init__ A.f_Arrival___init__ fd
  fi_Arrival___init__ : PySem.W.findIn c.K (.ref A.c_Arrival) "__init__" = some (some (.ref A.f_Arrival___init__))
  if_Arrival___init__ : PySem.W.isFn c.K (.ref A.f_Arrival___init__) = true
  F_Arrival___eq__ : ∃ fd, Fun c.K "__eq__" "Arrival.__eq__" s_Arrival___eq__ A.f_Arrival___eq__ fd
  fi_Arrival___eq__ : PySem.W.findIn c.K (.ref A.c_Arrival) "__eq__" = some (some (.ref A.f_Arrival___eq__))
  if_Arrival___eq__ : PySem.W.isFn c.K (.ref A.f_Arrival___eq__) = true
  F_Turn___init__ : ∃ fd, Fun c.K "__init__" "Turn.__init__" s_Turn___init__ A.f_Turn___init__ fd
  fi_Turn___init__ : PySem.W.findIn c.K (.ref A.c_Turn) "__init__" = some (some (.ref A.f_Turn___init__))
  if_Turn___init__ : PySem.W.isFn c.K (.ref A.f_Turn___init__) = true
  F_Turn___eq__ : ∃ fd, Fun c.K "__eq__" "Turn.__eq__" s_Turn___eq__ A.f_Turn___eq__ fd
  fi_Turn___eq__ : PySem.W.findIn c.K (.ref A.c_Turn) "__eq__" = some (some (.ref A.f_Turn___eq__))
  if_Turn___eq__ : PySem.W.isFn c.K (.ref A.f_Turn___eq__) = true
  F_Sent___init__ : ∃ fd, Fun c.K "__init__" "Sent.__init__" s_Sent___init__ A.f_Sent___init__ fd
  fi_Sent___init__ : PySem.W.findIn c.K (.ref A.c_Sent) "__init__" = some (some (.ref A.f_Sent___init__))
  if_Sent___init__ : PySem.W.isFn c.K (.ref A.f_Sent___init__) = true
  F_Sent___eq__ : ∃ fd, Fun c.K "__eq__" "Sent.__eq__" s_Sent___eq__ A.f_Sent___eq__ fd
  fi_Sent___eq__ : PySem.W.findIn c.K (.ref A.c_Sent) "__eq__" = some (some (.ref A.f_Sent___eq__))
  if_Sent___eq__ : PySem.W.isFn c.K (.ref A.f_Sent___eq__) = true
  F_law_pen : ∃ fd, Fun c.K "_law_pen" "_law_pen" s_law_pen A.f_law_pen fd
  mg_law_pen : c.mg ("_law_pen" : Str) = some (.ref A.f_law_pen)
  F_law_draw : ∃ fd, Fun c.K "_law_draw" "_law_draw" s_law_draw A.f_law_draw fd
  mg_law_draw : c.mg ("_law_draw" : Str) = some (.ref A.f_law_draw)
  F_law_pick : ∃ fd, Fun c.K "_law_pick" "_law_pick" s_law_pick A.f_law_pick fd
  mg_law_pick : c.mg ("_law_pick" : Str) = some (.ref A.f_law_pick)
  F_law_parts : ∃ fd, Fun c.K "_law_parts" "_law_parts" s_law_parts A.f_law_parts fd
  mg_law_parts : c.mg ("_law_parts" : Str) = some (.ref A.f_law_parts)
  F_law_other : ∃ fd, Fun c.K "_law_other" "_law_other" s_law_other A.f_law_other fd
  mg_law_other : c.mg ("_law_other" : Str) = some (.ref A.f_law_other)
  F_law_arrival_right : ∃ fd, Fun c.K "_law_arrival_right" "_law_arrival_right" s_law_arrival_right A.f_law_arrival_right fd
  mg_law_arrival_right : c.mg ("_law_arrival_right" : Str) = some (.ref A.f_law_arrival_right)
  F_law_turn_right : ∃ fd, Fun c.K "_law_turn_right" "_law_turn_right" s_law_turn_right A.f_law_turn_right fd
  mg_law_turn_right : c.mg ("_law_turn_right" : Str) = some (.ref A.f_law_turn_right)
  F_law_sent_right : ∃ fd, Fun c.K "_law_sent_right" "_law_sent_right" s_law_sent_right A.f_law_sent_right fd
  mg_law_sent_right : c.mg ("_law_sent_right" : Str) = some (.ref A.f_law_sent_right)
  F_law : ∃ fd, Fun c.K "law" "law" s_law A.f_law fd
  mg_law : c.mg ("law" : Str) = some (.ref A.f_law)
  mg_c_Arrival : c.mg ("Arrival" : Str) = some (.ref A.c_Arrival)
  mk_Arrival : Mk c.K A.c_Arrival A.f_Arrival___init__
  cl_Arrival : Cls c.K A.c_Arrival
  ci_Arrival : CI c A.c_Arrival
  ob_Arrival : PySem.W.mroIn c.K A.c_Arrival (.type "object") = some true
  ne_Arrival : PySem.W.findIn c.K (.ref A.c_Arrival) "__ne__" = some (some (.builtin "object.__ne__"))
  bt_Arrival : ∀ T, T ∈ ["NoneType", "bool", "int", "str", "list", "tuple", "dict"] → PySem.W.mroIn c.K A.c_Arrival (.type T) = some false
  na_Arrival_moment : CA c A.c_Arrival ("moment" : Str)
  na_Arrival_name : CA c A.c_Arrival ("name" : Str)
  na_Arrival_length : CA c A.c_Arrival ("length" : Str)
  kb_Arrival_NoneType : PySem.W.kitOne c.K (.type "NoneType") (.ref A.c_Arrival) = some false
  nf_Arrival_NoneType : PySem.W.notFirst c.K A.c_Arrival (.type "NoneType") = true
  kb_Arrival_bool : PySem.W.kitOne c.K (.type "bool") (.ref A.c_Arrival) = some false
  nf_Arrival_bool : PySem.W.notFirst c.K A.c_Arrival (.type "bool") = true
  kb_Arrival_int : PySem.W.kitOne c.K (.type "int") (.ref A.c_Arrival) = some false
  nf_Arrival_int : PySem.W.notFirst c.K A.c_Arrival (.type "int") = true
  kb_Arrival_str : PySem.W.kitOne c.K (.type "str") (.ref A.c_Arrival) = some false
  nf_Arrival_str : PySem.W.notFirst c.K A.c_Arrival (.type "str") = true
  kb_Arrival_list : PySem.W.kitOne c.K (.type "list") (.ref A.c_Arrival) = some false
  nf_Arrival_list : PySem.W.notFirst c.K A.c_Arrival (.type "list") = true
  kb_Arrival_tuple : PySem.W.kitOne c.K (.type "tuple") (.ref A.c_Arrival) = some false
  nf_Arrival_tuple : PySem.W.notFirst c.K A.c_Arrival (.type "tuple") = true
  kb_Arrival_dict : PySem.W.kitOne c.K (.type "dict") (.ref A.c_Arrival) = some false
  nf_Arrival_dict : PySem.W.notFirst c.K A.c_Arrival (.type "dict") = true
  kc_Arrival_Arrival : PySem.W.kitOne c.K (.ref A.c_Arrival) (.ref A.c_Arrival) = some true
  nf_Arrival_c_Arrival : PySem.W.notFirst c.K A.c_Arrival (.ref A.c_Arrival) = true
  kc_Arrival_Turn : PySem.W.kitOne c.K (.ref A.c_Turn) (.ref A.c_Arrival) = some false
  nf_Arrival_c_Turn : PySem.W.notFirst c.K A.c_Arrival (.ref A.c_Turn) = true
  kc_Arrival_Sent : PySem.W.kitOne c.K (.ref A.c_Sent) (.ref A.c_Arrival) = some false
  nf_Arrival_c_Sent : PySem.W.notFirst c.K A.c_Arrival (.ref A.c_Sent) = true
  mg_c_Turn : c.mg ("Turn" : Str) = some (.ref A.c_Turn)
  mk_Turn : Mk c.K A.c_Turn A.f_Turn___init__
  cl_Turn : Cls c.K A.c_Turn
  ci_Turn : CI c A.c_Turn
  ob_Turn : PySem.W.mroIn c.K A.c_Turn (.type "object") = some true
  ne_Turn : PySem.W.findIn c.K (.ref A.c_Turn) "__ne__" = some (some (.builtin "object.__ne__"))
  bt_Turn : ∀ T, T ∈ ["NoneType", "bool", "int", "str", "list", "tuple", "dict"] → PySem.W.mroIn c.K A.c_Turn (.type T) = some false
  na_Turn_name : CA c A.c_Turn ("name" : Str)
  na_Turn_moment : CA c A.c_Turn ("moment" : Str)
  na_Turn_credit : CA c A.c_Turn ("credit" : Str)
  na_Turn_lengths : CA c A.c_Turn ("lengths" : Str)
  na_Turn_rest : CA c A.c_Turn ("rest" : Str)
  na_Turn_is_left : CA c A.c_Turn ("is_left" : Str)
  kb_Turn_NoneType : PySem.W.kitOne c.K (.type "NoneType") (.ref A.c_Turn) = some false
  nf_Turn_NoneType : PySem.W.notFirst c.K A.c_Turn (.type "NoneType") = true
  kb_Turn_bool : PySem.W.kitOne c.K (.type "bool") (.ref A.c_Turn) = some false
  nf_Turn_bool : PySem.W.notFirst c.K A.c_Turn (.type "bool") = true
  kb_Turn_int : PySem.W.kitOne c.K (.type "int") (.ref A.c_Turn) = some false
  nf_Turn_int : PySem.W.notFirst c.K A.c_Turn (.type "int") = true
  kb_Turn_str : PySem.W.kitOne c.K (.type "str") (.ref A.c_Turn) = some false
  nf_Turn_str : PySem.W.notFirst c.K A.c_Turn (.type "str") = true
  kb_Turn_list : PySem.W.kitOne c.K (.type "list") (.ref A.c_Turn) = some false
  nf_Turn_list : PySem.W.notFirst c.K A.c_Turn (.type "list") = true
  kb_Turn_tuple : PySem.W.kitOne c.K (.type "tuple") (.ref A.c_Turn) = some false
  nf_Turn_tuple : PySem.W.notFirst c.K A.c_Turn (.type "tuple") = true
  kb_Turn_dict : PySem.W.kitOne c.K (.type "dict") (.ref A.c_Turn) = some false
  nf_Turn_dict : PySem.W.notFirst c.K A.c_Turn (.type "dict") = true
  kc_Turn_Arrival : PySem.W.kitOne c.K (.ref A.c_Arrival) (.ref A.c_Turn) = some false
  nf_Turn_c_Arrival : PySem.W.notFirst c.K A.c_Turn (.ref A.c_Arrival) = true
  kc_Turn_Turn : PySem.W.kitOne c.K (.ref A.c_Turn) (.ref A.c_Turn) = some true
  nf_Turn_c_Turn : PySem.W.notFirst c.K A.c_Turn (.ref A.c_Turn) = true
  kc_Turn_Sent : PySem.W.kitOne c.K (.ref A.c_Sent) (.ref A.c_Turn) = some false
  nf_Turn_c_Sent : PySem.W.notFirst c.K A.c_Turn (.ref A.c_Sent) = true
  mg_c_Sent : c.mg ("Sent" : Str) = some (.ref A.c_Sent)
  mk_Sent : Mk c.K A.c_Sent A.f_Sent___init__
  cl_Sent : Cls c.K A.c_Sent
  ci_Sent : CI c A.c_Sent
  ob_Sent : PySem.W.mroIn c.K A.c_Sent (.type "object") = some true
  ne_Sent : PySem.W.findIn c.K (.ref A.c_Sent) "__ne__" = some (some (.builtin "object.__ne__"))
  bt_Sent : ∀ T, T ∈ ["NoneType", "bool", "int", "str", "list", "tuple", "dict"] → PySem.W.mroIn c.K A.c_Sent (.type T) = some false
  na_Sent_name : CA c A.c_Sent ("name" : Str)
  na_Sent_number : CA c A.c_Sent ("number" : Str)
  na_Sent_length : CA c A.c_Sent ("length" : Str)
  na_Sent_came : CA c A.c_Sent ("came" : Str)
  na_Sent_ended : CA c A.c_Sent ("ended" : Str)
  na_Sent_turn : CA c A.c_Sent ("turn" : Str)
  na_Sent_bits : CA c A.c_Sent ("bits" : Str)
  kb_Sent_NoneType : PySem.W.kitOne c.K (.type "NoneType") (.ref A.c_Sent) = some false
  nf_Sent_NoneType : PySem.W.notFirst c.K A.c_Sent (.type "NoneType") = true
  kb_Sent_bool : PySem.W.kitOne c.K (.type "bool") (.ref A.c_Sent) = some false
  nf_Sent_bool : PySem.W.notFirst c.K A.c_Sent (.type "bool") = true
  kb_Sent_int : PySem.W.kitOne c.K (.type "int") (.ref A.c_Sent) = some false
  nf_Sent_int : PySem.W.notFirst c.K A.c_Sent (.type "int") = true
  kb_Sent_str : PySem.W.kitOne c.K (.type "str") (.ref A.c_Sent) = some false
  nf_Sent_str : PySem.W.notFirst c.K A.c_Sent (.type "str") = true
  kb_Sent_list : PySem.W.kitOne c.K (.type "list") (.ref A.c_Sent) = some false
  nf_Sent_list : PySem.W.notFirst c.K A.c_Sent (.type "list") = true
  kb_Sent_tuple : PySem.W.kitOne c.K (.type "tuple") (.ref A.c_Sent) = some false
  nf_Sent_tuple : PySem.W.notFirst c.K A.c_Sent (.type "tuple") = true
  kb_Sent_dict : PySem.W.kitOne c.K (.type "dict") (.ref A.c_Sent) = some false
  nf_Sent_dict : PySem.W.notFirst c.K A.c_Sent (.type "dict") = true
  kc_Sent_Arrival : PySem.W.kitOne c.K (.ref A.c_Arrival) (.ref A.c_Sent) = some false
  nf_Sent_c_Arrival : PySem.W.notFirst c.K A.c_Sent (.ref A.c_Arrival) = true
  kc_Sent_Turn : PySem.W.kitOne c.K (.ref A.c_Turn) (.ref A.c_Sent) = some false
  nf_Sent_c_Turn : PySem.W.notFirst c.K A.c_Sent (.ref A.c_Turn) = true
  kc_Sent_Sent : PySem.W.kitOne c.K (.ref A.c_Sent) (.ref A.c_Sent) = some true
  nf_Sent_c_Sent : PySem.W.notFirst c.K A.c_Sent (.ref A.c_Sent) = true
/-! Arrival.__init__ -/
def N_Arrival___init__ : List Str := [("self" : Str), ("moment" : Str), ("name" : Str), ("length" : Str)]
theorem sc_Arrival___init__ : FnScope N_Arrival___init__ [("self" : Str), ("moment" : Str), ("name" : Str), ("length" : Str)] (defScope s_Arrival___init__) := ⟨rfl, rfl, rfl, by decide +kernel, rfl, by decide +kernel, by decide +kernel⟩
def u_Arrival___init___2 (c : Wd) (A : Ad) : DTS := dSelfSet c 0 ("length" : Str) (dVar 3)
def u_Arrival___init___1 (c : Wd) (A : Ad) : DTS := dSeq (dSelfSet c 0 ("name" : Str) (dVar 2)) (u_Arrival___init___2 c A)
def t_Arrival___init__ (c : Wd) (A : Ad) : DTS := dSeq (dSelfSet c 0 ("moment" : Str) (dVar 1)) (u_Arrival___init___1 c A)
theorem dd_Arrival___init__ {c : Wd} {A : Ad} (T : Txt c A) (X : Cx) (cf : Fr) (W : WX) (ec : cf.toWd = c) (B : XB X cf W N_Arrival___init__ (defScope s_Arrival___init__) 0 false) : DSs X cf W (defBody s_Arrival___init__) (t_Arrival___init__ c A) := by
  subst ec
  exact (dss_cons (ds_self B rfl (.inl rfl) (dv B (i := 1))) (dss_cons (ds_self B rfl (.inl rfl) (dv B (i := 2))) (dss_one (ds_self B rfl (.inl rfl) (dv B (i := 3))))))
def si_Arrival___init__ (c : Wd) (A : Ad) : DInit := fun ds n P R => ds.length = 3 ∧ t_Arrival___init__ c A (inN A.c_Arrival P R) (startI A.c_Arrival N_Arrival___init__ ds n)
theorem ok_Arrival___init__ {c : Wd} {A : Ad} (T : Txt c A) : ∃ fd, Fun c.K "__init__" "Arrival.__init__" s_Arrival___init__ A.f_Arrival___init__ fd ∧ FnG c 1 A.f_Arrival___init__ fd [("self" : Str), ("moment" : Str), ("name" : Str), ("length" : Str)] (liftInit c A.c_Arrival (si_Arrival___init__ c A)) := by
  obtain ⟨fd, F⟩ := T.F_Arrival___init__
  exact ⟨fd, F, init_ok (fun_d F) sc_Arrival___init__ (by decide) (fun _ _ _ _ h => by rw [h.1]; rfl) (dd_Arrival___init__ T) (fun _ _ _ _ h => h.2)⟩
abbrev o_Arrival (A : Ad) (x0 x1 x2 : D) : D := .ins A.c_Arrival [(("moment" : Str), x0), (("name" : Str), x1), (("length" : Str), x2)]
theorem mk_Arrival {c : Wd} {A : Ad} (T : Txt c A) {x0 x1 x2 : D} {n : Nat} {P : D → Nat → Prop} {R : Er → Nat → Prop} (h : P (o_Arrival A x0 x1 x2) n) : si_Arrival___init__ c A [x0, x1, x2] n (fun fs m => P (.ins A.c_Arrival fs) m) R := by
  refine ⟨rfl, ?_⟩
  show t_Arrival___init__ c A _ ⟨.self A.c_Arrival [] :: [.d x0, .d x1, .d x2], n⟩
  unfold t_Arrival___init__
  rw [dSeq]
  simp only [dSelfSet, dVar, List.getElem?_cons_zero, List.getElem?_cons_succ, List.set_cons_zero]
  refine ⟨T.na_Arrival_moment, (by decide), ?_⟩
  unfold u_Arrival___init___1
  rw [dSeq]
  simp only [dSelfSet, dVar, List.getElem?_cons_zero, List.getElem?_cons_succ, List.set_cons_zero]
  refine ⟨T.na_Arrival_name, (putD_lt (by decide)), ?_⟩
  unfold u_Arrival___init___2
  simp only [dSelfSet, dVar, List.getElem?_cons_zero, List.getElem?_cons_succ, List.set_cons_zero]
  refine ⟨T.na_Arrival_length, (putD_lt (putD_lt (by decide))), ?_⟩
  exact ⟨rfl, h⟩
theorem lk_Arrival_moment {x0 x1 x2 : D} : List.lookup ("moment" : Str) [(("moment" : Str), x0), (("name" : Str), x1), (("length" : Str), x2)] = some x0 := rfl
theorem lk_Arrival_name {x0 x1 x2 : D} : List.lookup ("name" : Str) [(("moment" : Str), x0), (("name" : Str), x1), (("length" : Str), x2)] = some x1 := rfl
theorem lk_Arrival_length {x0 x1 x2 : D} : List.lookup ("length" : Str) [(("moment" : Str), x0), (("name" : Str), x1), (("length" : Str), x2)] = some x2 := rfl
/-! Arrival.__eq__ -/
def N_Arrival___eq__ : List Str := [("self" : Str), ("other" : Str)]
theorem sc_Arrival___eq__ : FnScope N_Arrival___eq__ [("self" : Str), ("other" : Str)] (defScope s_Arrival___eq__) := ⟨rfl, rfl, rfl, by decide +kernel, rfl, by decide +kernel, by decide +kernel⟩
def u_Arrival___eq___1 (c : Wd) (A : Ad) : DTS := dRet (dBin oEq (dTup (dCons (dFld c ("moment" : Str) (dVar 0)) (dCons (dFld c ("name" : Str) (dVar 0)) (dCons (dFld c ("length" : Str) (dVar 0)) (dNil))))) (dTup (dCons (dFld c ("moment" : Str) (dVar 1)) (dCons (dFld c ("name" : Str) (dVar 1)) (dCons (dFld c ("length" : Str) (dVar 1)) (dNil))))))
def t_Arrival___eq__ (c : Wd) (A : Ad) : DTS := dSeq (dIte (dNot (dTB (dBu (oIsi c) (dCons (dVar 1) (dCons (dC (.ref A.c_Arrival)) (dNil)))))) (dRet (dC (.bl false))) (dNext)) (u_Arrival___eq___1 c A)
theorem dd_Arrival___eq__ {c : Wd} {A : Ad} (T : Txt c A) (X : Cx) (cf : Fr) (W : WX) (ec : cf.toWd = c) (B : XB X cf W N_Arrival___eq__ (defScope s_Arrival___eq__) 0 false) : DSs X cf W (defBody s_Arrival___eq__) (t_Arrival___eq__ c A) := by
  subst ec
  exact (dss_cons (ds_if (dt_not (dt_val (de_bu B T.no_isinstance boo_isinstance (b_isi B) rfl (da_cons (dv B (i := 1)) (da_cons (de_glob B (v := .ref A.c_Arrival) rfl T.mg_c_Arrival rfl (fun _ => .ref _)) da_nil))))) (dss_one (ds_ret de_bl)) dss_nil) (dss_one (ds_ret (dcp (o_eq B) (de_tup (da_cons (de_fld B (dv B (i := 0))) (da_cons (de_fld B (dv B (i := 0))) (da_cons (de_fld B (dv B (i := 0))) da_nil)))) (de_tup (da_cons (de_fld B (dv B (i := 1))) (da_cons (de_fld B (dv B (i := 1))) (da_cons (de_fld B (dv B (i := 1))) da_nil))))))))
def sp_Arrival___eq__ (c : Wd) (A : Ad) : DSp := fun ds n P R => ds.length = 2 ∧ t_Arrival___eq__ c A (fnN P R) (startS N_Arrival___eq__ ds n)
theorem ok_Arrival___eq__ {c : Wd} {A : Ad} (T : Txt c A) : ∃ fd, Fun c.K "__eq__" "Arrival.__eq__" s_Arrival___eq__ A.f_Arrival___eq__ fd ∧ FnG c 1 A.f_Arrival___eq__ fd [("self" : Str), ("other" : Str)] (liftSp c (sp_Arrival___eq__ c A)) := by
  obtain ⟨fd, F⟩ := T.F_Arrival___eq__
  exact ⟨fd, F, fn_ok (fun_d F) sc_Arrival___eq__ (fun _ _ _ _ h => h.1) (dd_Arrival___eq__ T) (fun _ _ _ _ h => h.2)⟩
theorem eq_Arrival {c : Wd} {A : Ad} (T : Txt c A) : EqC c A.c_Arrival 1 (sp_Arrival___eq__ c A) := by
  obtain ⟨fd, F, G⟩ := ok_Arrival___eq__ T
  exact ⟨⟨_, fd, _, G, shape_0 F fun _ _ _ _ _ _ us hl => match us, hl with | [_, _], _ => rfl, T.fi_Arrival___eq__, T.if_Arrival___eq__⟩, T.ne_Arrival, T.ob_Arrival, T.bt_Arrival⟩
/-! Turn.__init__ -/
def N_Turn___init__ : List Str := [("self" : Str), ("name" : Str), ("moment" : Str), ("credit" : Str), ("lengths" : Str), ("rest" : Str), ("is_left" : Str)]
theorem sc_Turn___init__ : FnScope N_Turn___init__ [("self" : Str), ("name" : Str), ("moment" : Str), ("credit" : Str), ("lengths" : Str), ("rest" : Str), ("is_left" : Str)] (defScope s_Turn___init__) := ⟨rfl, rfl, rfl, by decide +kernel, rfl, by decide +kernel, by decide +kernel⟩
def u_Turn___init___5 (c : Wd) (A : Ad) : DTS := dSelfSet c 0 ("is_left" : Str) (dVar 6)
def u_Turn___init___4 (c : Wd) (A : Ad) : DTS := dSeq (dSelfSet c 0 ("rest" : Str) (dVar 5)) (u_Turn___init___5 c A)
def u_Turn___init___3 (c : Wd) (A : Ad) : DTS := dSeq (dSelfSet c 0 ("lengths" : Str) (dVar 4)) (u_Turn___init___4 c A)
def u_Turn___init___2 (c : Wd) (A : Ad) : DTS := dSeq (dSelfSet c 0 ("credit" : Str) (dVar 3)) (u_Turn___init___3 c A)
def u_Turn___init___1 (c : Wd) (A : Ad) : DTS := dSeq (dSelfSet c 0 ("moment" : Str) (dVar 2)) (u_Turn___init___2 c A)
def t_Turn___init__ (c : Wd) (A : Ad) : DTS := dSeq (dSelfSet c 0 ("name" : Str) (dVar 1)) (u_Turn___init___1 c A)
theorem dd_Turn___init__ {c : Wd} {A : Ad} (T : Txt c A) (X : Cx) (cf : Fr) (W : WX) (ec : cf.toWd = c) (B : XB X cf W N_Turn___init__ (defScope s_Turn___init__) 0 false) : DSs X cf W (defBody s_Turn___init__) (t_Turn___init__ c A) := by
  subst ec
  exact (dss_cons (ds_self B rfl (.inl rfl) (dv B (i := 1))) (dss_cons (ds_self B rfl (.inl rfl) (dv B (i := 2))) (dss_cons (ds_self B rfl (.inl rfl) (dv B (i := 3))) (dss_cons (ds_self B rfl (.inl rfl) (dv B (i := 4))) (dss_cons (ds_self B rfl (.inl rfl) (dv B (i := 5))) (dss_one (ds_self B rfl (.inl rfl) (dv B (i := 6)))))))))
def si_Turn___init__ (c : Wd) (A : Ad) : DInit := fun ds n P R => ds.length = 6 ∧ t_Turn___init__ c A (inN A.c_Turn P R) (startI A.c_Turn N_Turn___init__ ds n)
theorem ok_Turn___init__ {c : Wd} {A : Ad} (T : Txt c A) : ∃ fd, Fun c.K "__init__" "Turn.__init__" s_Turn___init__ A.f_Turn___init__ fd ∧ FnG c 1 A.f_Turn___init__ fd [("self" : Str), ("name" : Str), ("moment" : Str), ("credit" : Str), ("lengths" : Str), ("rest" : Str), ("is_left" : Str)] (liftInit c A.c_Turn (si_Turn___init__ c A)) := by
  obtain ⟨fd, F⟩ := T.F_Turn___init__
  exact ⟨fd, F, init_ok (fun_d F) sc_Turn___init__ (by decide) (fun _ _ _ _ h => by rw [h.1]; rfl) (dd_Turn___init__ T) (fun _ _ _ _ h => h.2)⟩
abbrev o_Turn (A : Ad) (x0 x1 x2 x3 x4 x5 : D) : D := .ins A.c_Turn [(("name" : Str), x0), (("moment" : Str), x1), (("credit" : Str), x2), (("lengths" : Str), x3), (("rest" : Str), x4), (("is_left" : Str), x5)]
theorem mk_Turn {c : Wd} {A : Ad} (T : Txt c A) {x0 x1 x2 x3 x4 x5 : D} {n : Nat} {P : D → Nat → Prop} {R : Er → Nat → Prop} (h : P (o_Turn A x0 x1 x2 x3 x4 x5) n) : si_Turn___init__ c A [x0, x1, x2, x3, x4, x5] n (fun fs m => P (.ins A.c_Turn fs) m) R := by
  refine ⟨rfl, ?_⟩
  show t_Turn___init__ c A _ ⟨.self A.c_Turn [] :: [.d x0, .d x1, .d x2, .d x3, .d x4, .d x5], n⟩
  unfold t_Turn___init__
  rw [dSeq]
  simp only [dSelfSet, dVar, List.getElem?_cons_zero, List.getElem?_cons_succ, List.set_cons_zero]
  refine ⟨T.na_Turn_name, (by decide), ?_⟩
  unfold u_Turn___init___1
  rw [dSeq]
  simp only [dSelfSet, dVar, List.getElem?_cons_zero, List.getElem?_cons_succ, List.set_cons_zero]
  refine ⟨T.na_Turn_moment, (putD_lt (by decide)), ?_⟩
  unfold u_Turn___init___2
  rw [dSeq]
  simp only [dSelfSet, dVar, List.getElem?_cons_zero, List.getElem?_cons_succ, List.set_cons_zero]
  refine ⟨T.na_Turn_credit, (putD_lt (putD_lt (by decide))), ?_⟩
  unfold u_Turn___init___3
  rw [dSeq]
  simp only [dSelfSet, dVar, List.getElem?_cons_zero, List.getElem?_cons_succ, List.set_cons_zero]
  refine ⟨T.na_Turn_lengths, (putD_lt (putD_lt (putD_lt (by decide)))), ?_⟩
  unfold u_Turn___init___4
  rw [dSeq]
  simp only [dSelfSet, dVar, List.getElem?_cons_zero, List.getElem?_cons_succ, List.set_cons_zero]
  refine ⟨T.na_Turn_rest, (putD_lt (putD_lt (putD_lt (putD_lt (by decide))))), ?_⟩
  unfold u_Turn___init___5
  simp only [dSelfSet, dVar, List.getElem?_cons_zero, List.getElem?_cons_succ, List.set_cons_zero]
  refine ⟨T.na_Turn_is_left, (putD_lt (putD_lt (putD_lt (putD_lt (putD_lt (by decide)))))), ?_⟩
  exact ⟨rfl, h⟩
theorem lk_Turn_name {x0 x1 x2 x3 x4 x5 : D} : List.lookup ("name" : Str) [(("name" : Str), x0), (("moment" : Str), x1), (("credit" : Str), x2), (("lengths" : Str), x3), (("rest" : Str), x4), (("is_left" : Str), x5)] = some x0 := rfl
theorem lk_Turn_moment {x0 x1 x2 x3 x4 x5 : D} : List.lookup ("moment" : Str) [(("name" : Str), x0), (("moment" : Str), x1), (("credit" : Str), x2), (("lengths" : Str), x3), (("rest" : Str), x4), (("is_left" : Str), x5)] = some x1 := rfl
theorem lk_Turn_credit {x0 x1 x2 x3 x4 x5 : D} : List.lookup ("credit" : Str) [(("name" : Str), x0), (("moment" : Str), x1), (("credit" : Str), x2), (("lengths" : Str), x3), (("rest" : Str), x4), (("is_left" : Str), x5)] = some x2 := rfl
theorem lk_Turn_lengths {x0 x1 x2 x3 x4 x5 : D} : List.lookup ("lengths" : Str) [(("name" : Str), x0), (("moment" : Str), x1), (("credit" : Str), x2), (("lengths" : Str), x3), (("rest" : Str), x4), (("is_left" : Str), x5)] = some x3 := rfl
theorem lk_Turn_rest {x0 x1 x2 x3 x4 x5 : D} : List.lookup ("rest" : Str) [(("name" : Str), x0), (("moment" : Str), x1), (("credit" : Str), x2), (("lengths" : Str), x3), (("rest" : Str), x4), (("is_left" : Str), x5)] = some x4 := rfl
theorem lk_Turn_is_left {x0 x1 x2 x3 x4 x5 : D} : List.lookup ("is_left" : Str) [(("name" : Str), x0), (("moment" : Str), x1), (("credit" : Str), x2), (("lengths" : Str), x3), (("rest" : Str), x4), (("is_left" : Str), x5)] = some x5 := rfl
/-! Turn.__eq__ -/
def N_Turn___eq__ : List Str := [("self" : Str), ("other" : Str)]
theorem sc_Turn___eq__ : FnScope N_Turn___eq__ [("self" : Str), ("other" : Str)] (defScope s_Turn___eq__) := ⟨rfl, rfl, rfl, by decide +kernel, rfl, by decide +kernel, by decide +kernel⟩
def u_Turn___eq___2 (c : Wd) (A : Ad) : DTS := dRet (dBin oEq (dTup (dCons (dFld c ("rest" : Str) (dVar 0)) (dCons (dFld c ("is_left" : Str) (dVar 0)) (dNil)))) (dTup (dCons (dFld c ("rest" : Str) (dVar 1)) (dCons (dFld c ("is_left" : Str) (dVar 1)) (dNil)))))
def u_Turn___eq___1 (c : Wd) (A : Ad) : DTS := dSeq (dIte (dTB (dBin oNe (dTup (dCons (dFld c ("credit" : Str) (dVar 0)) (dCons (dFld c ("lengths" : Str) (dVar 0)) (dNil)))) (dTup (dCons (dFld c ("credit" : Str) (dVar 1)) (dCons (dFld c ("lengths" : Str) (dVar 1)) (dNil)))))) (dRet (dC (.bl false))) (dNext)) (u_Turn___eq___2 c A)
def t_Turn___eq__ (c : Wd) (A : Ad) : DTS := dSeq (dIte (dOr (dNot (dTB (dBu (oIsi c) (dCons (dVar 1) (dCons (dC (.ref A.c_Turn)) (dNil)))))) (dTB (dBin oNe (dTup (dCons (dFld c ("name" : Str) (dVar 0)) (dCons (dFld c ("moment" : Str) (dVar 0)) (dNil)))) (dTup (dCons (dFld c ("name" : Str) (dVar 1)) (dCons (dFld c ("moment" : Str) (dVar 1)) (dNil))))))) (dRet (dC (.bl false))) (dNext)) (u_Turn___eq___1 c A)
theorem dd_Turn___eq__ {c : Wd} {A : Ad} (T : Txt c A) (X : Cx) (cf : Fr) (W : WX) (ec : cf.toWd = c) (B : XB X cf W N_Turn___eq__ (defScope s_Turn___eq__) 0 false) : DSs X cf W (defBody s_Turn___eq__) (t_Turn___eq__ c A) := by
  subst ec
  exact (dss_cons (ds_if (dw_or (dt_not (dt_val (de_bu B T.no_isinstance boo_isinstance (b_isi B) rfl (da_cons (dv B (i := 1)) (da_cons (de_glob B (v := .ref A.c_Turn) rfl T.mg_c_Turn rfl (fun _ => .ref _)) da_nil))))) (dw_or1 (dtc (o_ne B) (de_tup (da_cons (de_fld B (dv B (i := 0))) (da_cons (de_fld B (dv B (i := 0))) da_nil))) (de_tup (da_cons (de_fld B (dv B (i := 1))) (da_cons (de_fld B (dv B (i := 1))) da_nil)))))).pt (dss_one (ds_ret de_bl)) dss_nil) (dss_cons (ds_if (dtc (o_ne B) (de_tup (da_cons (de_fld B (dv B (i := 0))) (da_cons (de_fld B (dv B (i := 0))) da_nil))) (de_tup (da_cons (de_fld B (dv B (i := 1))) (da_cons (de_fld B (dv B (i := 1))) da_nil)))) (dss_one (ds_ret de_bl)) dss_nil) (dss_one (ds_ret (dcp (o_eq B) (de_tup (da_cons (de_fld B (dv B (i := 0))) (da_cons (de_fld B (dv B (i := 0))) da_nil))) (de_tup (da_cons (de_fld B (dv B (i := 1))) (da_cons (de_fld B (dv B (i := 1))) da_nil))))))))
def sp_Turn___eq__ (c : Wd) (A : Ad) : DSp := fun ds n P R => ds.length = 2 ∧ t_Turn___eq__ c A (fnN P R) (startS N_Turn___eq__ ds n)
theorem ok_Turn___eq__ {c : Wd} {A : Ad} (T : Txt c A) : ∃ fd, Fun c.K "__eq__" "Turn.__eq__" s_Turn___eq__ A.f_Turn___eq__ fd ∧ FnG c 1 A.f_Turn___eq__ fd [("self" : Str), ("other" : Str)] (liftSp c (sp_Turn___eq__ c A)) := by
  obtain ⟨fd, F⟩ := T.F_Turn___eq__
  exact ⟨fd, F, fn_ok (fun_d F) sc_Turn___eq__ (fun _ _ _ _ h => h.1) (dd_Turn___eq__ T) (fun _ _ _ _ h => h.2)⟩
theorem eq_Turn {c : Wd} {A : Ad} (T : Txt c A) : EqC c A.c_Turn 1 (sp_Turn___eq__ c A) := by
  obtain ⟨fd, F, G⟩ := ok_Turn___eq__ T
  exact ⟨⟨_, fd, _, G, shape_0 F fun _ _ _ _ _ _ us hl => match us, hl with | [_, _], _ => rfl, T.fi_Turn___eq__, T.if_Turn___eq__⟩, T.ne_Turn, T.ob_Turn, T.bt_Turn⟩
/-! Sent.__init__ -/
def N_Sent___init__ : List Str := [("self" : Str), ("name" : Str), ("number" : Str), ("length" : Str), ("came" : Str), ("ended" : Str), ("turn" : Str), ("bits" : Str)]
theorem sc_Sent___init__ : FnScope N_Sent___init__ [("self" : Str), ("name" : Str), ("number" : Str), ("length" : Str), ("came" : Str), ("ended" : Str), ("turn" : Str), ("bits" : Str)] (defScope s_Sent___init__) := ⟨rfl, rfl, rfl, by decide +kernel, rfl, by decide +kernel, by decide +kernel⟩
def u_Sent___init___6 (c : Wd) (A : Ad) : DTS := dSelfSet c 0 ("bits" : Str) (dVar 7)
def u_Sent___init___5 (c : Wd) (A : Ad) : DTS := dSeq (dSelfSet c 0 ("turn" : Str) (dVar 6)) (u_Sent___init___6 c A)
def u_Sent___init___4 (c : Wd) (A : Ad) : DTS := dSeq (dSelfSet c 0 ("ended" : Str) (dVar 5)) (u_Sent___init___5 c A)
def u_Sent___init___3 (c : Wd) (A : Ad) : DTS := dSeq (dSelfSet c 0 ("came" : Str) (dVar 4)) (u_Sent___init___4 c A)
def u_Sent___init___2 (c : Wd) (A : Ad) : DTS := dSeq (dSelfSet c 0 ("length" : Str) (dVar 3)) (u_Sent___init___3 c A)
def u_Sent___init___1 (c : Wd) (A : Ad) : DTS := dSeq (dSelfSet c 0 ("number" : Str) (dVar 2)) (u_Sent___init___2 c A)
def t_Sent___init__ (c : Wd) (A : Ad) : DTS := dSeq (dSelfSet c 0 ("name" : Str) (dVar 1)) (u_Sent___init___1 c A)
theorem dd_Sent___init__ {c : Wd} {A : Ad} (T : Txt c A) (X : Cx) (cf : Fr) (W : WX) (ec : cf.toWd = c) (B : XB X cf W N_Sent___init__ (defScope s_Sent___init__) 0 false) : DSs X cf W (defBody s_Sent___init__) (t_Sent___init__ c A) := by
  subst ec
  exact (dss_cons (ds_self B rfl (.inl rfl) (dv B (i := 1))) (dss_cons (ds_self B rfl (.inl rfl) (dv B (i := 2))) (dss_cons (ds_self B rfl (.inl rfl) (dv B (i := 3))) (dss_cons (ds_self B rfl (.inl rfl) (dv B (i := 4))) (dss_cons (ds_self B rfl (.inl rfl) (dv B (i := 5))) (dss_cons (ds_self B rfl (.inl rfl) (dv B (i := 6))) (dss_one (ds_self B rfl (.inl rfl) (dv B (i := 7))))))))))
def si_Sent___init__ (c : Wd) (A : Ad) : DInit := fun ds n P R => ds.length = 7 ∧ t_Sent___init__ c A (inN A.c_Sent P R) (startI A.c_Sent N_Sent___init__ ds n)
theorem ok_Sent___init__ {c : Wd} {A : Ad} (T : Txt c A) : ∃ fd, Fun c.K "__init__" "Sent.__init__" s_Sent___init__ A.f_Sent___init__ fd ∧ FnG c 1 A.f_Sent___init__ fd [("self" : Str), ("name" : Str), ("number" : Str), ("length" : Str), ("came" : Str), ("ended" : Str), ("turn" : Str), ("bits" : Str)] (liftInit c A.c_Sent (si_Sent___init__ c A)) := by
  obtain ⟨fd, F⟩ := T.F_Sent___init__
  exact ⟨fd, F, init_ok (fun_d F) sc_Sent___init__ (by decide) (fun _ _ _ _ h => by rw [h.1]; rfl) (dd_Sent___init__ T) (fun _ _ _ _ h => h.2)⟩
abbrev o_Sent (A : Ad) (x0 x1 x2 x3 x4 x5 x6 : D) : D := .ins A.c_Sent [(("name" : Str), x0), (("number" : Str), x1), (("length" : Str), x2), (("came" : Str), x3), (("ended" : Str), x4), (("turn" : Str), x5), (("bits" : Str), x6)]
theorem mk_Sent {c : Wd} {A : Ad} (T : Txt c A) {x0 x1 x2 x3 x4 x5 x6 : D} {n : Nat} {P : D → Nat → Prop} {R : Er → Nat → Prop} (h : P (o_Sent A x0 x1 x2 x3 x4 x5 x6) n) : si_Sent___init__ c A [x0, x1, x2, x3, x4, x5, x6] n (fun fs m => P (.ins A.c_Sent fs) m) R := by
  refine ⟨rfl, ?_⟩
  show t_Sent___init__ c A _ ⟨.self A.c_Sent [] :: [.d x0, .d x1, .d x2, .d x3, .d x4, .d x5, .d x6], n⟩
  unfold t_Sent___init__
  rw [dSeq]
  simp only [dSelfSet, dVar, List.getElem?_cons_zero, List.getElem?_cons_succ, List.set_cons_zero]
  refine ⟨T.na_Sent_name, (by decide), ?_⟩
  unfold u_Sent___init___1
  rw [dSeq]
  simp only [dSelfSet, dVar, List.getElem?_cons_zero, List.getElem?_cons_succ, List.set_cons_zero]
  refine ⟨T.na_Sent_number, (putD_lt (by decide)), ?_⟩
  unfold u_Sent___init___2
  rw [dSeq]
  simp only [dSelfSet, dVar, List.getElem?_cons_zero, List.getElem?_cons_succ, List.set_cons_zero]
  refine ⟨T.na_Sent_length, (putD_lt (putD_lt (by decide))), ?_⟩
  unfold u_Sent___init___3
  rw [dSeq]
  simp only [dSelfSet, dVar, List.getElem?_cons_zero, List.getElem?_cons_succ, List.set_cons_zero]
  refine ⟨T.na_Sent_came, (putD_lt (putD_lt (putD_lt (by decide)))), ?_⟩
  unfold u_Sent___init___4
  rw [dSeq]
  simp only [dSelfSet, dVar, List.getElem?_cons_zero, List.getElem?_cons_succ, List.set_cons_zero]
  refine ⟨T.na_Sent_ended, (putD_lt (putD_lt (putD_lt (putD_lt (by decide))))), ?_⟩
  unfold u_Sent___init___5
  rw [dSeq]
  simp only [dSelfSet, dVar, List.getElem?_cons_zero, List.getElem?_cons_succ, List.set_cons_zero]
  refine ⟨T.na_Sent_turn, (putD_lt (putD_lt (putD_lt (putD_lt (putD_lt (by decide)))))), ?_⟩
  unfold u_Sent___init___6
  simp only [dSelfSet, dVar, List.getElem?_cons_zero, List.getElem?_cons_succ, List.set_cons_zero]
  refine ⟨T.na_Sent_bits, (putD_lt (putD_lt (putD_lt (putD_lt (putD_lt (putD_lt (by decide))))))), ?_⟩
  exact ⟨rfl, h⟩
theorem lk_Sent_name {x0 x1 x2 x3 x4 x5 x6 : D} : List.lookup ("name" : Str) [(("name" : Str), x0), (("number" : Str), x1), (("length" : Str), x2), (("came" : Str), x3), (("ended" : Str), x4), (("turn" : Str), x5), (("bits" : Str), x6)] = some x0 := rfl
theorem lk_Sent_number {x0 x1 x2 x3 x4 x5 x6 : D} : List.lookup ("number" : Str) [(("name" : Str), x0), (("number" : Str), x1), (("length" : Str), x2), (("came" : Str), x3), (("ended" : Str), x4), (("turn" : Str), x5), (("bits" : Str), x6)] = some x1 := rfl
theorem lk_Sent_length {x0 x1 x2 x3 x4 x5 x6 : D} : List.lookup ("length" : Str) [(("name" : Str), x0), (("number" : Str), x1), (("length" : Str), x2), (("came" : Str), x3), (("ended" : Str), x4), (("turn" : Str), x5), (("bits" : Str), x6)] = some x2 := rfl
theorem lk_Sent_came {x0 x1 x2 x3 x4 x5 x6 : D} : List.lookup ("came" : Str) [(("name" : Str), x0), (("number" : Str), x1), (("length" : Str), x2), (("came" : Str), x3), (("ended" : Str), x4), (("turn" : Str), x5), (("bits" : Str), x6)] = some x3 := rfl
theorem lk_Sent_ended {x0 x1 x2 x3 x4 x5 x6 : D} : List.lookup ("ended" : Str) [(("name" : Str), x0), (("number" : Str), x1), (("length" : Str), x2), (("came" : Str), x3), (("ended" : Str), x4), (("turn" : Str), x5), (("bits" : Str), x6)] = some x4 := rfl
theorem lk_Sent_turn {x0 x1 x2 x3 x4 x5 x6 : D} : List.lookup ("turn" : Str) [(("name" : Str), x0), (("number" : Str), x1), (("length" : Str), x2), (("came" : Str), x3), (("ended" : Str), x4), (("turn" : Str), x5), (("bits" : Str), x6)] = some x5 := rfl
theorem lk_Sent_bits {x0 x1 x2 x3 x4 x5 x6 : D} : List.lookup ("bits" : Str) [(("name" : Str), x0), (("number" : Str), x1), (("length" : Str), x2), (("came" : Str), x3), (("ended" : Str), x4), (("turn" : Str), x5), (("bits" : Str), x6)] = some x6 := rfl
/-! Sent.__eq__ -/
def N_Sent___eq__ : List Str := [("self" : Str), ("other" : Str)]
theorem sc_Sent___eq__ : FnScope N_Sent___eq__ [("self" : Str), ("other" : Str)] (defScope s_Sent___eq__) := ⟨rfl, rfl, rfl, by decide +kernel, rfl, by decide +kernel, by decide +kernel⟩
def u_Sent___eq___2 (c : Wd) (A : Ad) : DTS := dRet (dBin oEq (dTup (dCons (dFld c ("turn" : Str) (dVar 0)) (dCons (dFld c ("bits" : Str) (dVar 0)) (dNil)))) (dTup (dCons (dFld c ("turn" : Str) (dVar 1)) (dCons (dFld c ("bits" : Str) (dVar 1)) (dNil)))))
def u_Sent___eq___1 (c : Wd) (A : Ad) : DTS := dSeq (dIte (dTB (dBin oNe (dTup (dCons (dFld c ("length" : Str) (dVar 0)) (dCons (dFld c ("came" : Str) (dVar 0)) (dCons (dFld c ("ended" : Str) (dVar 0)) (dNil))))) (dTup (dCons (dFld c ("length" : Str) (dVar 1)) (dCons (dFld c ("came" : Str) (dVar 1)) (dCons (dFld c ("ended" : Str) (dVar 1)) (dNil))))))) (dRet (dC (.bl false))) (dNext)) (u_Sent___eq___2 c A)
def t_Sent___eq__ (c : Wd) (A : Ad) : DTS := dSeq (dIte (dOr (dNot (dTB (dBu (oIsi c) (dCons (dVar 1) (dCons (dC (.ref A.c_Sent)) (dNil)))))) (dTB (dBin oNe (dTup (dCons (dFld c ("name" : Str) (dVar 0)) (dCons (dFld c ("number" : Str) (dVar 0)) (dNil)))) (dTup (dCons (dFld c ("name" : Str) (dVar 1)) (dCons (dFld c ("number" : Str) (dVar 1)) (dNil))))))) (dRet (dC (.bl false))) (dNext)) (u_Sent___eq___1 c A)
theorem dd_Sent___eq__ {c : Wd} {A : Ad} (T : Txt c A) (X : Cx) (cf : Fr) (W : WX) (ec : cf.toWd = c) (B : XB X cf W N_Sent___eq__ (defScope s_Sent___eq__) 0 false) : DSs X cf W (defBody s_Sent___eq__) (t_Sent___eq__ c A) := by
  subst ec
  exact (dss_cons (ds_if (dw_or (dt_not (dt_val (de_bu B T.no_isinstance boo_isinstance (b_isi B) rfl (da_cons (dv B (i := 1)) (da_cons (de_glob B (v := .ref A.c_Sent) rfl T.mg_c_Sent rfl (fun _ => .ref _)) da_nil))))) (dw_or1 (dtc (o_ne B) (de_tup (da_cons (de_fld B (dv B (i := 0))) (da_cons (de_fld B (dv B (i := 0))) da_nil))) (de_tup (da_cons (de_fld B (dv B (i := 1))) (da_cons (de_fld B (dv B (i := 1))) da_nil)))))).pt (dss_one (ds_ret de_bl)) dss_nil) (dss_cons (ds_if (dtc (o_ne B) (de_tup (da_cons (de_fld B (dv B (i := 0))) (da_cons (de_fld B (dv B (i := 0))) (da_cons (de_fld B (dv B (i := 0))) da_nil)))) (de_tup (da_cons (de_fld B (dv B (i := 1))) (da_cons (de_fld B (dv B (i := 1))) (da_cons (de_fld B (dv B (i := 1))) da_nil))))) (dss_one (ds_ret de_bl)) dss_nil) (dss_one (ds_ret (dcp (o_eq B) (de_tup (da_cons (de_fld B (dv B (i := 0))) (da_cons (de_fld B (dv B (i := 0))) da_nil))) (de_tup (da_cons (de_fld B (dv B (i := 1))) (da_cons (de_fld B (dv B (i := 1))) da_nil))))))))
def sp_Sent___eq__ (c : Wd) (A : Ad) : DSp := fun ds n P R => ds.length = 2 ∧ t_Sent___eq__ c A (fnN P R) (startS N_Sent___eq__ ds n)
theorem ok_Sent___eq__ {c : Wd} {A : Ad} (T : Txt c A) : ∃ fd, Fun c.K "__eq__" "Sent.__eq__" s_Sent___eq__ A.f_Sent___eq__ fd ∧ FnG c 1 A.f_Sent___eq__ fd [("self" : Str), ("other" : Str)] (liftSp c (sp_Sent___eq__ c A)) := by
  obtain ⟨fd, F⟩ := T.F_Sent___eq__
  exact ⟨fd, F, fn_ok (fun_d F) sc_Sent___eq__ (fun _ _ _ _ h => h.1) (dd_Sent___eq__ T) (fun _ _ _ _ h => h.2)⟩
theorem eq_Sent {c : Wd} {A : Ad} (T : Txt c A) : EqC c A.c_Sent 1 (sp_Sent___eq__ c A) := by
  obtain ⟨fd, F, G⟩ := ok_Sent___eq__ T
  exact ⟨⟨_, fd, _, G, shape_0 F fun _ _ _ _ _ _ us hl => match us, hl with | [_, _], _ => rfl, T.fi_Sent___eq__, T.if_Sent___eq__⟩, T.ne_Sent, T.ob_Sent, T.bt_Sent⟩
/-! _law_draw -/
def N_law_draw : List Str := [("_law_pen_here" : Str), ("_law_many" : Str), ("_law_digit" : Str), ("_law_at" : Str), ("_law_cell" : Str), ("_law_great" : Str), ("_law_mixed" : Str)]
theorem sc_law_draw : FnScope N_law_draw [("_law_pen_here" : Str), ("_law_many" : Str)] (defScope s_law_draw) := ⟨rfl, rfl, rfl, by decide +kernel, rfl, by decide +kernel, by decide +kernel⟩
def u_law_draw_8 (c : Wd) (A : Ad) : DTS := dRet (dBin (oI (fun _ j => 0 < j) fun i j => .int (i % j)) (dBu oInt (dCons (dBin (oI CDivW fun i j => .int (i / j)) (dVar 6) (dC (.int 32))) (dNil))) (dVar 1))
def u_law_draw_7 (c : Wd) (A : Ad) : DTS := dSeq (dSet 6 (dBin (oI (fun _ j => 0 < j) fun i j => .int (i % j)) (dBu oInt (dCons (dBin (oI CPow fun i j => .int (i ^ j.toNat)) (dBin oAdd (dBin oAdd (dBin (oI CMul fun i j => .int (i * j)) (dVar 6) (dBin oAdd (dBin (oI CMul fun i j => .int (i * j)) (dC (.int 2)) (dVar 3)) (dC (.int 339)))) (dBin (oI CMul fun i j => .int (i * j)) (dBin (oI CMul fun i j => .int (i * j)) (dC (.int 47459)) (dVar 3)) (dVar 3))) (dC (.int 131))) (dC (.int 3))) (dNil))) (dC (.int 2147483587)))) (u_law_draw_8 c A)
def u_law_draw_6 (c : Wd) (A : Ad) : DTS := dSeq (dSet 6 (dBin (oI (fun _ j => 0 < j) fun i j => .int (i % j)) (dBu oInt (dCons (dBin (oI CPow fun i j => .int (i ^ j.toNat)) (dBin oAdd (dBin oAdd (dBin (oI (fun _ j => 0 < j) fun i j => .int (i % j)) (dBu oInt (dCons (dVar 4) (dNil))) (dC (.int 2147483549))) (dBin (oI CMul fun i j => .int (i * j)) (dC (.int 52361)) (dVar 3))) (dC (.int 613))) (dC (.int 5))) (dNil))) (dC (.int 2147483629)))) (u_law_draw_7 c A)
def u_law_draw_5 (c : Wd) (A : Ad) : DTS := dSeq (dIte (dAnd (dTB (dBin (oI (fun _ _ => True) fun i j => .bl (decide (i < j))) (dVar 3) (dBu oLen (dCons (dPen c 0 0) (dNil))))) (dTB (dBin (oI (fun _ _ => True) fun i j => .bl (decide (j ≤ i))) (dBu oAbs (dCons (dVar 4) (dNil))) (dBin (oI CPow fun i j => .int (i ^ j.toNat)) (dC (.int 10)) (dC (.int 18)))))) (dSeq (dSet 5 (dBin oAdd (dBin (oI CMul fun i j => .int (i * j)) (dC (.int 2)) (dBin (oI (fun _ _ => True) fun i j => .int (i - j)) (dBu oAbs (dCons (dVar 4) (dNil))) (dBin (oI CPow fun i j => .int (i ^ j.toNat)) (dC (.int 10)) (dC (.int 18))))) (dBu oInt (dCons (dBin (oI (fun _ _ => True) fun i j => .bl (decide (i < j))) (dVar 4) (dC (.int 0))) (dNil))))) (dSeq (dAsg (dBin (oI CDivW fun i j => .int (i / j)) (dBu oInt (dCons (dVar 5) (dNil))) (dVar 1)) (gPen 0 2)) (dRet (dBin (oI (fun _ j => 0 < j) fun i j => .int (i % j)) (dBu oInt (dCons (dVar 5) (dNil))) (dVar 1))))) (dNext)) (u_law_draw_6 c A)
def u_law_draw_4 (c : Wd) (A : Ad) : DTS := dSeq (dIte (dTB (dBin oNe (dPen c 0 0) (dLst (dNil)))) (dSet 4 (dIx (dPen c 0 0) (dBin (oI (fun _ j => 0 < j) fun i j => .int (i % j)) (dBu oInt (dCons (dVar 3) (dNil))) (dBu oLen (dCons (dPen c 0 0) (dNil)))))) (dNext)) (u_law_draw_5 c A)
def u_law_draw_3 (c : Wd) (A : Ad) : DTS := dSeq (dSet 4 (dBin oAdd (dBin (oI CMul fun i j => .int (i * j)) (dC (.int 39119)) (dVar 3)) (dC (.int 823)))) (u_law_draw_4 c A)
def u_law_draw_2 (c : Wd) (A : Ad) : DTS := dSeq (dAsg (dBin oAdd (dVar 3) (dC (.int 1))) (gPen 0 1)) (u_law_draw_3 c A)
def u_law_draw_1 (c : Wd) (A : Ad) : DTS := dSeq (dSet 3 (dPen c 0 1)) (u_law_draw_2 c A)
def t_law_draw (c : Wd) (A : Ad) : DTS := dSeq (dIte (dTB (dBin (oI (fun _ _ => True) fun i j => .bl (decide (j < i))) (dPen c 0 2) (dC (.int 0)))) (dSeq (dSet 2 (dBin (oI (fun _ j => 0 < j) fun i j => .int (i % j)) (dBu oInt (dCons (dPen c 0 2) (dNil))) (dVar 1))) (dSeq (dAsg (dBin (oI CDivW fun i j => .int (i / j)) (dBu oInt (dCons (dPen c 0 2) (dNil))) (dVar 1)) (gPen 0 2)) (dRet (dVar 2)))) (dNext)) (u_law_draw_1 c A)
theorem dd_law_draw {c : Wd} {A : Ad} (T : Txt c A) (X : Cx) (cf : Fr) (W : WX) (ec : cf.toWd = c) (B : XB X cf W N_law_draw (defScope s_law_draw) 0 false) : DSs X cf W (defBody s_law_draw) (t_law_draw c A) := by
  subst ec
  exact (dss_cons (ds_if (dtc o_gt (de_pen B (i := 0) rfl (.inl rfl)) de_int) (dss_cons (dset B (i := 2) (de_bin o_mod (de_ty B T.no_int boo_int (b_int) rfl (da_cons (de_pen B (i := 0) rfl (.inl rfl)) da_nil)) (dv B (i := 1)))) (dss_cons (ds_asg (de_bin o_fdivW (de_ty B T.no_int boo_int (b_int) rfl (da_cons (de_pen B (i := 0) rfl (.inl rfl)) da_nil)) (dv B (i := 1))) (dg_pen B (i := 0) rfl (.inl rfl))) (dss_one (ds_ret (dv B (i := 2)))))) dss_nil) (dss_cons (dset B (i := 3) (de_pen B (i := 0) rfl (.inl rfl))) (dss_cons (ds_asg (de_bin (o_add B.hK) (dv B (i := 3)) de_int) (dg_pen B (i := 0) rfl (.inl rfl))) (dss_cons (dset B (i := 4) (de_bin (o_add B.hK) (de_bin o_mul de_int (dv B (i := 3))) de_int)) (dss_cons (ds_if (dtc (o_ne B) (de_pen B (i := 0) rfl (.inl rfl)) (de_lst da_nil)) (dss_one (dset B (i := 4) (de_ix B (de_pen B (i := 0) rfl (.inl rfl)) (de_bin o_mod (de_ty B T.no_int boo_int (b_int) rfl (da_cons (dv B (i := 3)) da_nil)) (de_bu B T.no_len boo_len (b_len B) rfl (da_cons (de_pen B (i := 0) rfl (.inl rfl)) da_nil)))))) dss_nil) (dss_cons (ds_if (dw_and (dtc o_lt (dv B (i := 3)) (de_bu B T.no_len boo_len (b_len B) rfl (da_cons (de_pen B (i := 0) rfl (.inl rfl)) da_nil))) (dw_and1 (dtc o_ge (de_bu B T.no_abs boo_abs (b_abs) rfl (da_cons (dv B (i := 4)) da_nil)) (de_bin o_pow de_int de_int)))).pt (dss_cons (dset B (i := 5) (de_bin (o_add B.hK) (de_bin o_mul de_int (de_bin o_sub (de_bu B T.no_abs boo_abs (b_abs) rfl (da_cons (dv B (i := 4)) da_nil)) (de_bin o_pow de_int de_int))) (de_ty B T.no_int boo_int (b_int) rfl (da_cons (dcp o_lt (dv B (i := 4)) de_int) da_nil)))) (dss_cons (ds_asg (de_bin o_fdivW (de_ty B T.no_int boo_int (b_int) rfl (da_cons (dv B (i := 5)) da_nil)) (dv B (i := 1))) (dg_pen B (i := 0) rfl (.inl rfl))) (dss_one (ds_ret (de_bin o_mod (de_ty B T.no_int boo_int (b_int) rfl (da_cons (dv B (i := 5)) da_nil)) (dv B (i := 1))))))) dss_nil) (dss_cons (dset B (i := 6) (de_bin o_mod (de_ty B T.no_int boo_int (b_int) rfl (da_cons (de_bin o_pow (de_bin (o_add B.hK) (de_bin (o_add B.hK) (de_bin o_mod (de_ty B T.no_int boo_int (b_int) rfl (da_cons (dv B (i := 4)) da_nil)) de_int) (de_bin o_mul de_int (dv B (i := 3)))) de_int) de_int) da_nil)) de_int)) (dss_cons (dset B (i := 6) (de_bin o_mod (de_ty B T.no_int boo_int (b_int) rfl (da_cons (de_bin o_pow (de_bin (o_add B.hK) (de_bin (o_add B.hK) (de_bin o_mul (dv B (i := 6)) (de_bin (o_add B.hK) (de_bin o_mul de_int (dv B (i := 3))) de_int)) (de_bin o_mul (de_bin o_mul de_int (dv B (i := 3))) (dv B (i := 3)))) de_int) de_int) da_nil)) de_int)) (dss_one (ds_ret (de_bin o_mod (de_ty B T.no_int boo_int (b_int) rfl (da_cons (de_bin o_fdivW (dv B (i := 6)) de_int) da_nil)) (dv B (i := 1)))))))))))))
theorem len_law_draw : ∀ ds n P R, sDraw ds n P R → ds.length = 2 := by
  rintro ds n P R ⟨m, rfl, _⟩; rfl
theorem draw_tail {c : Wd} {A : Ad} {n b : Nat} {m : Int} {P : D → Nat → Prop} {R : Er → Nat → Prop} (h0 : 0 < m) (h1 : m < 1073741824) (hb : b ≤ 1000000) (hp : ∀ (z : Int), 0 ≤ z → z < m → P (.int z) n) (i : Int) :
    u_law_draw_5 c A (fnN P R) ⟨[.d .pen, .d (.int m), .un, .d (.int b), .d (.int i), .un, .un], n⟩ := by
  have hm : (b : Int) ≤ 1000000 := by omega
  have hm0 : (0 : Int) ≤ b := by omega
  have fin : ∀ x : Int, P (.int (x % m)) n := fun x => hp _ (emb x h0).1 (emb x h0).2
  have last : u_law_draw_6 c A (fnN P R) ⟨[.d .pen, .d (.int m), .un, .d (.int b), .d (.int i), .un, .un], n⟩ := by
    unfold u_law_draw_6
    rw [dSeq]
    simp only [dIte, dTB, dBin, dBinF, dPen, isPen, dC, dVar, dNil, dCons, dSet, dAsg, dRet, dNext, dAnd, dOr, dNot, dAndV, dOrV, dNotV, dBu, oLen, oInt, oAbs, oI, oAdd, oIx, dIx, dNeg, gPen, gN, gC, gT, gZ, dLst, dTup, dPar, dSl, dNone, dPart, oSl, dFld, dCall, dIf, dDrop, fnN, List.getElem?_cons_zero, List.getElem?_cons_succ, List.set_cons_zero, List.set_cons_succ, true_and, if_true, if_false, Bool.false_eq_true, List.length_cons, List.length_nil, Option.some.injEq, Int.reduceEq, ↓reduceIte, Nat.reduceAdd, Nat.reduceLeDiff, and_true, Nat.zero_le]
    have b1 := emb i (p := 2147483549) (by decide)
    refine ⟨by decide, cmul_l (by decide) (by decide), cpow_of (by omega) (by omega) (by decide) (by decide), by decide, ?_⟩
    have b2 := emb ((i % 2147483549 + 52361 * (b : Int) + 613) ^ Int.toNat 5) (p := 2147483629) (by decide)
    generalize (i % 2147483549 + 52361 * (b : Int) + 613) ^ Int.toNat 5 % 2147483629 = x at b2 ⊢
    unfold u_law_draw_7
    rw [dSeq]
    simp only [dIte, dTB, dBin, dBinF, dPen, isPen, dC, dVar, dNil, dCons, dSet, dAsg, dRet, dNext, dAnd, dOr, dNot, dAndV, dOrV, dNotV, dBu, oLen, oInt, oAbs, oI, oAdd, oIx, dIx, dNeg, gPen, gN, gC, gT, gZ, dLst, dTup, dPar, dSl, dNone, dPart, oSl, dFld, dCall, dIf, dDrop, fnN, List.getElem?_cons_zero, List.getElem?_cons_succ, List.set_cons_zero, List.set_cons_succ, true_and, if_true, if_false, Bool.false_eq_true, List.length_cons, List.length_nil, Option.some.injEq, Int.reduceEq, ↓reduceIte, Nat.reduceAdd, Nat.reduceLeDiff, and_true, Nat.zero_le]
    have b3 := mulb b2.1 (Int.le_of_lt b2.2) (y := 2 * (b : Int) + 339) (Y := 2000339) (by omega) (by omega)
    have b4 := mulb (x := 47459 * (b : Int)) (X := 47459000000) (by omega) (by omega) hm0 hm
    refine ⟨cmul_l (by decide) (by decide), cmul_l (by omega) (by omega), cmul_l (by decide) (by decide), cmul_r (by omega) (by omega), cpow_of (by omega) (by omega) (by decide) (by decide), by decide, ?_⟩
    unfold u_law_draw_8
    simp only [dIte, dTB, dBin, dBinF, dPen, isPen, dC, dVar, dNil, dCons, dSet, dAsg, dRet, dNext, dAnd, dOr, dNot, dAndV, dOrV, dNotV, dBu, oLen, oInt, oAbs, oI, oAdd, oIx, dIx, dNeg, gPen, gN, gC, gT, gZ, dLst, dTup, dPar, dSl, dNone, dPart, oSl, dFld, dCall, dIf, dDrop, fnN, List.getElem?_cons_zero, List.getElem?_cons_succ, List.set_cons_zero, List.set_cons_succ, true_and, if_true, if_false, Bool.false_eq_true, List.length_cons, List.length_nil, Option.some.injEq, Int.reduceEq, ↓reduceIte, Nat.reduceAdd, Nat.reduceLeDiff, and_true, Nat.zero_le]
    exact ⟨cdw_of (by decide) (by decide), h0, fin _⟩
  unfold u_law_draw_5
  rw [dSeq]
  simp only [dIte, dTB, dBin, dBinF, dPen, isPen, dC, dVar, dNil, dCons, dSet, dAsg, dRet, dNext, dAnd, dOr, dNot, dAndV, dOrV, dNotV, dBu, oLen, oInt, oAbs, oI, oAdd, oIx, dIx, dNeg, gPen, gN, gC, gT, gZ, dLst, dTup, dPar, dSl, dNone, dPart, oSl, dFld, dCall, dIf, dDrop, fnN, List.getElem?_cons_zero, List.getElem?_cons_succ, List.set_cons_zero, List.set_cons_succ, true_and, if_true, if_false, Bool.false_eq_true, List.length_cons, List.length_nil, Option.some.injEq, Int.reduceEq, ↓reduceIte, Nat.reduceAdd, Nat.reduceLeDiff, and_true, Nat.zero_le]
  intro hcs
  generalize (if i < 0 then -i else i) = ab
  split
  · refine ⟨cpow_of (by decide) (by decide) (by decide) (by decide), ?_⟩
    split
    · simp only [dSeq, dIte, dTB, dBin, dBinF, dPen, isPen, dC, dVar, dNil, dCons, dSet, dAsg, dRet, dNext, dAnd, dOr, dNot, dAndV, dOrV, dNotV, dBu, oLen, oInt, oAbs, oI, oAdd, oIx, dIx, dNeg, gPen, gN, gC, gT, gZ, dLst, dTup, dPar, dSl, dNone, dPart, oSl, dFld, dCall, dIf, dDrop, fnN, List.getElem?_cons_zero, List.getElem?_cons_succ, List.set_cons_zero, List.set_cons_succ, true_and, if_true, if_false, Bool.false_eq_true, List.length_cons, List.length_nil, Option.some.injEq, Int.reduceEq, ↓reduceIte, Nat.reduceAdd, Nat.reduceLeDiff, and_true, Nat.zero_le]
      generalize (if i < 0 then -i else i) = ab
      refine ⟨cpow_of (by decide) (by decide) (by decide) (by decide), cmul_l (by decide) (by decide), ?_⟩
      exact ⟨cdw_of h0 h1, n, Nat.le_refl _, h0, fin _⟩
    · exact last
  · exact last
theorem rd_law_draw {c : Wd} {A : Ad} : ∀ ds n P R, sDraw ds n P R → t_law_draw c A (fnN P R) (startS N_law_draw ds n) := by
  rintro ds n P R ⟨m, rfl, h0, h1, hn, hp⟩
  have e : startS N_law_draw [.pen, .int m] n = ⟨[.d .pen, .d (.int m), .un, .un, .un, .un, .un], n⟩ := rfl
  rw [e]
  unfold t_law_draw
  rw [dSeq]
  simp only [dIte, dTB, dBin, dBinF, dPen, isPen, dC, dVar, dNil, dCons, dSet, dAsg, dRet, dNext, dAnd, dOr, dNot, dAndV, dOrV, dNotV, dBu, oLen, oInt, oAbs, oI, oAdd, oIx, dIx, dNeg, gPen, gN, gC, gT, gZ, dLst, dTup, dPar, dSl, dNone, dPart, oSl, dFld, dCall, dIf, dDrop, fnN, List.getElem?_cons_zero, List.getElem?_cons_succ, List.set_cons_zero, List.set_cons_succ, true_and, if_true, if_false, Bool.false_eq_true, List.length_cons, List.length_nil, Option.some.injEq, Int.reduceEq, ↓reduceIte, Nat.reduceAdd, Nat.reduceLeDiff, and_true, Nat.zero_le]
  intro z
  by_cases hz : 0 < z
  · simp only [hz, decide_true, if_true, dSeq, dIte, dTB, dBin, dBinF, dPen, isPen, dC, dVar, dNil, dCons, dSet, dAsg, dRet, dNext, dAnd, dOr, dNot, dAndV, dOrV, dNotV, dBu, oLen, oInt, oAbs, oI, oAdd, oIx, dIx, dNeg, gPen, gN, gC, gT, gZ, dLst, dTup, dPar, dSl, dNone, dPart, oSl, dFld, dCall, dIf, dDrop, fnN, List.getElem?_cons_zero, List.getElem?_cons_succ, List.set_cons_zero, List.set_cons_succ, true_and, if_true, if_false, Bool.false_eq_true, List.length_cons, List.length_nil, Option.some.injEq, Int.reduceEq, ↓reduceIte, Nat.reduceAdd, Nat.reduceLeDiff, and_true, Nat.zero_le]
    intro z1
    refine ⟨h0, fun z2 => ⟨cdw_of h0 h1, n - 1, by omega, hp _ (emb _ h0).1 (emb _ h0).2⟩⟩
  · simp only [hz, decide_false, if_false, Bool.false_eq_true]
    unfold u_law_draw_1
    rw [dSeq]
    simp only [dIte, dTB, dBin, dBinF, dPen, isPen, dC, dVar, dNil, dCons, dSet, dAsg, dRet, dNext, dAnd, dOr, dNot, dAndV, dOrV, dNotV, dBu, oLen, oInt, oAbs, oI, oAdd, oIx, dIx, dNeg, gPen, gN, gC, gT, gZ, dLst, dTup, dPar, dSl, dNone, dPart, oSl, dFld, dCall, dIf, dDrop, fnN, List.getElem?_cons_zero, List.getElem?_cons_succ, List.set_cons_zero, List.set_cons_succ, true_and, if_true, if_false, Bool.false_eq_true, List.length_cons, List.length_nil, Option.some.injEq, Int.reduceEq, ↓reduceIte, Nat.reduceAdd, Nat.reduceLeDiff, and_true, Nat.zero_le]
    intro b hb
    unfold u_law_draw_2
    rw [dSeq]
    simp only [dIte, dTB, dBin, dBinF, dPen, isPen, dC, dVar, dNil, dCons, dSet, dAsg, dRet, dNext, dAnd, dOr, dNot, dAndV, dOrV, dNotV, dBu, oLen, oInt, oAbs, oI, oAdd, oIx, dIx, dNeg, gPen, gN, gC, gT, gZ, dLst, dTup, dPar, dSl, dNone, dPart, oSl, dFld, dCall, dIf, dDrop, fnN, List.getElem?_cons_zero, List.getElem?_cons_succ, List.set_cons_zero, List.set_cons_succ, true_and, if_true, if_false, Bool.false_eq_true, List.length_cons, List.length_nil, Option.some.injEq, Int.reduceEq, ↓reduceIte, Nat.reduceAdd, Nat.reduceLeDiff, and_true, Nat.zero_le]
    refine ⟨b + 1, n - 1, by simp, by omega, ?_⟩
    have hb2 : b ≤ 1000000 := by omega
    unfold u_law_draw_3
    rw [dSeq]
    simp only [dIte, dTB, dBin, dBinF, dPen, isPen, dC, dVar, dNil, dCons, dSet, dAsg, dRet, dNext, dAnd, dOr, dNot, dAndV, dOrV, dNotV, dBu, oLen, oInt, oAbs, oI, oAdd, oIx, dIx, dNeg, gPen, gN, gC, gT, gZ, dLst, dTup, dPar, dSl, dNone, dPart, oSl, dFld, dCall, dIf, dDrop, fnN, List.getElem?_cons_zero, List.getElem?_cons_succ, List.set_cons_zero, List.set_cons_succ, true_and, if_true, if_false, Bool.false_eq_true, List.length_cons, List.length_nil, Option.some.injEq, Int.reduceEq, ↓reduceIte, Nat.reduceAdd, Nat.reduceLeDiff, and_true, Nat.zero_le]
    refine ⟨cmul_l (by decide) (by decide), ?_⟩
    unfold u_law_draw_4
    rw [dSeq]
    simp only [dIte, dTB, dBin, dBinF, dPen, isPen, dC, dVar, dNil, dCons, dSet, dAsg, dRet, dNext, dAnd, dOr, dNot, dAndV, dOrV, dNotV, dBu, oLen, oInt, oAbs, oI, oAdd, oIx, dIx, dNeg, gPen, gN, gC, gT, gZ, dLst, dTup, dPar, dSl, dNone, dPart, oSl, dFld, dCall, dIf, dDrop, fnN, List.getElem?_cons_zero, List.getElem?_cons_succ, List.set_cons_zero, List.set_cons_succ, true_and, if_true, if_false, Bool.false_eq_true, List.length_cons, List.length_nil, Option.some.injEq, Int.reduceEq, ↓reduceIte, Nat.reduceAdd, Nat.reduceLeDiff, and_true, Nat.zero_le]
    intro hcs
    unfold oNe
    simp only [eqD_ints_nil]
    refine ⟨⟨noDic_ints _, noDic_nil⟩, ?_⟩
    -- a cell is there, or none
    by_cases hc : c.cs = []
    · rw [hc]
      simp only [List.isEmpty_nil, Bool.not_true, Bool.false_eq_true, if_false]
      exact draw_tail h0 h1 hb2 hp (39119 * b + 823)
    · have hi : c.cs.isEmpty = false := by cases q : c.cs with | nil => exact absurd q hc | cons _ _ => rfl
      rw [hi]
      simp only [Bool.not_false, if_true]
      intro _ _
      obtain ⟨i, e⟩ := atI_cell hc b
      exact ⟨len_pos hc, .int i, e, draw_tail h0 h1 hb2 hp i⟩

theorem ok_law_draw {c : Wd} {A : Ad} (T : Txt c A) : ∃ fd, Fun c.K "_law_draw" "_law_draw" s_law_draw A.f_law_draw fd ∧ FnG c 1 A.f_law_draw fd [("_law_pen_here" : Str), ("_law_many" : Str)] (liftSp c sDraw) := by
  obtain ⟨fd, F⟩ := T.F_law_draw
  exact ⟨fd, F, fn_ok (fun_d F) sc_law_draw len_law_draw (dd_law_draw T) rd_law_draw⟩
def cs_law_draw_2 (c : Wd) (A : Ad) : DSp2 := fun ds es m P R => ds.length = 2 ∧ sDraw ds m P R
theorem ca_law_draw_2 {c : Wd} {A : Ad} (T : Txt c A) : Callee c (.ref A.f_law_draw) [] 1 (cs_law_draw_2 c A) := by
  obtain ⟨fd, F, G⟩ := ok_law_draw T
  exact callee_fn G F.kp (shape_0 F fun _ _ _ _ _ _ us hl => match us, hl with | [_, _], _ => rfl)
/-! _law_pick -/
def N_law_pick : List Str := [("_law_pen_here" : Str), ("_law_some" : Str)]
theorem sc_law_pick : FnScope N_law_pick [("_law_pen_here" : Str), ("_law_some" : Str)] (defScope s_law_pick) := ⟨rfl, rfl, rfl, by decide +kernel, rfl, by decide +kernel, by decide +kernel⟩
def t_law_pick (c : Wd) (A : Ad) : DTS := dRet (dIx (dVar 1) (dCall (fun ds zs n P R => zs = [] ∧ (cs_law_draw_2 c A) ds [] n P R) (dCons (dVar 0) (dCons (dBu oLen (dCons (dVar 1) (dNil))) (dNil))) dNil))
theorem dd_law_pick {c : Wd} {A : Ad} (T : Txt c A) (X : Cx) (cf : Fr) (W : WX) (ec : cf.toWd = c) (B : XB X cf W N_law_pick (defScope s_law_pick) 1 false) : DSs X cf W (defBody s_law_pick) (t_law_pick c A) := by
  subst ec
  exact (dss_one (ds_ret (de_ix B (dv B (i := 1)) (de_call B T.mg_law_draw (ca_law_draw_2 T) (by decide) rfl (da_cons (dv B (i := 0)) (da_cons (de_bu B T.no_len boo_len (b_len B) rfl (da_cons (dv B (i := 1)) da_nil)) da_nil))))))
def sp_law_pick (c : Wd) (A : Ad) : DSp := fun ds n P R => ds.length = 2 ∧ t_law_pick c A (fnN P R) (startS N_law_pick ds n)
theorem ok_law_pick {c : Wd} {A : Ad} (T : Txt c A) : ∃ fd, Fun c.K "_law_pick" "_law_pick" s_law_pick A.f_law_pick fd ∧ FnG c 2 A.f_law_pick fd [("_law_pen_here" : Str), ("_law_some" : Str)] (liftSp c (sp_law_pick c A)) := by
  obtain ⟨fd, F⟩ := T.F_law_pick
  exact ⟨fd, F, fn_ok (fun_d F) sc_law_pick (fun _ _ _ _ h => h.1) (dd_law_pick T) (fun _ _ _ _ h => h.2)⟩
def cs_law_pick_2 (c : Wd) (A : Ad) : DSp2 := fun ds es m P R => ds.length = 2 ∧ (sp_law_pick c A) ds m P R
theorem ca_law_pick_2 {c : Wd} {A : Ad} (T : Txt c A) : Callee c (.ref A.f_law_pick) [] 2 (cs_law_pick_2 c A) := by
  obtain ⟨fd, F, G⟩ := ok_law_pick T
  exact callee_fn G F.kp (shape_0 F fun _ _ _ _ _ _ us hl => match us, hl with | [_, _], _ => rfl)
/-! _law_parts -/
def N_law_parts : List Str := [("_law_pen_here" : Str), ("_law_many" : Str), ("_law_some" : Str), ("_law_at" : Str)]
theorem sc_law_parts : FnScope N_law_parts [("_law_pen_here" : Str), ("_law_many" : Str)] (defScope s_law_parts) := ⟨rfl, rfl, rfl, by decide +kernel, rfl, by decide +kernel, by decide +kernel⟩
def u_law_parts_1 (c : Wd) (A : Ad) : DTS := dRet (dLC (dRng1 (dCons (dVar 1) (dNil))) (gN 3) (dYes) (dCall (fun ds zs n P R => zs = [] ∧ (cs_law_pick_2 c A) ds [] n P R) (dCons (dVar 0) (dCons (dVar 2) (dNil))) dNil) [3])
def t_law_parts (c : Wd) (A : Ad) : DTS := dSeq (dSet 2 (dLst (dCons (dC .non) (dCons (dC (.int 0)) (dCons (dC (.int 7)) (dCons (dNeg (dC (.int 3))) (dCons (dC (.str ("a" : Str))) (dCons (dC (.str ("" : Str))) (dCons (dTup (dNil)) (dCons (dTup (dCons (dC (.int 1)) (dCons (dC (.int 2)) (dNil)))) (dCons (dLst (dCons (dC (.int 1)) (dNil))) (dCons (dC (.dct [])) (dCons (dC (.dct [(.inr ("a" : Str), .int 1)])) (dCons (dBin (oI CPow fun i j => .int (i ^ j.toNat)) (dC (.int 10)) (dC (.int 40))) (dCons (dC (.str ("line" : Str))) (dCons (dTup (dCons (dC (.int 3)) (dNil))) (dCons (dLst (dCons (dC (.int 3)) (dNil))) (dNil)))))))))))))))))) (u_law_parts_1 c A)
theorem dd_law_parts {c : Wd} {A : Ad} (T : Txt c A) (X : Cx) (cf : Fr) (W : WX) (ec : cf.toWd = c) (B : XB X cf W N_law_parts (defScope s_law_parts) 2 false) : DSs X cf W (defBody s_law_parts) (t_law_parts c A) := by
  subst ec
  exact (dss_cons (dset B (i := 2) (de_lst (da_cons de_non (da_cons de_int (da_cons de_int (da_cons (de_neg de_int) (da_cons de_str (da_cons de_str (da_cons (de_tup da_nil) (da_cons (de_tup (da_cons de_int (da_cons de_int da_nil))) (da_cons (de_lst (da_cons de_int da_nil)) (da_cons de_dct0 (da_cons de_dct1 (da_cons (de_bin o_pow de_int de_int) (da_cons de_str (da_cons (de_tup (da_cons de_int da_nil)) (da_cons (de_lst (da_cons de_int da_nil)) da_nil))))))))))))))))) (dss_one (ds_ret (de_lc B (own := [(("_law_at" : Str), 3)]) (di_range1 B rfl T.no_range (da_cons (dv B (i := 1)) da_nil)) (blkOk_by (by decide +kernel)) (fun X' c' ec B' => by
  have T : Txt c'.toWd A := by rw [ec]; exact T
  try rw [← ec]
  exact ⟨(dgo_name B' (i := 3) rfl rfl (by decide)), dts_nil, (de_call B' T.mg_law_pick (ca_law_pick_2 T) (by decide) rfl (da_cons (dv B' (i := 0)) (da_cons (dv B' (i := 2)) da_nil)))⟩)))))
def sp_law_parts (c : Wd) (A : Ad) : DSp := fun ds n P R => ds.length = 2 ∧ t_law_parts c A (fnN P R) (startS N_law_parts ds n)
theorem ok_law_parts {c : Wd} {A : Ad} (T : Txt c A) : ∃ fd, Fun c.K "_law_parts" "_law_parts" s_law_parts A.f_law_parts fd ∧ FnG c 3 A.f_law_parts fd [("_law_pen_here" : Str), ("_law_many" : Str)] (liftSp c (sp_law_parts c A)) := by
  obtain ⟨fd, F⟩ := T.F_law_parts
  exact ⟨fd, F, fn_ok (fun_d F) sc_law_parts (fun _ _ _ _ h => h.1) (dd_law_parts T) (fun _ _ _ _ h => h.2)⟩
/-! _law_other -/
def N_law_other : List Str := [("_law_pen_here" : Str), ("_law_parts_here" : Str), ("_law_at" : Str)]
theorem sc_law_other : FnScope N_law_other [("_law_pen_here" : Str), ("_law_parts_here" : Str)] (defScope s_law_other) := ⟨rfl, rfl, rfl, by decide +kernel, rfl, by decide +kernel, by decide +kernel⟩
def u_law_other_1 (c : Wd) (A : Ad) : DTS := dRet (dBin oAdd (dBin oAdd (dSl (dVar 1) (dNone) (dPart (dVar 2))) (dLst (dCons (dCall (fun ds zs n P R => zs = [] ∧ (cs_law_pick_2 c A) ds [] n P R) (dCons (dVar 0) (dCons (dLst (dCons (dC (.str ("other" : Str))) (dCons (dTup (dCons (dC (.str ("other" : Str))) (dNil))) (dCons (dC (.int 11)) (dNil))))) (dNil))) dNil) (dNil)))) (dSl (dVar 1) (dPart (dBin oAdd (dVar 2) (dC (.int 1)))) (dNone)))
def t_law_other (c : Wd) (A : Ad) : DTS := dSeq (dSet 2 (dCall (fun ds zs n P R => zs = [] ∧ (cs_law_draw_2 c A) ds [] n P R) (dCons (dVar 0) (dCons (dBu oLen (dCons (dVar 1) (dNil))) (dNil))) dNil)) (u_law_other_1 c A)
theorem dd_law_other {c : Wd} {A : Ad} (T : Txt c A) (X : Cx) (cf : Fr) (W : WX) (ec : cf.toWd = c) (B : XB X cf W N_law_other (defScope s_law_other) 2 false) : DSs X cf W (defBody s_law_other) (t_law_other c A) := by
  subst ec
  exact (dss_cons (dset B (i := 2) (de_call B T.mg_law_draw (ca_law_draw_2 T) (by decide) rfl (da_cons (dv B (i := 0)) (da_cons (de_bu B T.no_len boo_len (b_len B) rfl (da_cons (dv B (i := 1)) da_nil)) da_nil)))) (dss_one (ds_ret (de_bin (o_add B.hK) (de_bin (o_add B.hK) (de_sl B (dv B (i := 1)) do_none (do_some (dv B (i := 2)))) (de_lst (da_cons (de_call B T.mg_law_pick (ca_law_pick_2 T) (by decide) rfl (da_cons (dv B (i := 0)) (da_cons (de_lst (da_cons de_str (da_cons (de_tup (da_cons de_str da_nil)) (da_cons de_int da_nil)))) da_nil))) da_nil))) (de_sl B (dv B (i := 1)) (do_some (de_bin (o_add B.hK) (dv B (i := 2)) de_int)) do_none)))))
def sp_law_other (c : Wd) (A : Ad) : DSp := fun ds n P R => ds.length = 2 ∧ t_law_other c A (fnN P R) (startS N_law_other ds n)
theorem ok_law_other {c : Wd} {A : Ad} (T : Txt c A) : ∃ fd, Fun c.K "_law_other" "_law_other" s_law_other A.f_law_other fd ∧ FnG c 3 A.f_law_other fd [("_law_pen_here" : Str), ("_law_parts_here" : Str)] (liftSp c (sp_law_other c A)) := by
  obtain ⟨fd, F⟩ := T.F_law_other
  exact ⟨fd, F, fn_ok (fun_d F) sc_law_other (fun _ _ _ _ h => h.1) (dd_law_other T) (fun _ _ _ _ h => h.2)⟩
def cs_law_parts_2 (c : Wd) (A : Ad) : DSp2 := fun ds es m P R => ds.length = 2 ∧ (sp_law_parts c A) ds m P R
theorem ca_law_parts_2 {c : Wd} {A : Ad} (T : Txt c A) : Callee c (.ref A.f_law_parts) [] 3 (cs_law_parts_2 c A) := by
  obtain ⟨fd, F, G⟩ := ok_law_parts T
  exact callee_fn G F.kp (shape_0 F fun _ _ _ _ _ _ us hl => match us, hl with | [_, _], _ => rfl)
def cs_Arrival___init___3 (c : Wd) (A : Ad) : DSp2 := fun ds es m P R => ds.length = 3 ∧ si_Arrival___init__ c A ds m (fun fs m' => P (.ins A.c_Arrival fs) m') R
theorem ca_Arrival___init___3 {c : Wd} {A : Ad} (T : Txt c A) : Callee c (.ref A.c_Arrival) [] 2 (cs_Arrival___init___3 c A) := by
  obtain ⟨fd, F, G⟩ := ok_Arrival___init__ T
  exact callee_cls (n := 3) (gD := fun ds _ => ds) T.mk_Arrival G (shape_0 F fun _ _ _ _ _ _ us hl => match us, hl with | [_, _, _, _], _ => rfl) (fun _ _ _ => rfl)
theorem mkc_Arrival___init___3 {c : Wd} {A : Ad} (T : Txt c A) {x0 x1 x2 : D} {n : Nat} {P : D → Nat → Prop} {R : Er → Nat → Prop} (h : P (o_Arrival A x0 x1 x2) n) : cs_Arrival___init___3 c A [x0, x1, x2] [] n P R := ⟨rfl, mk_Arrival T h⟩
def cs_Arrival___init___0_length_moment_name (c : Wd) (A : Ad) : DSp2 := fun ds es m P R => ds.length = 0 ∧ si_Arrival___init__ c A (pick [1, 2, 0] (ds ++ es)) m (fun fs m' => P (.ins A.c_Arrival fs) m') R
theorem ca_Arrival___init___0_length_moment_name {c : Wd} {A : Ad} (T : Txt c A) : Callee c (.ref A.c_Arrival) [("length" : Str), ("moment" : Str), ("name" : Str)] 2 (cs_Arrival___init___0_length_moment_name c A) := by
  obtain ⟨fd, F, G⟩ := ok_Arrival___init__ T
  exact callee_cls (n := 0) (gD := fun ds es => pick [1, 2, 0] (ds ++ es)) T.mk_Arrival G (shape_of F [0, 2, 3, 1] fun _ _ _ _ _ _ us ws hl hm => match us, hl, ws, hm with | [_], _, [_, _, _], _ => rfl) (fun _ _ _ => rfl)
theorem mkc_Arrival___init___0_length_moment_name {c : Wd} {A : Ad} (T : Txt c A) {x0 x1 x2 : D} {n : Nat} {P : D → Nat → Prop} {R : Er → Nat → Prop} (h : P (o_Arrival A x0 x1 x2) n) : cs_Arrival___init___0_length_moment_name c A [] [x2, x0, x1] n P R := ⟨rfl, mk_Arrival T h⟩
def cs_law_other_2 (c : Wd) (A : Ad) : DSp2 := fun ds es m P R => ds.length = 2 ∧ (sp_law_other c A) ds m P R
theorem ca_law_other_2 {c : Wd} {A : Ad} (T : Txt c A) : Callee c (.ref A.f_law_other) [] 3 (cs_law_other_2 c A) := by
  obtain ⟨fd, F, G⟩ := ok_law_other T
  exact callee_fn G F.kp (shape_0 F fun _ _ _ _ _ _ us hl => match us, hl with | [_, _], _ => rfl)
/-! _law_arrival_right -/
def N_law_arrival_right : List Str := [("_law_pen_here" : Str), ("_law_parts_here" : Str), ("_law_one" : Str), ("_law_same" : Str), ("_law_more" : Str)]
theorem sc_law_arrival_right : FnScope N_law_arrival_right [("_law_pen_here" : Str)] (defScope s_law_arrival_right) := ⟨rfl, rfl, rfl, by decide +kernel, rfl, by decide +kernel, by decide +kernel⟩
def u_law_arrival_right_4 (c : Wd) (A : Ad) : DTS := dRet (dAndV (dBinF (oOwn c A.c_Arrival (sp_Arrival___eq__ c A) true) (dVar 2) (dCall (fun ds zs n P R => zs = [] ∧ (cs_Arrival___init___3 c A) ds [] n P R) (dCons (dIx (dVar 4) (dC (.int 0))) (dCons (dIx (dVar 4) (dC (.int 1))) (dCons (dIx (dVar 4) (dC (.int 2))) (dNil)))) dNil)) (dNotV (dBinF (oOwn c A.c_Arrival (sp_Arrival___eq__ c A) false) (dVar 2) (dBu oTuple (dCons (dVar 1) (dNil))))))
def u_law_arrival_right_3 (c : Wd) (A : Ad) : DTS := dSeq (dIte (dOr (dTB (dBin oNe (dBu oRepr (dCons (dLst (dCons (dFld c ("moment" : Str) (dVar 2)) (dCons (dFld c ("name" : Str) (dVar 2)) (dCons (dFld c ("length" : Str) (dVar 2)) (dNil))))) (dNil))) (dBu oRepr (dCons (dVar 1) (dNil))))) (dTB (dBinF (oOwn c A.c_Arrival (sp_Arrival___eq__ c A) true) (dVar 2) (dVar 3)))) (dRet (dC (.bl false))) (dNext)) (u_law_arrival_right_4 c A)
def u_law_arrival_right_2 (c : Wd) (A : Ad) : DTS := dSeq (dSet 4 (dCall (fun ds zs n P R => zs = [] ∧ (cs_law_other_2 c A) ds [] n P R) (dCons (dVar 0) (dCons (dVar 1) (dNil))) dNil)) (u_law_arrival_right_3 c A)
def u_law_arrival_right_1 (c : Wd) (A : Ad) : DTS := dSeq (dPar 2 3 (dCons (dCall (fun ds zs n P R => zs = [] ∧ (cs_Arrival___init___3 c A) ds [] n P R) (dCons (dIx (dVar 1) (dC (.int 0))) (dCons (dIx (dVar 1) (dC (.int 1))) (dCons (dIx (dVar 1) (dC (.int 2))) (dNil)))) dNil) (dCons (dCall (fun ds zs n P R => zs.length = 3 ∧ (cs_Arrival___init___0_length_moment_name c A) ds zs n P R) dNil (dCons (dIx (dVar 1) (dC (.int 2))) (dCons (dIx (dVar 1) (dC (.int 0))) (dCons (dIx (dVar 1) (dC (.int 1))) (dNil))))) (dNil)))) (u_law_arrival_right_2 c A)
def t_law_arrival_right (c : Wd) (A : Ad) : DTS := dSeq (dSet 1 (dCall (fun ds zs n P R => zs = [] ∧ (cs_law_parts_2 c A) ds [] n P R) (dCons (dVar 0) (dCons (dC (.int 3)) (dNil))) dNil)) (u_law_arrival_right_1 c A)
theorem dd_law_arrival_right {c : Wd} {A : Ad} (T : Txt c A) (X : Cx) (cf : Fr) (W : WX) (ec : cf.toWd = c) (B : XB X cf W N_law_arrival_right (defScope s_law_arrival_right) 3 false) : DSs X cf W (defBody s_law_arrival_right) (t_law_arrival_right c A) := by
  subst ec
  exact (dss_cons (dset B (i := 1) (de_call B T.mg_law_parts (ca_law_parts_2 T) (by decide) rfl (da_cons (dv B (i := 0)) (da_cons de_int da_nil)))) (dss_cons (ds_par B (i := 2) (j := 3) rfl rfl (by decide) rfl rfl (da_cons (de_call B T.mg_c_Arrival (ca_Arrival___init___3 T) (by decide) rfl (da_cons (de_ix B (dv B (i := 1)) de_int) (da_cons (de_ix B (dv B (i := 1)) de_int) (da_cons (de_ix B (dv B (i := 1)) de_int) da_nil)))) (da_cons (de_callK0 B T.mg_c_Arrival (ca_Arrival___init___0_length_moment_name T) (by decide) rfl (dk_cons (de_ix B (dv B (i := 1)) de_int) (dk_cons (de_ix B (dv B (i := 1)) de_int) (dk_cons (de_ix B (dv B (i := 1)) de_int) dk_nil)))) da_nil)) (fun env h => by cases env; cases h; rfl)) (dss_cons (dset B (i := 4) (de_call B T.mg_law_other (ca_law_other_2 T) (by decide) rfl (da_cons (dv B (i := 0)) (da_cons (dv B (i := 1)) da_nil)))) (dss_cons (ds_if (dw_or (dtc (o_ne B) (de_bu B T.no_repr boo_repr (b_repr B) rfl (da_cons (de_lst (da_cons (de_fld B (dv B (i := 2))) (da_cons (de_fld B (dv B (i := 2))) (da_cons (de_fld B (dv B (i := 2))) da_nil)))) da_nil)) (de_bu B T.no_repr boo_repr (b_repr B) rfl (da_cons (dv B (i := 1)) da_nil))) (dw_or1 (dt_neO B (eq_Arrival T) (by decide) (dv B (i := 2)) (dv B (i := 3))))).pt (dss_one (ds_ret de_bl)) dss_nil) (dss_one (ds_ret (de_and (de_neO B (eq_Arrival T) (by decide) (dv B (i := 2)) (de_call B T.mg_c_Arrival (ca_Arrival___init___3 T) (by decide) rfl (da_cons (de_ix B (dv B (i := 4)) de_int) (da_cons (de_ix B (dv B (i := 4)) de_int) (da_cons (de_ix B (dv B (i := 4)) de_int) da_nil))))) (de_one (de_not (de_eqO B (eq_Arrival T) (by decide) (dv B (i := 2)) (de_ty B T.no_tuple boo_tuple (b_tuple B) rfl (da_cons (dv B (i := 1)) da_nil))))))))))))
def sp_law_arrival_right (c : Wd) (A : Ad) : DSp := fun ds n P R => ds.length = 1 ∧ t_law_arrival_right c A (fnN P R) (startS N_law_arrival_right ds n)
theorem ok_law_arrival_right {c : Wd} {A : Ad} (T : Txt c A) : ∃ fd, Fun c.K "_law_arrival_right" "_law_arrival_right" s_law_arrival_right A.f_law_arrival_right fd ∧ FnG c 4 A.f_law_arrival_right fd [("_law_pen_here" : Str)] (liftSp c (sp_law_arrival_right c A)) := by
  obtain ⟨fd, F⟩ := T.F_law_arrival_right
  exact ⟨fd, F, fn_ok (fun_d F) sc_law_arrival_right (fun _ _ _ _ h => h.1) (dd_law_arrival_right T) (fun _ _ _ _ h => h.2)⟩
def cs_Turn___init___6 (c : Wd) (A : Ad) : DSp2 := fun ds es m P R => ds.length = 6 ∧ si_Turn___init__ c A ds m (fun fs m' => P (.ins A.c_Turn fs) m') R
theorem ca_Turn___init___6 {c : Wd} {A : Ad} (T : Txt c A) : Callee c (.ref A.c_Turn) [] 2 (cs_Turn___init___6 c A) := by
  obtain ⟨fd, F, G⟩ := ok_Turn___init__ T
  exact callee_cls (n := 6) (gD := fun ds _ => ds) T.mk_Turn G (shape_0 F fun _ _ _ _ _ _ us hl => match us, hl with | [_, _, _, _, _, _, _], _ => rfl) (fun _ _ _ => rfl)
theorem mkc_Turn___init___6 {c : Wd} {A : Ad} (T : Txt c A) {x0 x1 x2 x3 x4 x5 : D} {n : Nat} {P : D → Nat → Prop} {R : Er → Nat → Prop} (h : P (o_Turn A x0 x1 x2 x3 x4 x5) n) : cs_Turn___init___6 c A [x0, x1, x2, x3, x4, x5] [] n P R := ⟨rfl, mk_Turn T h⟩
def cs_Turn___init___0_is_left_rest_lengths_credit_moment_name (c : Wd) (A : Ad) : DSp2 := fun ds es m P R => ds.length = 0 ∧ si_Turn___init__ c A (pick [5, 4, 3, 2, 1, 0] (ds ++ es)) m (fun fs m' => P (.ins A.c_Turn fs) m') R
theorem ca_Turn___init___0_is_left_rest_lengths_credit_moment_name {c : Wd} {A : Ad} (T : Txt c A) : Callee c (.ref A.c_Turn) [("is_left" : Str), ("rest" : Str), ("lengths" : Str), ("credit" : Str), ("moment" : Str), ("name" : Str)] 2 (cs_Turn___init___0_is_left_rest_lengths_credit_moment_name c A) := by
  obtain ⟨fd, F, G⟩ := ok_Turn___init__ T
  exact callee_cls (n := 0) (gD := fun ds es => pick [5, 4, 3, 2, 1, 0] (ds ++ es)) T.mk_Turn G (shape_of F [0, 6, 5, 4, 3, 2, 1] fun _ _ _ _ _ _ us ws hl hm => match us, hl, ws, hm with | [_], _, [_, _, _, _, _, _], _ => rfl) (fun _ _ _ => rfl)
theorem mkc_Turn___init___0_is_left_rest_lengths_credit_moment_name {c : Wd} {A : Ad} (T : Txt c A) {x0 x1 x2 x3 x4 x5 : D} {n : Nat} {P : D → Nat → Prop} {R : Er → Nat → Prop} (h : P (o_Turn A x0 x1 x2 x3 x4 x5) n) : cs_Turn___init___0_is_left_rest_lengths_credit_moment_name c A [] [x5, x4, x3, x2, x1, x0] n P R := ⟨rfl, mk_Turn T h⟩
/-! _law_turn_right -/
def N_law_turn_right : List Str := [("_law_pen_here" : Str), ("_law_parts_here" : Str), ("_law_one" : Str), ("_law_same" : Str), ("_law_more" : Str)]
theorem sc_law_turn_right : FnScope N_law_turn_right [("_law_pen_here" : Str)] (defScope s_law_turn_right) := ⟨rfl, rfl, rfl, by decide +kernel, rfl, by decide +kernel, by decide +kernel⟩
def u_law_turn_right_5 (c : Wd) (A : Ad) : DTS := dRet (dAndV (dBinF (oOwn c A.c_Turn (sp_Turn___eq__ c A) true) (dVar 2) (dCall (fun ds zs n P R => zs = [] ∧ (cs_Turn___init___6 c A) ds [] n P R) (dCons (dIx (dVar 4) (dC (.int 0))) (dCons (dIx (dVar 4) (dC (.int 1))) (dCons (dIx (dVar 4) (dC (.int 2))) (dCons (dIx (dVar 4) (dC (.int 3))) (dCons (dIx (dVar 4) (dC (.int 4))) (dCons (dIx (dVar 4) (dC (.int 5))) (dNil))))))) dNil)) (dNotV (dBinF (oOwn c A.c_Turn (sp_Turn___eq__ c A) false) (dVar 2) (dVar 1))))
def u_law_turn_right_4 (c : Wd) (A : Ad) : DTS := dSeq (dIte (dOr (dTB (dBin oNe (dBu oRepr (dCons (dLst (dCons (dFld c ("name" : Str) (dVar 2)) (dCons (dFld c ("moment" : Str) (dVar 2)) (dCons (dFld c ("credit" : Str) (dVar 2)) (dCons (dFld c ("lengths" : Str) (dVar 2)) (dCons (dFld c ("rest" : Str) (dVar 2)) (dCons (dFld c ("is_left" : Str) (dVar 2)) (dNil)))))))) (dNil))) (dBu oRepr (dCons (dVar 1) (dNil))))) (dTB (dBinF (oOwn c A.c_Turn (sp_Turn___eq__ c A) true) (dVar 2) (dVar 3)))) (dRet (dC (.bl false))) (dNext)) (u_law_turn_right_5 c A)
def u_law_turn_right_3 (c : Wd) (A : Ad) : DTS := dSeq (dSet 4 (dCall (fun ds zs n P R => zs = [] ∧ (cs_law_other_2 c A) ds [] n P R) (dCons (dVar 0) (dCons (dVar 1) (dNil))) dNil)) (u_law_turn_right_4 c A)
def u_law_turn_right_2 (c : Wd) (A : Ad) : DTS := dSeq (dSet 3 (dCall (fun ds zs n P R => zs.length = 6 ∧ (cs_Turn___init___0_is_left_rest_lengths_credit_moment_name c A) ds zs n P R) dNil (dCons (dIx (dVar 1) (dC (.int 5))) (dCons (dIx (dVar 1) (dC (.int 4))) (dCons (dIx (dVar 1) (dC (.int 3))) (dCons (dIx (dVar 1) (dC (.int 2))) (dCons (dIx (dVar 1) (dC (.int 1))) (dCons (dIx (dVar 1) (dC (.int 0))) (dNil))))))))) (u_law_turn_right_3 c A)
def u_law_turn_right_1 (c : Wd) (A : Ad) : DTS := dSeq (dSet 2 (dCall (fun ds zs n P R => zs = [] ∧ (cs_Turn___init___6 c A) ds [] n P R) (dCons (dIx (dVar 1) (dC (.int 0))) (dCons (dIx (dVar 1) (dC (.int 1))) (dCons (dIx (dVar 1) (dC (.int 2))) (dCons (dIx (dVar 1) (dC (.int 3))) (dCons (dIx (dVar 1) (dC (.int 4))) (dCons (dIx (dVar 1) (dC (.int 5))) (dNil))))))) dNil)) (u_law_turn_right_2 c A)
def t_law_turn_right (c : Wd) (A : Ad) : DTS := dSeq (dSet 1 (dCall (fun ds zs n P R => zs = [] ∧ (cs_law_parts_2 c A) ds [] n P R) (dCons (dVar 0) (dCons (dC (.int 6)) (dNil))) dNil)) (u_law_turn_right_1 c A)
theorem dd_law_turn_right {c : Wd} {A : Ad} (T : Txt c A) (X : Cx) (cf : Fr) (W : WX) (ec : cf.toWd = c) (B : XB X cf W N_law_turn_right (defScope s_law_turn_right) 3 false) : DSs X cf W (defBody s_law_turn_right) (t_law_turn_right c A) := by
  subst ec
  exact (dss_cons (dset B (i := 1) (de_call B T.mg_law_parts (ca_law_parts_2 T) (by decide) rfl (da_cons (dv B (i := 0)) (da_cons de_int da_nil)))) (dss_cons (dset B (i := 2) (de_call B T.mg_c_Turn (ca_Turn___init___6 T) (by decide) rfl (da_cons (de_ix B (dv B (i := 1)) de_int) (da_cons (de_ix B (dv B (i := 1)) de_int) (da_cons (de_ix B (dv B (i := 1)) de_int) (da_cons (de_ix B (dv B (i := 1)) de_int) (da_cons (de_ix B (dv B (i := 1)) de_int) (da_cons (de_ix B (dv B (i := 1)) de_int) da_nil)))))))) (dss_cons (dset B (i := 3) (de_callK0 B T.mg_c_Turn (ca_Turn___init___0_is_left_rest_lengths_credit_moment_name T) (by decide) rfl (dk_cons (de_ix B (dv B (i := 1)) de_int) (dk_cons (de_ix B (dv B (i := 1)) de_int) (dk_cons (de_ix B (dv B (i := 1)) de_int) (dk_cons (de_ix B (dv B (i := 1)) de_int) (dk_cons (de_ix B (dv B (i := 1)) de_int) (dk_cons (de_ix B (dv B (i := 1)) de_int) dk_nil)))))))) (dss_cons (dset B (i := 4) (de_call B T.mg_law_other (ca_law_other_2 T) (by decide) rfl (da_cons (dv B (i := 0)) (da_cons (dv B (i := 1)) da_nil)))) (dss_cons (ds_if (dw_or (dtc (o_ne B) (de_bu B T.no_repr boo_repr (b_repr B) rfl (da_cons (de_lst (da_cons (de_fld B (dv B (i := 2))) (da_cons (de_fld B (dv B (i := 2))) (da_cons (de_fld B (dv B (i := 2))) (da_cons (de_fld B (dv B (i := 2))) (da_cons (de_fld B (dv B (i := 2))) (da_cons (de_fld B (dv B (i := 2))) da_nil))))))) da_nil)) (de_bu B T.no_repr boo_repr (b_repr B) rfl (da_cons (dv B (i := 1)) da_nil))) (dw_or1 (dt_neO B (eq_Turn T) (by decide) (dv B (i := 2)) (dv B (i := 3))))).pt (dss_one (ds_ret de_bl)) dss_nil) (dss_one (ds_ret (de_and (de_neO B (eq_Turn T) (by decide) (dv B (i := 2)) (de_call B T.mg_c_Turn (ca_Turn___init___6 T) (by decide) rfl (da_cons (de_ix B (dv B (i := 4)) de_int) (da_cons (de_ix B (dv B (i := 4)) de_int) (da_cons (de_ix B (dv B (i := 4)) de_int) (da_cons (de_ix B (dv B (i := 4)) de_int) (da_cons (de_ix B (dv B (i := 4)) de_int) (da_cons (de_ix B (dv B (i := 4)) de_int) da_nil)))))))) (de_one (de_not (de_eqO B (eq_Turn T) (by decide) (dv B (i := 2)) (dv B (i := 1)))))))))))))
def sp_law_turn_right (c : Wd) (A : Ad) : DSp := fun ds n P R => ds.length = 1 ∧ t_law_turn_right c A (fnN P R) (startS N_law_turn_right ds n)
theorem ok_law_turn_right {c : Wd} {A : Ad} (T : Txt c A) : ∃ fd, Fun c.K "_law_turn_right" "_law_turn_right" s_law_turn_right A.f_law_turn_right fd ∧ FnG c 4 A.f_law_turn_right fd [("_law_pen_here" : Str)] (liftSp c (sp_law_turn_right c A)) := by
  obtain ⟨fd, F⟩ := T.F_law_turn_right
  exact ⟨fd, F, fn_ok (fun_d F) sc_law_turn_right (fun _ _ _ _ h => h.1) (dd_law_turn_right T) (fun _ _ _ _ h => h.2)⟩
def cs_Sent___init___7 (c : Wd) (A : Ad) : DSp2 := fun ds es m P R => ds.length = 7 ∧ si_Sent___init__ c A ds m (fun fs m' => P (.ins A.c_Sent fs) m') R
theorem ca_Sent___init___7 {c : Wd} {A : Ad} (T : Txt c A) : Callee c (.ref A.c_Sent) [] 2 (cs_Sent___init___7 c A) := by
  obtain ⟨fd, F, G⟩ := ok_Sent___init__ T
  exact callee_cls (n := 7) (gD := fun ds _ => ds) T.mk_Sent G (shape_0 F fun _ _ _ _ _ _ us hl => match us, hl with | [_, _, _, _, _, _, _, _], _ => rfl) (fun _ _ _ => rfl)
theorem mkc_Sent___init___7 {c : Wd} {A : Ad} (T : Txt c A) {x0 x1 x2 x3 x4 x5 x6 : D} {n : Nat} {P : D → Nat → Prop} {R : Er → Nat → Prop} (h : P (o_Sent A x0 x1 x2 x3 x4 x5 x6) n) : cs_Sent___init___7 c A [x0, x1, x2, x3, x4, x5, x6] [] n P R := ⟨rfl, mk_Sent T h⟩
def cs_Sent___init___0_bits_turn_ended_came_name_number_length (c : Wd) (A : Ad) : DSp2 := fun ds es m P R => ds.length = 0 ∧ si_Sent___init__ c A (pick [4, 5, 6, 3, 2, 1, 0] (ds ++ es)) m (fun fs m' => P (.ins A.c_Sent fs) m') R
theorem ca_Sent___init___0_bits_turn_ended_came_name_number_length {c : Wd} {A : Ad} (T : Txt c A) : Callee c (.ref A.c_Sent) [("bits" : Str), ("turn" : Str), ("ended" : Str), ("came" : Str), ("name" : Str), ("number" : Str), ("length" : Str)] 2 (cs_Sent___init___0_bits_turn_ended_came_name_number_length c A) := by
  obtain ⟨fd, F, G⟩ := ok_Sent___init__ T
  exact callee_cls (n := 0) (gD := fun ds es => pick [4, 5, 6, 3, 2, 1, 0] (ds ++ es)) T.mk_Sent G (shape_of F [0, 5, 6, 7, 4, 3, 2, 1] fun _ _ _ _ _ _ us ws hl hm => match us, hl, ws, hm with | [_], _, [_, _, _, _, _, _, _], _ => rfl) (fun _ _ _ => rfl)
theorem mkc_Sent___init___0_bits_turn_ended_came_name_number_length {c : Wd} {A : Ad} (T : Txt c A) {x0 x1 x2 x3 x4 x5 x6 : D} {n : Nat} {P : D → Nat → Prop} {R : Er → Nat → Prop} (h : P (o_Sent A x0 x1 x2 x3 x4 x5 x6) n) : cs_Sent___init___0_bits_turn_ended_came_name_number_length c A [] [x6, x5, x4, x3, x0, x1, x2] n P R := ⟨rfl, mk_Sent T h⟩
/-! _law_sent_right -/
def N_law_sent_right : List Str := [("_law_pen_here" : Str), ("_law_parts_here" : Str), ("_law_one" : Str), ("_law_same" : Str), ("_law_more" : Str)]
theorem sc_law_sent_right : FnScope N_law_sent_right [("_law_pen_here" : Str)] (defScope s_law_sent_right) := ⟨rfl, rfl, rfl, by decide +kernel, rfl, by decide +kernel, by decide +kernel⟩
def u_law_sent_right_6 (c : Wd) (A : Ad) : DTS := dRet (dBinF (oInO A.c_Sent (sp_Sent___eq__ c A) true) (dVar 2) (dLst (dCons (dC .non) (dCons (dVar 1) (dCons (dBu oTuple (dCons (dVar 1) (dNil))) (dCons (dIx (dVar 1) (dC (.int 0))) (dNil)))))))
def u_law_sent_right_5 (c : Wd) (A : Ad) : DTS := dSeq (dIte (dOr (dTB (dBinF (oOwn c A.c_Sent (sp_Sent___eq__ c A) true) (dVar 2) (dVar 3))) (dTB (dBinF (oOwn c A.c_Sent (sp_Sent___eq__ c A) false) (dVar 2) (dCall (fun ds zs n P R => zs = [] ∧ (cs_Sent___init___7 c A) ds [] n P R) (dCons (dIx (dVar 4) (dC (.int 0))) (dCons (dIx (dVar 4) (dC (.int 1))) (dCons (dIx (dVar 4) (dC (.int 2))) (dCons (dIx (dVar 4) (dC (.int 3))) (dCons (dIx (dVar 4) (dC (.int 4))) (dCons (dIx (dVar 4) (dC (.int 5))) (dCons (dIx (dVar 4) (dC (.int 6))) (dNil)))))))) dNil)))) (dRet (dC (.bl false))) (dNext)) (u_law_sent_right_6 c A)
def u_law_sent_right_4 (c : Wd) (A : Ad) : DTS := dSeq (dIte (dTB (dBin oNe (dBu oRepr (dCons (dLst (dCons (dFld c ("name" : Str) (dVar 2)) (dCons (dFld c ("number" : Str) (dVar 2)) (dCons (dFld c ("length" : Str) (dVar 2)) (dCons (dFld c ("came" : Str) (dVar 2)) (dCons (dFld c ("ended" : Str) (dVar 2)) (dCons (dFld c ("turn" : Str) (dVar 2)) (dCons (dFld c ("bits" : Str) (dVar 2)) (dNil))))))))) (dNil))) (dBu oRepr (dCons (dVar 1) (dNil))))) (dRet (dC (.bl false))) (dNext)) (u_law_sent_right_5 c A)
def u_law_sent_right_3 (c : Wd) (A : Ad) : DTS := dSeq (dSet 4 (dCall (fun ds zs n P R => zs = [] ∧ (cs_law_other_2 c A) ds [] n P R) (dCons (dVar 0) (dCons (dVar 1) (dNil))) dNil)) (u_law_sent_right_4 c A)
def u_law_sent_right_2 (c : Wd) (A : Ad) : DTS := dSeq (dSet 3 (dCall (fun ds zs n P R => zs.length = 7 ∧ (cs_Sent___init___0_bits_turn_ended_came_name_number_length c A) ds zs n P R) dNil (dCons (dIx (dVar 1) (dC (.int 6))) (dCons (dIx (dVar 1) (dC (.int 5))) (dCons (dIx (dVar 1) (dC (.int 4))) (dCons (dIx (dVar 1) (dC (.int 3))) (dCons (dIx (dVar 1) (dC (.int 0))) (dCons (dIx (dVar 1) (dC (.int 1))) (dCons (dIx (dVar 1) (dC (.int 2))) (dNil)))))))))) (u_law_sent_right_3 c A)
def u_law_sent_right_1 (c : Wd) (A : Ad) : DTS := dSeq (dSet 2 (dCall (fun ds zs n P R => zs = [] ∧ (cs_Sent___init___7 c A) ds [] n P R) (dCons (dIx (dVar 1) (dC (.int 0))) (dCons (dIx (dVar 1) (dC (.int 1))) (dCons (dIx (dVar 1) (dC (.int 2))) (dCons (dIx (dVar 1) (dC (.int 3))) (dCons (dIx (dVar 1) (dC (.int 4))) (dCons (dIx (dVar 1) (dC (.int 5))) (dCons (dIx (dVar 1) (dC (.int 6))) (dNil)))))))) dNil)) (u_law_sent_right_2 c A)
def t_law_sent_right (c : Wd) (A : Ad) : DTS := dSeq (dSet 1 (dCall (fun ds zs n P R => zs = [] ∧ (cs_law_parts_2 c A) ds [] n P R) (dCons (dVar 0) (dCons (dC (.int 7)) (dNil))) dNil)) (u_law_sent_right_1 c A)
theorem dd_law_sent_right {c : Wd} {A : Ad} (T : Txt c A) (X : Cx) (cf : Fr) (W : WX) (ec : cf.toWd = c) (B : XB X cf W N_law_sent_right (defScope s_law_sent_right) 3 false) : DSs X cf W (defBody s_law_sent_right) (t_law_sent_right c A) := by
  subst ec
  exact (dss_cons (dset B (i := 1) (de_call B T.mg_law_parts (ca_law_parts_2 T) (by decide) rfl (da_cons (dv B (i := 0)) (da_cons de_int da_nil)))) (dss_cons (dset B (i := 2) (de_call B T.mg_c_Sent (ca_Sent___init___7 T) (by decide) rfl (da_cons (de_ix B (dv B (i := 1)) de_int) (da_cons (de_ix B (dv B (i := 1)) de_int) (da_cons (de_ix B (dv B (i := 1)) de_int) (da_cons (de_ix B (dv B (i := 1)) de_int) (da_cons (de_ix B (dv B (i := 1)) de_int) (da_cons (de_ix B (dv B (i := 1)) de_int) (da_cons (de_ix B (dv B (i := 1)) de_int) da_nil))))))))) (dss_cons (dset B (i := 3) (de_callK0 B T.mg_c_Sent (ca_Sent___init___0_bits_turn_ended_came_name_number_length T) (by decide) rfl (dk_cons (de_ix B (dv B (i := 1)) de_int) (dk_cons (de_ix B (dv B (i := 1)) de_int) (dk_cons (de_ix B (dv B (i := 1)) de_int) (dk_cons (de_ix B (dv B (i := 1)) de_int) (dk_cons (de_ix B (dv B (i := 1)) de_int) (dk_cons (de_ix B (dv B (i := 1)) de_int) (dk_cons (de_ix B (dv B (i := 1)) de_int) dk_nil))))))))) (dss_cons (dset B (i := 4) (de_call B T.mg_law_other (ca_law_other_2 T) (by decide) rfl (da_cons (dv B (i := 0)) (da_cons (dv B (i := 1)) da_nil)))) (dss_cons (ds_if (dtc (o_ne B) (de_bu B T.no_repr boo_repr (b_repr B) rfl (da_cons (de_lst (da_cons (de_fld B (dv B (i := 2))) (da_cons (de_fld B (dv B (i := 2))) (da_cons (de_fld B (dv B (i := 2))) (da_cons (de_fld B (dv B (i := 2))) (da_cons (de_fld B (dv B (i := 2))) (da_cons (de_fld B (dv B (i := 2))) (da_cons (de_fld B (dv B (i := 2))) da_nil)))))))) da_nil)) (de_bu B T.no_repr boo_repr (b_repr B) rfl (da_cons (dv B (i := 1)) da_nil))) (dss_one (ds_ret de_bl)) dss_nil) (dss_cons (ds_if (dw_or (dt_neO B (eq_Sent T) (by decide) (dv B (i := 2)) (dv B (i := 3))) (dw_or1 (dt_eqO B (eq_Sent T) (by decide) (dv B (i := 2)) (de_call B T.mg_c_Sent (ca_Sent___init___7 T) (by decide) rfl (da_cons (de_ix B (dv B (i := 4)) de_int) (da_cons (de_ix B (dv B (i := 4)) de_int) (da_cons (de_ix B (dv B (i := 4)) de_int) (da_cons (de_ix B (dv B (i := 4)) de_int) (da_cons (de_ix B (dv B (i := 4)) de_int) (da_cons (de_ix B (dv B (i := 4)) de_int) (da_cons (de_ix B (dv B (i := 4)) de_int) da_nil))))))))))).pt (dss_one (ds_ret de_bl)) dss_nil) (dss_one (ds_ret (de_notInO B (eq_Sent T) (by decide) (dv B (i := 2)) (de_lst (da_cons de_non (da_cons (dv B (i := 1)) (da_cons (de_ty B T.no_tuple boo_tuple (b_tuple B) rfl (da_cons (dv B (i := 1)) da_nil)) (da_cons (de_ix B (dv B (i := 1)) de_int) da_nil))))))))))))))
def sp_law_sent_right (c : Wd) (A : Ad) : DSp := fun ds n P R => ds.length = 1 ∧ t_law_sent_right c A (fnN P R) (startS N_law_sent_right ds n)
theorem ok_law_sent_right {c : Wd} {A : Ad} (T : Txt c A) : ∃ fd, Fun c.K "_law_sent_right" "_law_sent_right" s_law_sent_right A.f_law_sent_right fd ∧ FnG c 4 A.f_law_sent_right fd [("_law_pen_here" : Str)] (liftSp c (sp_law_sent_right c A)) := by
  obtain ⟨fd, F⟩ := T.F_law_sent_right
  exact ⟨fd, F, fn_ok (fun_d F) sc_law_sent_right (fun _ _ _ _ h => h.1) (dd_law_sent_right T) (fun _ _ _ _ h => h.2)⟩
def cs_law_arrival_right_1 (c : Wd) (A : Ad) : DSp2 := fun ds es m P R => ds.length = 1 ∧ (sp_law_arrival_right c A) ds m P R
theorem ca_law_arrival_right_1 {c : Wd} {A : Ad} (T : Txt c A) : Callee c (.ref A.f_law_arrival_right) [] 4 (cs_law_arrival_right_1 c A) := by
  obtain ⟨fd, F, G⟩ := ok_law_arrival_right T
  exact callee_fn G F.kp (shape_0 F fun _ _ _ _ _ _ us hl => match us, hl with | [_], _ => rfl)
def cs_law_turn_right_1 (c : Wd) (A : Ad) : DSp2 := fun ds es m P R => ds.length = 1 ∧ (sp_law_turn_right c A) ds m P R
theorem ca_law_turn_right_1 {c : Wd} {A : Ad} (T : Txt c A) : Callee c (.ref A.f_law_turn_right) [] 4 (cs_law_turn_right_1 c A) := by
  obtain ⟨fd, F, G⟩ := ok_law_turn_right T
  exact callee_fn G F.kp (shape_0 F fun _ _ _ _ _ _ us hl => match us, hl with | [_], _ => rfl)
def cs_law_sent_right_1 (c : Wd) (A : Ad) : DSp2 := fun ds es m P R => ds.length = 1 ∧ (sp_law_sent_right c A) ds m P R
theorem ca_law_sent_right_1 {c : Wd} {A : Ad} (T : Txt c A) : Callee c (.ref A.f_law_sent_right) [] 4 (cs_law_sent_right_1 c A) := by
  obtain ⟨fd, F, G⟩ := ok_law_sent_right T
  exact callee_fn G F.kp (shape_0 F fun _ _ _ _ _ _ us hl => match us, hl with | [_], _ => rfl)
/-! law -/
def N_law : List Str := [("_law_script" : Str), ("_law_pen_here" : Str), ("_law_lap" : Str)]
theorem sc_law : FnScope N_law [("_law_script" : Str)] (defScope s_law) := ⟨rfl, rfl, rfl, by decide +kernel, rfl, by decide +kernel, by decide +kernel⟩
def u_law_2 (c : Wd) (A : Ad) : DTS := dRet (dAndV (dBinF (oOwn c A.c_Turn (sp_Turn___eq__ c A) true) (dCall (fun ds zs n P R => zs = [] ∧ (cs_Turn___init___6 c A) ds [] n P R) (dCons (dC (.str ("a" : Str))) (dCons (dC (.int 0)) (dCons (dC (.int 0)) (dCons (dTup (dNil)) (dCons (dC (.int 0)) (dCons (dC (.bl false)) (dNil))))))) dNil) (dCall (fun ds zs n P R => zs = [] ∧ (cs_Sent___init___7 c A) ds [] n P R) (dCons (dC (.str ("a" : Str))) (dCons (dC (.int 0)) (dCons (dC (.int 0)) (dCons (dTup (dNil)) (dCons (dC (.int 0)) (dCons (dC (.int 0)) (dCons (dC (.int 0)) (dNil)))))))) dNil)) (dBinF (oOwn c A.c_Arrival (sp_Arrival___eq__ c A) false) (dCall (fun ds zs n P R => zs = [] ∧ (cs_Arrival___init___3 c A) ds [] n P R) (dCons (dC (.int 1)) (dCons (dC (.int 2)) (dCons (dC (.int 3)) (dNil)))) dNil) (dCall (fun ds zs n P R => zs = [] ∧ (cs_Arrival___init___3 c A) ds [] n P R) (dCons (dC (.int 1)) (dCons (dC (.int 2)) (dCons (dC (.int 3)) (dNil)))) dNil)))
def u_law_1 (c : Wd) (A : Ad) : DTS := dSeq (dIte (dOr (dTB (dBinF (oOwn c A.c_Arrival (sp_Arrival___eq__ c A) false) (dCall (fun ds zs n P R => zs = [] ∧ (cs_Arrival___init___3 c A) ds [] n P R) (dCons (dC (.int 0)) (dCons (dC (.str ("a" : Str))) (dCons (dTup (dCons (dC (.int 1)) (dNil))) (dNil)))) dNil) (dCall (fun ds zs n P R => zs = [] ∧ (cs_Arrival___init___3 c A) ds [] n P R) (dCons (dC (.int 0)) (dCons (dC (.str ("a" : Str))) (dCons (dLst (dCons (dC (.int 1)) (dNil))) (dNil)))) dNil))) (dTB (dBinF (oOwn c A.c_Arrival (sp_Arrival___eq__ c A) false) (dCall (fun ds zs n P R => zs = [] ∧ (cs_Arrival___init___3 c A) ds [] n P R) (dCons (dC (.int 1)) (dCons (dC (.int 2)) (dCons (dC (.int 3)) (dNil)))) dNil) (dCall (fun ds zs n P R => zs = [] ∧ (cs_Turn___init___6 c A) ds [] n P R) (dCons (dC (.int 1)) (dCons (dC (.int 2)) (dCons (dC (.int 3)) (dCons (dC (.int 4)) (dCons (dC (.int 5)) (dCons (dC (.int 6)) (dNil))))))) dNil)))) (dRet (dC (.bl false))) (dNext)) (u_law_2 c A)
def t_law (c : Wd) (A : Ad) : DTS := dSeq (dFor (dRng1 (dCons (dC (.int 10)) (dNil))) (gN 2) (dIte (dOr (dNot (dTB (dCall (fun ds zs n P R => zs = [] ∧ (cs_law_arrival_right_1 c A) ds [] n P R) (dCons (dVar 1) (dNil)) dNil))) (dOr (dNot (dTB (dCall (fun ds zs n P R => zs = [] ∧ (cs_law_turn_right_1 c A) ds [] n P R) (dCons (dVar 1) (dNil)) dNil))) (dNot (dTB (dCall (fun ds zs n P R => zs = [] ∧ (cs_law_sent_right_1 c A) ds [] n P R) (dCons (dVar 1) (dNil)) dNil))))) (dRet (dC (.bl false))) (dNext))) (u_law_1 c A)
theorem dd_law {c : Wd} {A : Ad} (T : Txt c A) (X : Cx) (cf : Fr) (W : WX) (ec : cf.toWd = c) (B : XB X cf W N_law (defScope s_law) 4 false) : DSs X cf W (List.drop 1 (defBody s_law)) (t_law c A) := by
  subst ec
  exact (dss_cons (ds_for B (di_range1 B rfl T.no_range (da_cons de_int da_nil)) (dgn B (i := 2)) (dss_one (ds_if (dw_or (dt_not (dt_val (de_call B T.mg_law_arrival_right (ca_law_arrival_right_1 T) (by decide) rfl (da_cons (dv B (i := 1)) da_nil)))) (dw_or (dt_not (dt_val (de_call B T.mg_law_turn_right (ca_law_turn_right_1 T) (by decide) rfl (da_cons (dv B (i := 1)) da_nil)))) (dw_or1 (dt_not (dt_val (de_call B T.mg_law_sent_right (ca_law_sent_right_1 T) (by decide) rfl (da_cons (dv B (i := 1)) da_nil))))))).pt (dss_one (ds_ret de_bl)) dss_nil))) (dss_cons (ds_if (dw_or (dt_eqO B (eq_Arrival T) (by decide) (de_call B T.mg_c_Arrival (ca_Arrival___init___3 T) (by decide) rfl (da_cons de_int (da_cons de_str (da_cons (de_tup (da_cons de_int da_nil)) da_nil)))) (de_call B T.mg_c_Arrival (ca_Arrival___init___3 T) (by decide) rfl (da_cons de_int (da_cons de_str (da_cons (de_lst (da_cons de_int da_nil)) da_nil))))) (dw_or1 (dt_eqO B (eq_Arrival T) (by decide) (de_call B T.mg_c_Arrival (ca_Arrival___init___3 T) (by decide) rfl (da_cons de_int (da_cons de_int (da_cons de_int da_nil)))) (de_call B T.mg_c_Turn (ca_Turn___init___6 T) (by decide) rfl (da_cons de_int (da_cons de_int (da_cons de_int (da_cons de_int (da_cons de_int (da_cons de_int da_nil)))))))))).pt (dss_one (ds_ret de_bl)) dss_nil) (dss_one (ds_ret (de_and (de_neO B (eq_Turn T) (by decide) (de_call B T.mg_c_Turn (ca_Turn___init___6 T) (by decide) rfl (da_cons de_str (da_cons de_int (da_cons de_int (da_cons (de_tup da_nil) (da_cons de_int (da_cons de_bl da_nil))))))) (de_call B T.mg_c_Sent (ca_Sent___init___7 T) (by decide) rfl (da_cons de_str (da_cons de_int (da_cons de_int (da_cons (de_tup da_nil) (da_cons de_int (da_cons de_int (da_cons de_int da_nil))))))))) (de_one (de_eqO B (eq_Arrival T) (by decide) (de_call B T.mg_c_Arrival (ca_Arrival___init___3 T) (by decide) rfl (da_cons de_int (da_cons de_int (da_cons de_int da_nil)))) (de_call B T.mg_c_Arrival (ca_Arrival___init___3 T) (by decide) rfl (da_cons de_int (da_cons de_int (da_cons de_int da_nil)))))))))))
theorem kn_Arrival {c : Wd} {A : Ad} (T : Txt c A) {y : D} (h : DL.plain y 40 = true) : tyD c y (fun t => PySem.W.kitOne c.K t (.ref A.c_Arrival) = some false) := by
  cases y <;> first | exact T.kb_Arrival_NoneType | exact T.kb_Arrival_bool | exact T.kb_Arrival_int | exact T.kb_Arrival_str | exact T.kb_Arrival_list | exact T.kb_Arrival_tuple | exact T.kb_Arrival_dict | simp [DL.plain] at h
theorem np_Arrival {c : Wd} {A : Ad} (T : Txt c A) {y : D} (h : DL.plain y 40 = true) : notF c A.c_Arrival y := by
  cases y <;> first | exact T.nf_Arrival_NoneType | exact T.nf_Arrival_bool | exact T.nf_Arrival_int | exact T.nf_Arrival_str | exact T.nf_Arrival_list | exact T.nf_Arrival_tuple | exact T.nf_Arrival_dict | simp [DL.plain] at h
theorem kn_Arrival_Arrival {c : Wd} {A : Ad} (T : Txt c A) {fs : List (Str × D)} : tyD c (.ins A.c_Arrival fs) (fun t => PySem.W.kitOne c.K t (.ref A.c_Arrival) = some true) := ⟨T.ci_Arrival, T.kc_Arrival_Arrival⟩
theorem np_Arrival_Arrival {c : Wd} {A : Ad} (T : Txt c A) {fs : List (Str × D)} : notF c A.c_Arrival (.ins A.c_Arrival fs) := ⟨T.ci_Arrival, T.nf_Arrival_c_Arrival⟩
theorem kn_Arrival_Turn {c : Wd} {A : Ad} (T : Txt c A) {fs : List (Str × D)} : tyD c (.ins A.c_Turn fs) (fun t => PySem.W.kitOne c.K t (.ref A.c_Arrival) = some false) := ⟨T.ci_Turn, T.kc_Arrival_Turn⟩
theorem np_Arrival_Turn {c : Wd} {A : Ad} (T : Txt c A) {fs : List (Str × D)} : notF c A.c_Arrival (.ins A.c_Turn fs) := ⟨T.ci_Turn, T.nf_Arrival_c_Turn⟩
theorem kn_Arrival_Sent {c : Wd} {A : Ad} (T : Txt c A) {fs : List (Str × D)} : tyD c (.ins A.c_Sent fs) (fun t => PySem.W.kitOne c.K t (.ref A.c_Arrival) = some false) := ⟨T.ci_Sent, T.kc_Arrival_Sent⟩
theorem np_Arrival_Sent {c : Wd} {A : Ad} (T : Txt c A) {fs : List (Str × D)} : notF c A.c_Arrival (.ins A.c_Sent fs) := ⟨T.ci_Sent, T.nf_Arrival_c_Sent⟩
theorem kn_Turn {c : Wd} {A : Ad} (T : Txt c A) {y : D} (h : DL.plain y 40 = true) : tyD c y (fun t => PySem.W.kitOne c.K t (.ref A.c_Turn) = some false) := by
  cases y <;> first | exact T.kb_Turn_NoneType | exact T.kb_Turn_bool | exact T.kb_Turn_int | exact T.kb_Turn_str | exact T.kb_Turn_list | exact T.kb_Turn_tuple | exact T.kb_Turn_dict | simp [DL.plain] at h
theorem np_Turn {c : Wd} {A : Ad} (T : Txt c A) {y : D} (h : DL.plain y 40 = true) : notF c A.c_Turn y := by
  cases y <;> first | exact T.nf_Turn_NoneType | exact T.nf_Turn_bool | exact T.nf_Turn_int | exact T.nf_Turn_str | exact T.nf_Turn_list | exact T.nf_Turn_tuple | exact T.nf_Turn_dict | simp [DL.plain] at h
theorem kn_Turn_Arrival {c : Wd} {A : Ad} (T : Txt c A) {fs : List (Str × D)} : tyD c (.ins A.c_Arrival fs) (fun t => PySem.W.kitOne c.K t (.ref A.c_Turn) = some false) := ⟨T.ci_Arrival, T.kc_Turn_Arrival⟩
theorem np_Turn_Arrival {c : Wd} {A : Ad} (T : Txt c A) {fs : List (Str × D)} : notF c A.c_Turn (.ins A.c_Arrival fs) := ⟨T.ci_Arrival, T.nf_Turn_c_Arrival⟩
theorem kn_Turn_Turn {c : Wd} {A : Ad} (T : Txt c A) {fs : List (Str × D)} : tyD c (.ins A.c_Turn fs) (fun t => PySem.W.kitOne c.K t (.ref A.c_Turn) = some true) := ⟨T.ci_Turn, T.kc_Turn_Turn⟩
theorem np_Turn_Turn {c : Wd} {A : Ad} (T : Txt c A) {fs : List (Str × D)} : notF c A.c_Turn (.ins A.c_Turn fs) := ⟨T.ci_Turn, T.nf_Turn_c_Turn⟩
theorem kn_Turn_Sent {c : Wd} {A : Ad} (T : Txt c A) {fs : List (Str × D)} : tyD c (.ins A.c_Sent fs) (fun t => PySem.W.kitOne c.K t (.ref A.c_Turn) = some false) := ⟨T.ci_Sent, T.kc_Turn_Sent⟩
theorem np_Turn_Sent {c : Wd} {A : Ad} (T : Txt c A) {fs : List (Str × D)} : notF c A.c_Turn (.ins A.c_Sent fs) := ⟨T.ci_Sent, T.nf_Turn_c_Sent⟩
theorem kn_Sent {c : Wd} {A : Ad} (T : Txt c A) {y : D} (h : DL.plain y 40 = true) : tyD c y (fun t => PySem.W.kitOne c.K t (.ref A.c_Sent) = some false) := by
  cases y <;> first | exact T.kb_Sent_NoneType | exact T.kb_Sent_bool | exact T.kb_Sent_int | exact T.kb_Sent_str | exact T.kb_Sent_list | exact T.kb_Sent_tuple | exact T.kb_Sent_dict | simp [DL.plain] at h
theorem np_Sent {c : Wd} {A : Ad} (T : Txt c A) {y : D} (h : DL.plain y 40 = true) : notF c A.c_Sent y := by
  cases y <;> first | exact T.nf_Sent_NoneType | exact T.nf_Sent_bool | exact T.nf_Sent_int | exact T.nf_Sent_str | exact T.nf_Sent_list | exact T.nf_Sent_tuple | exact T.nf_Sent_dict | simp [DL.plain] at h
theorem kn_Sent_Arrival {c : Wd} {A : Ad} (T : Txt c A) {fs : List (Str × D)} : tyD c (.ins A.c_Arrival fs) (fun t => PySem.W.kitOne c.K t (.ref A.c_Sent) = some false) := ⟨T.ci_Arrival, T.kc_Sent_Arrival⟩
theorem np_Sent_Arrival {c : Wd} {A : Ad} (T : Txt c A) {fs : List (Str × D)} : notF c A.c_Sent (.ins A.c_Arrival fs) := ⟨T.ci_Arrival, T.nf_Sent_c_Arrival⟩
theorem kn_Sent_Turn {c : Wd} {A : Ad} (T : Txt c A) {fs : List (Str × D)} : tyD c (.ins A.c_Turn fs) (fun t => PySem.W.kitOne c.K t (.ref A.c_Sent) = some false) := ⟨T.ci_Turn, T.kc_Sent_Turn⟩
theorem np_Sent_Turn {c : Wd} {A : Ad} (T : Txt c A) {fs : List (Str × D)} : notF c A.c_Sent (.ins A.c_Turn fs) := ⟨T.ci_Turn, T.nf_Sent_c_Turn⟩
theorem kn_Sent_Sent {c : Wd} {A : Ad} (T : Txt c A) {fs : List (Str × D)} : tyD c (.ins A.c_Sent fs) (fun t => PySem.W.kitOne c.K t (.ref A.c_Sent) = some true) := ⟨T.ci_Sent, T.kc_Sent_Sent⟩
theorem np_Sent_Sent {c : Wd} {A : Ad} (T : Txt c A) {fs : List (Str × D)} : notF c A.c_Sent (.ins A.c_Sent fs) := ⟨T.ci_Sent, T.nf_Sent_c_Sent⟩
theorem txt {P : Program} {w : World} {K : PySem.W.Frag} {mg : Str → Option Value} {base h : Heap} {p : Addr} {cs : List Int} {a_Arrival___init__ a_Arrival___eq__ a_Turn___init__ a_Turn___eq__ a_Sent___init__ a_Sent___eq__ a_law_pen a_law_draw a_law_pick a_law_parts a_law_other a_law_arrival_right a_law_turn_right a_law_sent_right a_law b_Arrival b_Turn b_Sent : Addr} (X : K.In h) (G : h.Ns mainGlobals mg)
    {oc_Arrival___init__ kV_Arrival___init__ dc_Arrival___init__ pm_Arrival___init__ cd_Arrival___init__ ct_Arrival___init__ : Value} {od_Arrival___init__ an_Arrival___init__ : Option Addr} {sl_Arrival___init__ : Array (Option Value)}
    {oc_Arrival___eq__ kV_Arrival___eq__ dc_Arrival___eq__ pm_Arrival___eq__ cd_Arrival___eq__ ct_Arrival___eq__ : Value} {od_Arrival___eq__ an_Arrival___eq__ : Option Addr} {sl_Arrival___eq__ : Array (Option Value)}
    {oc_Turn___init__ kV_Turn___init__ dc_Turn___init__ pm_Turn___init__ cd_Turn___init__ ct_Turn___init__ : Value} {od_Turn___init__ an_Turn___init__ : Option Addr} {sl_Turn___init__ : Array (Option Value)}
    {oc_Turn___eq__ kV_Turn___eq__ dc_Turn___eq__ pm_Turn___eq__ cd_Turn___eq__ ct_Turn___eq__ : Value} {od_Turn___eq__ an_Turn___eq__ : Option Addr} {sl_Turn___eq__ : Array (Option Value)}
    {oc_Sent___init__ kV_Sent___init__ dc_Sent___init__ pm_Sent___init__ cd_Sent___init__ ct_Sent___init__ : Value} {od_Sent___init__ an_Sent___init__ : Option Addr} {sl_Sent___init__ : Array (Option Value)}
    {oc_Sent___eq__ kV_Sent___eq__ dc_Sent___eq__ pm_Sent___eq__ cd_Sent___eq__ ct_Sent___eq__ : Value} {od_Sent___eq__ an_Sent___eq__ : Option Addr} {sl_Sent___eq__ : Array (Option Value)}
    {oc_law_pen kV_law_pen dc_law_pen pm_law_pen cd_law_pen ct_law_pen : Value} {od_law_pen an_law_pen : Option Addr} {sl_law_pen : Array (Option Value)}
    {oc_law_draw kV_law_draw dc_law_draw pm_law_draw cd_law_draw ct_law_draw : Value} {od_law_draw an_law_draw : Option Addr} {sl_law_draw : Array (Option Value)}
    {oc_law_pick kV_law_pick dc_law_pick pm_law_pick cd_law_pick ct_law_pick : Value} {od_law_pick an_law_pick : Option Addr} {sl_law_pick : Array (Option Value)}
    {oc_law_parts kV_law_parts dc_law_parts pm_law_parts cd_law_parts ct_law_parts : Value} {od_law_parts an_law_parts : Option Addr} {sl_law_parts : Array (Option Value)}
    {oc_law_other kV_law_other dc_law_other pm_law_other cd_law_other ct_law_other : Value} {od_law_other an_law_other : Option Addr} {sl_law_other : Array (Option Value)}
    {oc_law_arrival_right kV_law_arrival_right dc_law_arrival_right pm_law_arrival_right cd_law_arrival_right ct_law_arrival_right : Value} {od_law_arrival_right an_law_arrival_right : Option Addr} {sl_law_arrival_right : Array (Option Value)}
    {oc_law_turn_right kV_law_turn_right dc_law_turn_right pm_law_turn_right cd_law_turn_right ct_law_turn_right : Value} {od_law_turn_right an_law_turn_right : Option Addr} {sl_law_turn_right : Array (Option Value)}
    {oc_law_sent_right kV_law_sent_right dc_law_sent_right pm_law_sent_right cd_law_sent_right ct_law_sent_right : Value} {od_law_sent_right an_law_sent_right : Option Addr} {sl_law_sent_right : Array (Option Value)}
    {oc_law kV_law dc_law pm_law cd_law ct_law : Value} {od_law an_law : Option Addr} {sl_law : Array (Option Value)}
    (h_g_Arrival : PySem.W.nsIn K mainGlobals "Arrival" = some (some (.ref b_Arrival)))
    (h_g_Turn : PySem.W.nsIn K mainGlobals "Turn" = some (some (.ref b_Turn)))
    (h_g_Sent : PySem.W.nsIn K mainGlobals "Sent" = some (some (.ref b_Sent)))
    (h_cg : PySem.W.specialIn K (.builtin "object.__class__") "__get__" = some (some (.builtin "getset_descriptor.__get__")))
    (h_ct : PySem.W.takesIn K (.builtin "object.__class__") = some true)
    (h_no_abs : PySem.W.nsIn K mainGlobals "abs" = some none)
    (h_no_int : PySem.W.nsIn K mainGlobals "int" = some none)
    (h_no_isinstance : PySem.W.nsIn K mainGlobals "isinstance" = some none)
    (h_no_len : PySem.W.nsIn K mainGlobals "len" = some none)
    (h_no_list : PySem.W.nsIn K mainGlobals "list" = some none)
    (h_no_range : PySem.W.nsIn K mainGlobals "range" = some none)
    (h_no_repr : PySem.W.nsIn K mainGlobals "repr" = some none)
    (h_no_tuple : PySem.W.nsIn K mainGlobals "tuple" = some none)
    (h_a_Arrival___init__ : PySem.W.findIn K (.ref b_Arrival) "__init__" = some (some (.ref a_Arrival___init__)))
    (h_i_Arrival___init__ : PySem.W.isFn K (.ref a_Arrival___init__) = true)
    (h_l_Arrival___init__ : K.lookup a_Arrival___init__ = some ⟨oc_Arrival___init__, od_Arrival___init__, .func (PySem.W.fnOf "__init__" "Arrival.__init__" (defArgs s_Arrival___init__) (defBody s_Arrival___init__) (defScope s_Arrival___init__) .none kV_Arrival___init__ dc_Arrival___init__ pm_Arrival___init__ an_Arrival___init__ cd_Arrival___init__ ct_Arrival___init__), sl_Arrival___init__⟩)
    (h_c_Arrival___init__ : PySem.W.codeIn K cd_Arrival___init__ "Arrival.__init__" = true)
    (h_k_Arrival___init__ : PySem.W.keepIn K (.ref a_Arrival___init__) = true)
    (h_a_Arrival___eq__ : PySem.W.findIn K (.ref b_Arrival) "__eq__" = some (some (.ref a_Arrival___eq__)))
    (h_i_Arrival___eq__ : PySem.W.isFn K (.ref a_Arrival___eq__) = true)
    (h_l_Arrival___eq__ : K.lookup a_Arrival___eq__ = some ⟨oc_Arrival___eq__, od_Arrival___eq__, .func (PySem.W.fnOf "__eq__" "Arrival.__eq__" (defArgs s_Arrival___eq__) (defBody s_Arrival___eq__) (defScope s_Arrival___eq__) .none kV_Arrival___eq__ dc_Arrival___eq__ pm_Arrival___eq__ an_Arrival___eq__ cd_Arrival___eq__ ct_Arrival___eq__), sl_Arrival___eq__⟩)
    (h_c_Arrival___eq__ : PySem.W.codeIn K cd_Arrival___eq__ "Arrival.__eq__" = true)
    (h_k_Arrival___eq__ : PySem.W.keepIn K (.ref a_Arrival___eq__) = true)
    (h_a_Turn___init__ : PySem.W.findIn K (.ref b_Turn) "__init__" = some (some (.ref a_Turn___init__)))
    (h_i_Turn___init__ : PySem.W.isFn K (.ref a_Turn___init__) = true)
    (h_l_Turn___init__ : K.lookup a_Turn___init__ = some ⟨oc_Turn___init__, od_Turn___init__, .func (PySem.W.fnOf "__init__" "Turn.__init__" (defArgs s_Turn___init__) (defBody s_Turn___init__) (defScope s_Turn___init__) .none kV_Turn___init__ dc_Turn___init__ pm_Turn___init__ an_Turn___init__ cd_Turn___init__ ct_Turn___init__), sl_Turn___init__⟩)
    (h_c_Turn___init__ : PySem.W.codeIn K cd_Turn___init__ "Turn.__init__" = true)
    (h_k_Turn___init__ : PySem.W.keepIn K (.ref a_Turn___init__) = true)
    (h_a_Turn___eq__ : PySem.W.findIn K (.ref b_Turn) "__eq__" = some (some (.ref a_Turn___eq__)))
    (h_i_Turn___eq__ : PySem.W.isFn K (.ref a_Turn___eq__) = true)
    (h_l_Turn___eq__ : K.lookup a_Turn___eq__ = some ⟨oc_Turn___eq__, od_Turn___eq__, .func (PySem.W.fnOf "__eq__" "Turn.__eq__" (defArgs s_Turn___eq__) (defBody s_Turn___eq__) (defScope s_Turn___eq__) .none kV_Turn___eq__ dc_Turn___eq__ pm_Turn___eq__ an_Turn___eq__ cd_Turn___eq__ ct_Turn___eq__), sl_Turn___eq__⟩)
    (h_c_Turn___eq__ : PySem.W.codeIn K cd_Turn___eq__ "Turn.__eq__" = true)
    (h_k_Turn___eq__ : PySem.W.keepIn K (.ref a_Turn___eq__) = true)
    (h_a_Sent___init__ : PySem.W.findIn K (.ref b_Sent) "__init__" = some (some (.ref a_Sent___init__)))
    (h_i_Sent___init__ : PySem.W.isFn K (.ref a_Sent___init__) = true)
    (h_l_Sent___init__ : K.lookup a_Sent___init__ = some ⟨oc_Sent___init__, od_Sent___init__, .func (PySem.W.fnOf "__init__" "Sent.__init__" (defArgs s_Sent___init__) (defBody s_Sent___init__) (defScope s_Sent___init__) .none kV_Sent___init__ dc_Sent___init__ pm_Sent___init__ an_Sent___init__ cd_Sent___init__ ct_Sent___init__), sl_Sent___init__⟩)
    (h_c_Sent___init__ : PySem.W.codeIn K cd_Sent___init__ "Sent.__init__" = true)
    (h_k_Sent___init__ : PySem.W.keepIn K (.ref a_Sent___init__) = true)
    (h_a_Sent___eq__ : PySem.W.findIn K (.ref b_Sent) "__eq__" = some (some (.ref a_Sent___eq__)))
    (h_i_Sent___eq__ : PySem.W.isFn K (.ref a_Sent___eq__) = true)
    (h_l_Sent___eq__ : K.lookup a_Sent___eq__ = some ⟨oc_Sent___eq__, od_Sent___eq__, .func (PySem.W.fnOf "__eq__" "Sent.__eq__" (defArgs s_Sent___eq__) (defBody s_Sent___eq__) (defScope s_Sent___eq__) .none kV_Sent___eq__ dc_Sent___eq__ pm_Sent___eq__ an_Sent___eq__ cd_Sent___eq__ ct_Sent___eq__), sl_Sent___eq__⟩)
    (h_c_Sent___eq__ : PySem.W.codeIn K cd_Sent___eq__ "Sent.__eq__" = true)
    (h_k_Sent___eq__ : PySem.W.keepIn K (.ref a_Sent___eq__) = true)
    (h_a_law_pen : PySem.W.nsIn K mainGlobals "_law_pen" = some (some (.ref a_law_pen)))
    (h_l_law_pen : K.lookup a_law_pen = some ⟨oc_law_pen, od_law_pen, .func (PySem.W.fnOf "_law_pen" "_law_pen" (defArgs s_law_pen) (defBody s_law_pen) (defScope s_law_pen) .none kV_law_pen dc_law_pen pm_law_pen an_law_pen cd_law_pen ct_law_pen), sl_law_pen⟩)
    (h_c_law_pen : PySem.W.codeIn K cd_law_pen "_law_pen" = true)
    (h_k_law_pen : PySem.W.keepIn K (.ref a_law_pen) = true)
    (h_a_law_draw : PySem.W.nsIn K mainGlobals "_law_draw" = some (some (.ref a_law_draw)))
    (h_l_law_draw : K.lookup a_law_draw = some ⟨oc_law_draw, od_law_draw, .func (PySem.W.fnOf "_law_draw" "_law_draw" (defArgs s_law_draw) (defBody s_law_draw) (defScope s_law_draw) .none kV_law_draw dc_law_draw pm_law_draw an_law_draw cd_law_draw ct_law_draw), sl_law_draw⟩)
    (h_c_law_draw : PySem.W.codeIn K cd_law_draw "_law_draw" = true)
    (h_k_law_draw : PySem.W.keepIn K (.ref a_law_draw) = true)
    (h_a_law_pick : PySem.W.nsIn K mainGlobals "_law_pick" = some (some (.ref a_law_pick)))
    (h_l_law_pick : K.lookup a_law_pick = some ⟨oc_law_pick, od_law_pick, .func (PySem.W.fnOf "_law_pick" "_law_pick" (defArgs s_law_pick) (defBody s_law_pick) (defScope s_law_pick) .none kV_law_pick dc_law_pick pm_law_pick an_law_pick cd_law_pick ct_law_pick), sl_law_pick⟩)
    (h_c_law_pick : PySem.W.codeIn K cd_law_pick "_law_pick" = true)
    (h_k_law_pick : PySem.W.keepIn K (.ref a_law_pick) = true)
    (h_a_law_parts : PySem.W.nsIn K mainGlobals "_law_parts" = some (some (.ref a_law_parts)))
    (h_l_law_parts : K.lookup a_law_parts = some ⟨oc_law_parts, od_law_parts, .func (PySem.W.fnOf "_law_parts" "_law_parts" (defArgs s_law_parts) (defBody s_law_parts) (defScope s_law_parts) .none kV_law_parts dc_law_parts pm_law_parts an_law_parts cd_law_parts ct_law_parts), sl_law_parts⟩)
    (h_c_law_parts : PySem.W.codeIn K cd_law_parts "_law_parts" = true)
    (h_k_law_parts : PySem.W.keepIn K (.ref a_law_parts) = true)
    (h_a_law_other : PySem.W.nsIn K mainGlobals "_law_other" = some (some (.ref a_law_other)))
    (h_l_law_other : K.lookup a_law_other = some ⟨oc_law_other, od_law_other, .func (PySem.W.fnOf "_law_other" "_law_other" (defArgs s_law_other) (defBody s_law_other) (defScope s_law_other) .none kV_law_other dc_law_other pm_law_other an_law_other cd_law_other ct_law_other), sl_law_other⟩)
    (h_c_law_other : PySem.W.codeIn K cd_law_other "_law_other" = true)
    (h_k_law_other : PySem.W.keepIn K (.ref a_law_other) = true)
    (h_a_law_arrival_right : PySem.W.nsIn K mainGlobals "_law_arrival_right" = some (some (.ref a_law_arrival_right)))
    (h_l_law_arrival_right : K.lookup a_law_arrival_right = some ⟨oc_law_arrival_right, od_law_arrival_right, .func (PySem.W.fnOf "_law_arrival_right" "_law_arrival_right" (defArgs s_law_arrival_right) (defBody s_law_arrival_right) (defScope s_law_arrival_right) .none kV_law_arrival_right dc_law_arrival_right pm_law_arrival_right an_law_arrival_right cd_law_arrival_right ct_law_arrival_right), sl_law_arrival_right⟩)
    (h_c_law_arrival_right : PySem.W.codeIn K cd_law_arrival_right "_law_arrival_right" = true)
    (h_k_law_arrival_right : PySem.W.keepIn K (.ref a_law_arrival_right) = true)
    (h_a_law_turn_right : PySem.W.nsIn K mainGlobals "_law_turn_right" = some (some (.ref a_law_turn_right)))
    (h_l_law_turn_right : K.lookup a_law_turn_right = some ⟨oc_law_turn_right, od_law_turn_right, .func (PySem.W.fnOf "_law_turn_right" "_law_turn_right" (defArgs s_law_turn_right) (defBody s_law_turn_right) (defScope s_law_turn_right) .none kV_law_turn_right dc_law_turn_right pm_law_turn_right an_law_turn_right cd_law_turn_right ct_law_turn_right), sl_law_turn_right⟩)
    (h_c_law_turn_right : PySem.W.codeIn K cd_law_turn_right "_law_turn_right" = true)
    (h_k_law_turn_right : PySem.W.keepIn K (.ref a_law_turn_right) = true)
    (h_a_law_sent_right : PySem.W.nsIn K mainGlobals "_law_sent_right" = some (some (.ref a_law_sent_right)))
    (h_l_law_sent_right : K.lookup a_law_sent_right = some ⟨oc_law_sent_right, od_law_sent_right, .func (PySem.W.fnOf "_law_sent_right" "_law_sent_right" (defArgs s_law_sent_right) (defBody s_law_sent_right) (defScope s_law_sent_right) .none kV_law_sent_right dc_law_sent_right pm_law_sent_right an_law_sent_right cd_law_sent_right ct_law_sent_right), sl_law_sent_right⟩)
    (h_c_law_sent_right : PySem.W.codeIn K cd_law_sent_right "_law_sent_right" = true)
    (h_k_law_sent_right : PySem.W.keepIn K (.ref a_law_sent_right) = true)
    (h_a_law : PySem.W.nsIn K mainGlobals "law" = some (some (.ref a_law)))
    (h_l_law : K.lookup a_law = some ⟨oc_law, od_law, .func (PySem.W.fnOf "law" "law" (defArgs s_law) (defBody s_law) (defScope s_law) .none kV_law dc_law pm_law an_law cd_law ct_law), sl_law⟩)
    (h_c_law : PySem.W.codeIn K cd_law "law" = true)
    (h_k_law : PySem.W.keepIn K (.ref a_law) = true)
    (h_mk_Arrival : PySem.W.makesIn K b_Arrival = true)
    (h_kc_Arrival : PySem.W.keepIn K (.ref b_Arrival) = true)
    (h_pg_Arrival : PySem.W.plainGet K b_Arrival Str.empty = true)
    (h_hd_Arrival : PySem.W.hasDictIn K b_Arrival = true)
    (h_po_Arrival : PySem.W.plainOver K b_Arrival = true)
    (h_sa_Arrival : PySem.W.findIn K (.ref b_Arrival) "__setattr__" = some (some (.builtin "object.__setattr__")))
    (h_cc_Arrival : PySem.W.findIn K (.ref b_Arrival) "__class__" = some (some (.builtin "object.__class__")))
    (h_ob_Arrival : PySem.W.mroIn K b_Arrival (.type "object") = some true)
    (h_ne_Arrival : PySem.W.findIn K (.ref b_Arrival) "__ne__" = some (some (.builtin "object.__ne__")))
    (h_bt_Arrival_NoneType : PySem.W.mroIn K b_Arrival (.type "NoneType") = some false)
    (h_bt_Arrival_bool : PySem.W.mroIn K b_Arrival (.type "bool") = some false)
    (h_bt_Arrival_int : PySem.W.mroIn K b_Arrival (.type "int") = some false)
    (h_bt_Arrival_str : PySem.W.mroIn K b_Arrival (.type "str") = some false)
    (h_bt_Arrival_list : PySem.W.mroIn K b_Arrival (.type "list") = some false)
    (h_bt_Arrival_tuple : PySem.W.mroIn K b_Arrival (.type "tuple") = some false)
    (h_bt_Arrival_dict : PySem.W.mroIn K b_Arrival (.type "dict") = some false)
    (h_na_Arrival_moment : PySem.W.findIn K (.ref b_Arrival) "moment" = some none)
    (h_na_Arrival_name : PySem.W.findIn K (.ref b_Arrival) "name" = some none)
    (h_na_Arrival_length : PySem.W.findIn K (.ref b_Arrival) "length" = some none)
    (h_kb_Arrival_NoneType : PySem.W.kitOne K (.type "NoneType") (.ref b_Arrival) = some false)
    (h_nf_Arrival_NoneType : PySem.W.notFirst K b_Arrival (.type "NoneType") = true)
    (h_kb_Arrival_bool : PySem.W.kitOne K (.type "bool") (.ref b_Arrival) = some false)
    (h_nf_Arrival_bool : PySem.W.notFirst K b_Arrival (.type "bool") = true)
    (h_kb_Arrival_int : PySem.W.kitOne K (.type "int") (.ref b_Arrival) = some false)
    (h_nf_Arrival_int : PySem.W.notFirst K b_Arrival (.type "int") = true)
    (h_kb_Arrival_str : PySem.W.kitOne K (.type "str") (.ref b_Arrival) = some false)
    (h_nf_Arrival_str : PySem.W.notFirst K b_Arrival (.type "str") = true)
    (h_kb_Arrival_list : PySem.W.kitOne K (.type "list") (.ref b_Arrival) = some false)
    (h_nf_Arrival_list : PySem.W.notFirst K b_Arrival (.type "list") = true)
    (h_kb_Arrival_tuple : PySem.W.kitOne K (.type "tuple") (.ref b_Arrival) = some false)
    (h_nf_Arrival_tuple : PySem.W.notFirst K b_Arrival (.type "tuple") = true)
    (h_kb_Arrival_dict : PySem.W.kitOne K (.type "dict") (.ref b_Arrival) = some false)
    (h_nf_Arrival_dict : PySem.W.notFirst K b_Arrival (.type "dict") = true)
    (h_kc_Arrival_Arrival : PySem.W.kitOne K (.ref b_Arrival) (.ref b_Arrival) = some true)
    (h_nf_Arrival_c_Arrival : PySem.W.notFirst K b_Arrival (.ref b_Arrival) = true)
    (h_kc_Arrival_Turn : PySem.W.kitOne K (.ref b_Turn) (.ref b_Arrival) = some false)
    (h_nf_Arrival_c_Turn : PySem.W.notFirst K b_Arrival (.ref b_Turn) = true)
    (h_kc_Arrival_Sent : PySem.W.kitOne K (.ref b_Sent) (.ref b_Arrival) = some false)
    (h_nf_Arrival_c_Sent : PySem.W.notFirst K b_Arrival (.ref b_Sent) = true)
    (h_mk_Turn : PySem.W.makesIn K b_Turn = true)
    (h_kc_Turn : PySem.W.keepIn K (.ref b_Turn) = true)
    (h_pg_Turn : PySem.W.plainGet K b_Turn Str.empty = true)
    (h_hd_Turn : PySem.W.hasDictIn K b_Turn = true)
    (h_po_Turn : PySem.W.plainOver K b_Turn = true)
    (h_sa_Turn : PySem.W.findIn K (.ref b_Turn) "__setattr__" = some (some (.builtin "object.__setattr__")))
    (h_cc_Turn : PySem.W.findIn K (.ref b_Turn) "__class__" = some (some (.builtin "object.__class__")))
    (h_ob_Turn : PySem.W.mroIn K b_Turn (.type "object") = some true)
    (h_ne_Turn : PySem.W.findIn K (.ref b_Turn) "__ne__" = some (some (.builtin "object.__ne__")))
    (h_bt_Turn_NoneType : PySem.W.mroIn K b_Turn (.type "NoneType") = some false)
    (h_bt_Turn_bool : PySem.W.mroIn K b_Turn (.type "bool") = some false)
    (h_bt_Turn_int : PySem.W.mroIn K b_Turn (.type "int") = some false)
    (h_bt_Turn_str : PySem.W.mroIn K b_Turn (.type "str") = some false)
    (h_bt_Turn_list : PySem.W.mroIn K b_Turn (.type "list") = some false)
    (h_bt_Turn_tuple : PySem.W.mroIn K b_Turn (.type "tuple") = some false)
    (h_bt_Turn_dict : PySem.W.mroIn K b_Turn (.type "dict") = some false)
    (h_na_Turn_name : PySem.W.findIn K (.ref b_Turn) "name" = some none)
    (h_na_Turn_moment : PySem.W.findIn K (.ref b_Turn) "moment" = some none)
    (h_na_Turn_credit : PySem.W.findIn K (.ref b_Turn) "credit" = some none)
    (h_na_Turn_lengths : PySem.W.findIn K (.ref b_Turn) "lengths" = some none)
    (h_na_Turn_rest : PySem.W.findIn K (.ref b_Turn) "rest" = some none)
    (h_na_Turn_is_left : PySem.W.findIn K (.ref b_Turn) "is_left" = some none)
    (h_kb_Turn_NoneType : PySem.W.kitOne K (.type "NoneType") (.ref b_Turn) = some false)
    (h_nf_Turn_NoneType : PySem.W.notFirst K b_Turn (.type "NoneType") = true)
    (h_kb_Turn_bool : PySem.W.kitOne K (.type "bool") (.ref b_Turn) = some false)
    (h_nf_Turn_bool : PySem.W.notFirst K b_Turn (.type "bool") = true)
    (h_kb_Turn_int : PySem.W.kitOne K (.type "int") (.ref b_Turn) = some false)
    (h_nf_Turn_int : PySem.W.notFirst K b_Turn (.type "int") = true)
    (h_kb_Turn_str : PySem.W.kitOne K (.type "str") (.ref b_Turn) = some false)
    (h_nf_Turn_str : PySem.W.notFirst K b_Turn (.type "str") = true)
    (h_kb_Turn_list : PySem.W.kitOne K (.type "list") (.ref b_Turn) = some false)
    (h_nf_Turn_list : PySem.W.notFirst K b_Turn (.type "list") = true)
    (h_kb_Turn_tuple : PySem.W.kitOne K (.type "tuple") (.ref b_Turn) = some false)
    (h_nf_Turn_tuple : PySem.W.notFirst K b_Turn (.type "tuple") = true)
    (h_kb_Turn_dict : PySem.W.kitOne K (.type "dict") (.ref b_Turn) = some false)
    (h_nf_Turn_dict : PySem.W.notFirst K b_Turn (.type "dict") = true)
    (h_kc_Turn_Arrival : PySem.W.kitOne K (.ref b_Arrival) (.ref b_Turn) = some false)
    (h_nf_Turn_c_Arrival : PySem.W.notFirst K b_Turn (.ref b_Arrival) = true)
    (h_kc_Turn_Turn : PySem.W.kitOne K (.ref b_Turn) (.ref b_Turn) = some true)
    (h_nf_Turn_c_Turn : PySem.W.notFirst K b_Turn (.ref b_Turn) = true)
    (h_kc_Turn_Sent : PySem.W.kitOne K (.ref b_Sent) (.ref b_Turn) = some false)
    (h_nf_Turn_c_Sent : PySem.W.notFirst K b_Turn (.ref b_Sent) = true)
    (h_mk_Sent : PySem.W.makesIn K b_Sent = true)
    (h_kc_Sent : PySem.W.keepIn K (.ref b_Sent) = true)
    (h_pg_Sent : PySem.W.plainGet K b_Sent Str.empty = true)
    (h_hd_Sent : PySem.W.hasDictIn K b_Sent = true)
    (h_po_Sent : PySem.W.plainOver K b_Sent = true)
    (h_sa_Sent : PySem.W.findIn K (.ref b_Sent) "__setattr__" = some (some (.builtin "object.__setattr__")))
    (h_cc_Sent : PySem.W.findIn K (.ref b_Sent) "__class__" = some (some (.builtin "object.__class__")))
    (h_ob_Sent : PySem.W.mroIn K b_Sent (.type "object") = some true)
    (h_ne_Sent : PySem.W.findIn K (.ref b_Sent) "__ne__" = some (some (.builtin "object.__ne__")))
    (h_bt_Sent_NoneType : PySem.W.mroIn K b_Sent (.type "NoneType") = some false)
    (h_bt_Sent_bool : PySem.W.mroIn K b_Sent (.type "bool") = some false)
    (h_bt_Sent_int : PySem.W.mroIn K b_Sent (.type "int") = some false)
    (h_bt_Sent_str : PySem.W.mroIn K b_Sent (.type "str") = some false)
    (h_bt_Sent_list : PySem.W.mroIn K b_Sent (.type "list") = some false)
    (h_bt_Sent_tuple : PySem.W.mroIn K b_Sent (.type "tuple") = some false)
    (h_bt_Sent_dict : PySem.W.mroIn K b_Sent (.type "dict") = some false)
    (h_na_Sent_name : PySem.W.findIn K (.ref b_Sent) "name" = some none)
    (h_na_Sent_number : PySem.W.findIn K (.ref b_Sent) "number" = some none)
    (h_na_Sent_length : PySem.W.findIn K (.ref b_Sent) "length" = some none)
    (h_na_Sent_came : PySem.W.findIn K (.ref b_Sent) "came" = some none)
    (h_na_Sent_ended : PySem.W.findIn K (.ref b_Sent) "ended" = some none)
    (h_na_Sent_turn : PySem.W.findIn K (.ref b_Sent) "turn" = some none)
    (h_na_Sent_bits : PySem.W.findIn K (.ref b_Sent) "bits" = some none)
    (h_kb_Sent_NoneType : PySem.W.kitOne K (.type "NoneType") (.ref b_Sent) = some false)
    (h_nf_Sent_NoneType : PySem.W.notFirst K b_Sent (.type "NoneType") = true)
    (h_kb_Sent_bool : PySem.W.kitOne K (.type "bool") (.ref b_Sent) = some false)
    (h_nf_Sent_bool : PySem.W.notFirst K b_Sent (.type "bool") = true)
    (h_kb_Sent_int : PySem.W.kitOne K (.type "int") (.ref b_Sent) = some false)
    (h_nf_Sent_int : PySem.W.notFirst K b_Sent (.type "int") = true)
    (h_kb_Sent_str : PySem.W.kitOne K (.type "str") (.ref b_Sent) = some false)
    (h_nf_Sent_str : PySem.W.notFirst K b_Sent (.type "str") = true)
    (h_kb_Sent_list : PySem.W.kitOne K (.type "list") (.ref b_Sent) = some false)
    (h_nf_Sent_list : PySem.W.notFirst K b_Sent (.type "list") = true)
    (h_kb_Sent_tuple : PySem.W.kitOne K (.type "tuple") (.ref b_Sent) = some false)
    (h_nf_Sent_tuple : PySem.W.notFirst K b_Sent (.type "tuple") = true)
    (h_kb_Sent_dict : PySem.W.kitOne K (.type "dict") (.ref b_Sent) = some false)
    (h_nf_Sent_dict : PySem.W.notFirst K b_Sent (.type "dict") = true)
    (h_kc_Sent_Arrival : PySem.W.kitOne K (.ref b_Arrival) (.ref b_Sent) = some false)
    (h_nf_Sent_c_Arrival : PySem.W.notFirst K b_Sent (.ref b_Arrival) = true)
    (h_kc_Sent_Turn : PySem.W.kitOne K (.ref b_Turn) (.ref b_Sent) = some false)
    (h_nf_Sent_c_Turn : PySem.W.notFirst K b_Sent (.ref b_Turn) = true)
    (h_kc_Sent_Sent : PySem.W.kitOne K (.ref b_Sent) (.ref b_Sent) = some true)
    (h_nf_Sent_c_Sent : PySem.W.notFirst K b_Sent (.ref b_Sent) = true) :
    Txt (lawWd P w K mg base p cs) ⟨a_Arrival___init__, a_Arrival___eq__, a_Turn___init__, a_Turn___eq__, a_Sent___init__, a_Sent___eq__, a_law_pen, a_law_draw, a_law_pick, a_law_parts, a_law_other, a_law_arrival_right, a_law_turn_right, a_law_sent_right, a_law, b_Arrival, b_Turn, b_Sent⟩ := by
  refine ⟨?_, ?_, ?_, ?_, ?_, ?_, ?_, ?_, ?_, ?_, ?_, ?_, ?_, ?_, ?_, ?_, ?_, ?_, ?_, ?_, ?_, ?_, ?_, ?_, ?_, ?_, ?_, ?_, ?_, ?_, ?_, ?_, ?_, ?_, ?_, ?_, ?_, ?_, ?_, ?_, ?_, ?_, ?_, ?_, ?_, ?_, ?_, ?_, ?_, ?_, ?_, ?_, ?_, ?_, ?_, ?_, ?_, ?_, ?_, ?_, ?_, ?_, ?_, ?_, ?_, ?_, ?_, ?_, ?_, ?_, ?_, ?_, ?_, ?_, ?_, ?_, ?_, ?_, ?_, ?_, ?_, ?_, ?_, ?_, ?_, ?_, ?_, ?_, ?_, ?_, ?_, ?_, ?_, ?_, ?_, ?_, ?_, ?_, ?_, ?_, ?_, ?_, ?_, ?_, ?_, ?_, ?_, ?_, ?_, ?_, ?_, ?_, ?_, ?_, ?_, ?_, ?_, ?_, ?_, ?_, ?_, ?_, ?_, ?_, ?_, ?_, ?_, ?_, ?_, ?_, ?_, ?_, ?_, ?_, ?_, ?_, ?_, ?_, ?_, ?_, ?_⟩
  · exact PySem.W.mg_none_of X G h_no_abs
  · exact PySem.W.mg_none_of X G h_no_int
  · exact PySem.W.mg_none_of X G h_no_isinstance
  · exact PySem.W.mg_none_of X G h_no_len
  · exact PySem.W.mg_none_of X G h_no_list
  · exact PySem.W.mg_none_of X G h_no_range
  · exact PySem.W.mg_none_of X G h_no_repr
  · exact PySem.W.mg_none_of X G h_no_tuple
  · exact ⟨_, fun_mk (st := s_Arrival___init__) h_l_Arrival___init__ h_c_Arrival___init__ h_k_Arrival___init__⟩
  · exact h_a_Arrival___init__
  · exact h_i_Arrival___init__
  · exact ⟨_, fun_mk (st := s_Arrival___eq__) h_l_Arrival___eq__ h_c_Arrival___eq__ h_k_Arrival___eq__⟩
  · exact h_a_Arrival___eq__
  · exact h_i_Arrival___eq__
  · exact ⟨_, fun_mk (st := s_Turn___init__) h_l_Turn___init__ h_c_Turn___init__ h_k_Turn___init__⟩
  · exact h_a_Turn___init__
  · exact h_i_Turn___init__
  · exact ⟨_, fun_mk (st := s_Turn___eq__) h_l_Turn___eq__ h_c_Turn___eq__ h_k_Turn___eq__⟩
  · exact h_a_Turn___eq__
  · exact h_i_Turn___eq__
  · exact ⟨_, fun_mk (st := s_Sent___init__) h_l_Sent___init__ h_c_Sent___init__ h_k_Sent___init__⟩
  · exact h_a_Sent___init__
  · exact h_i_Sent___init__
  · exact ⟨_, fun_mk (st := s_Sent___eq__) h_l_Sent___eq__ h_c_Sent___eq__ h_k_Sent___eq__⟩
  · exact h_a_Sent___eq__
  · exact h_i_Sent___eq__
  · exact ⟨_, fun_mk (st := s_law_pen) h_l_law_pen h_c_law_pen h_k_law_pen⟩
  · exact PySem.W.mg_of X G h_a_law_pen
  · exact ⟨_, fun_mk (st := s_law_draw) h_l_law_draw h_c_law_draw h_k_law_draw⟩
  · exact PySem.W.mg_of X G h_a_law_draw
  · exact ⟨_, fun_mk (st := s_law_pick) h_l_law_pick h_c_law_pick h_k_law_pick⟩
  · exact PySem.W.mg_of X G h_a_law_pick
  · exact ⟨_, fun_mk (st := s_law_parts) h_l_law_parts h_c_law_parts h_k_law_parts⟩
  · exact PySem.W.mg_of X G h_a_law_parts
  · exact ⟨_, fun_mk (st := s_law_other) h_l_law_other h_c_law_other h_k_law_other⟩
  · exact PySem.W.mg_of X G h_a_law_other
  · exact ⟨_, fun_mk (st := s_law_arrival_right) h_l_law_arrival_right h_c_law_arrival_right h_k_law_arrival_right⟩
  · exact PySem.W.mg_of X G h_a_law_arrival_right
  · exact ⟨_, fun_mk (st := s_law_turn_right) h_l_law_turn_right h_c_law_turn_right h_k_law_turn_right⟩
  · exact PySem.W.mg_of X G h_a_law_turn_right
  · exact ⟨_, fun_mk (st := s_law_sent_right) h_l_law_sent_right h_c_law_sent_right h_k_law_sent_right⟩
  · exact PySem.W.mg_of X G h_a_law_sent_right
  · exact ⟨_, fun_mk (st := s_law) h_l_law h_c_law h_k_law⟩
  · exact PySem.W.mg_of X G h_a_law
  · exact PySem.W.mg_of X G h_g_Arrival
  · exact ⟨h_mk_Arrival, h_a_Arrival___init__, h_i_Arrival___init__, h_kc_Arrival⟩
  · exact ⟨h_pg_Arrival, h_hd_Arrival, h_po_Arrival, h_sa_Arrival⟩
  · exact ⟨⟨h_pg_Arrival, h_hd_Arrival, h_po_Arrival, h_sa_Arrival⟩, h_cc_Arrival, h_cg, h_ct, h_ob_Arrival⟩
  · exact h_ob_Arrival
  · exact h_ne_Arrival
  · intro T hT
    simp only [List.mem_cons, List.not_mem_nil, or_false] at hT
    rcases hT with rfl | rfl | rfl | rfl | rfl | rfl | rfl
    · exact h_bt_Arrival_NoneType
    · exact h_bt_Arrival_bool
    · exact h_bt_Arrival_int
    · exact h_bt_Arrival_str
    · exact h_bt_Arrival_list
    · exact h_bt_Arrival_tuple
    · exact h_bt_Arrival_dict
  · exact ⟨⟨h_pg_Arrival, h_hd_Arrival, h_po_Arrival, h_sa_Arrival⟩, h_na_Arrival_moment⟩
  · exact ⟨⟨h_pg_Arrival, h_hd_Arrival, h_po_Arrival, h_sa_Arrival⟩, h_na_Arrival_name⟩
  · exact ⟨⟨h_pg_Arrival, h_hd_Arrival, h_po_Arrival, h_sa_Arrival⟩, h_na_Arrival_length⟩
  · exact h_kb_Arrival_NoneType
  · exact h_nf_Arrival_NoneType
  · exact h_kb_Arrival_bool
  · exact h_nf_Arrival_bool
  · exact h_kb_Arrival_int
  · exact h_nf_Arrival_int
  · exact h_kb_Arrival_str
  · exact h_nf_Arrival_str
  · exact h_kb_Arrival_list
  · exact h_nf_Arrival_list
  · exact h_kb_Arrival_tuple
  · exact h_nf_Arrival_tuple
  · exact h_kb_Arrival_dict
  · exact h_nf_Arrival_dict
  · exact h_kc_Arrival_Arrival
  · exact h_nf_Arrival_c_Arrival
  · exact h_kc_Arrival_Turn
  · exact h_nf_Arrival_c_Turn
  · exact h_kc_Arrival_Sent
  · exact h_nf_Arrival_c_Sent
  · exact PySem.W.mg_of X G h_g_Turn
  · exact ⟨h_mk_Turn, h_a_Turn___init__, h_i_Turn___init__, h_kc_Turn⟩
  · exact ⟨h_pg_Turn, h_hd_Turn, h_po_Turn, h_sa_Turn⟩
  · exact ⟨⟨h_pg_Turn, h_hd_Turn, h_po_Turn, h_sa_Turn⟩, h_cc_Turn, h_cg, h_ct, h_ob_Turn⟩
  · exact h_ob_Turn
  · exact h_ne_Turn
  · intro T hT
    simp only [List.mem_cons, List.not_mem_nil, or_false] at hT
    rcases hT with rfl | rfl | rfl | rfl | rfl | rfl | rfl
    · exact h_bt_Turn_NoneType
    · exact h_bt_Turn_bool
    · exact h_bt_Turn_int
    · exact h_bt_Turn_str
    · exact h_bt_Turn_list
    · exact h_bt_Turn_tuple
    · exact h_bt_Turn_dict
  · exact ⟨⟨h_pg_Turn, h_hd_Turn, h_po_Turn, h_sa_Turn⟩, h_na_Turn_name⟩
  · exact ⟨⟨h_pg_Turn, h_hd_Turn, h_po_Turn, h_sa_Turn⟩, h_na_Turn_moment⟩
  · exact ⟨⟨h_pg_Turn, h_hd_Turn, h_po_Turn, h_sa_Turn⟩, h_na_Turn_credit⟩
  · exact ⟨⟨h_pg_Turn, h_hd_Turn, h_po_Turn, h_sa_Turn⟩, h_na_Turn_lengths⟩
  · exact ⟨⟨h_pg_Turn, h_hd_Turn, h_po_Turn, h_sa_Turn⟩, h_na_Turn_rest⟩
  · exact ⟨⟨h_pg_Turn, h_hd_Turn, h_po_Turn, h_sa_Turn⟩, h_na_Turn_is_left⟩
  · exact h_kb_Turn_NoneType
  · exact h_nf_Turn_NoneType
  · exact h_kb_Turn_bool
  · exact h_nf_Turn_bool
  · exact h_kb_Turn_int
  · exact h_nf_Turn_int
  · exact h_kb_Turn_str
  · exact h_nf_Turn_str
  · exact h_kb_Turn_list
  · exact h_nf_Turn_list
  · exact h_kb_Turn_tuple
  · exact h_nf_Turn_tuple
  · exact h_kb_Turn_dict
  · exact h_nf_Turn_dict
  · exact h_kc_Turn_Arrival
  · exact h_nf_Turn_c_Arrival
  · exact h_kc_Turn_Turn
  · exact h_nf_Turn_c_Turn
  · exact h_kc_Turn_Sent
  · exact h_nf_Turn_c_Sent
  · exact PySem.W.mg_of X G h_g_Sent
  · exact ⟨h_mk_Sent, h_a_Sent___init__, h_i_Sent___init__, h_kc_Sent⟩
  · exact ⟨h_pg_Sent, h_hd_Sent, h_po_Sent, h_sa_Sent⟩
  · exact ⟨⟨h_pg_Sent, h_hd_Sent, h_po_Sent, h_sa_Sent⟩, h_cc_Sent, h_cg, h_ct, h_ob_Sent⟩
  · exact h_ob_Sent
  · exact h_ne_Sent
  · intro T hT
    simp only [List.mem_cons, List.not_mem_nil, or_false] at hT
    rcases hT with rfl | rfl | rfl | rfl | rfl | rfl | rfl
    · exact h_bt_Sent_NoneType
    · exact h_bt_Sent_bool
    · exact h_bt_Sent_int
    · exact h_bt_Sent_str
    · exact h_bt_Sent_list
    · exact h_bt_Sent_tuple
    · exact h_bt_Sent_dict
  · exact ⟨⟨h_pg_Sent, h_hd_Sent, h_po_Sent, h_sa_Sent⟩, h_na_Sent_name⟩
  · exact ⟨⟨h_pg_Sent, h_hd_Sent, h_po_Sent, h_sa_Sent⟩, h_na_Sent_number⟩
  · exact ⟨⟨h_pg_Sent, h_hd_Sent, h_po_Sent, h_sa_Sent⟩, h_na_Sent_length⟩
  · exact ⟨⟨h_pg_Sent, h_hd_Sent, h_po_Sent, h_sa_Sent⟩, h_na_Sent_came⟩
  · exact ⟨⟨h_pg_Sent, h_hd_Sent, h_po_Sent, h_sa_Sent⟩, h_na_Sent_ended⟩
  · exact ⟨⟨h_pg_Sent, h_hd_Sent, h_po_Sent, h_sa_Sent⟩, h_na_Sent_turn⟩
  · exact ⟨⟨h_pg_Sent, h_hd_Sent, h_po_Sent, h_sa_Sent⟩, h_na_Sent_bits⟩
  · exact h_kb_Sent_NoneType
  · exact h_nf_Sent_NoneType
  · exact h_kb_Sent_bool
  · exact h_nf_Sent_bool
  · exact h_kb_Sent_int
  · exact h_nf_Sent_int
  · exact h_kb_Sent_str
  · exact h_nf_Sent_str
  · exact h_kb_Sent_list
  · exact h_nf_Sent_list
  · exact h_kb_Sent_tuple
  · exact h_nf_Sent_tuple
  · exact h_kb_Sent_dict
  · exact h_nf_Sent_dict
  · exact h_kc_Sent_Arrival
  · exact h_nf_Sent_c_Arrival
  · exact h_kc_Sent_Turn
  · exact h_nf_Sent_c_Turn
  · exact h_kc_Sent_Sent
  · exact h_nf_Sent_c_Sent
end K23

namespace K23
open PySem L2 DL
theorem tyD_imp {c : Wd} {d : D} {P Q : Value → Prop} (h : tyD c d P) (k : ∀ t, P t → Q t) : tyD c d Q := by
  cases d with
  | ins C fs => exact ⟨h.1, k _ h.2⟩
  | non => exact k _ h
  | bl _ => exact k _ h
  | int _ => exact k _ h
  | str _ => exact k _ h
  | lst _ => exact k _ h
  | tup _ => exact k _ h
  | dct _ => exact k _ h
  | ref _ => exact h.elim
  | ty _ => exact h.elim
  | pen => exact h.elim
section
variable {c : Wd} {A : Ad} {n : Nat} {P : D → Nat → Prop} {R : Er → Nat → Prop}
theorem eqA_no {x y : D} (h : tyD c y (fun t => PySem.W.kitOne c.K t (.ref A.c_Arrival) = some false)) (p : P (.bl false) n) : sp_Arrival___eq__ c A [x, y] n P R := by
  refine ⟨rfl, ?_⟩
  show t_Arrival___eq__ c A _ ⟨[.d x, .d y], n⟩
  unfold t_Arrival___eq__
  rw [dSeq]
  simp only [oIsi, clD, dIte, dTB, dBin, dBinF, dPen, isPen, dC, dVar, dNil, dCons, dSet, dAsg, dRet, dNext, dAnd, dOr, dNot, dAndV, dOrV, dNotV, dBu, oLen, oInt, oAbs, oI, oAdd, oIx, dIx, dNeg, gPen, gN, gC, gT, gZ, dLst, dTup, dPar, dSl, dNone, dPart, oSl, dFld, dCall, dIf, dDrop, fnN, List.getElem?_cons_zero, List.getElem?_cons_succ, List.set_cons_zero, List.set_cons_succ, true_and, if_true, if_false, Bool.false_eq_true, List.length_cons, List.length_nil, Option.some.injEq, Int.reduceEq, ↓reduceIte, Nat.reduceAdd, Nat.reduceLeDiff, and_true, Nat.zero_le]
  exact tyD_imp h fun t ht => ⟨false, ht, by simpa using p⟩
theorem eqA_yes (T : Txt c A) {x y z x' y' z' : D} (h1 : DL.plain (.tup [x, y, z]) 40 = true) (h2 : DL.plain (.tup [x', y', z']) 40 = true) (p : P (.bl (eqL [x, y, z] [x', y', z'])) n) : sp_Arrival___eq__ c A [o_Arrival A x y z, o_Arrival A x' y' z'] n P R := by
  refine ⟨rfl, ?_⟩
  show t_Arrival___eq__ c A _ ⟨[.d (o_Arrival A x y z), .d (o_Arrival A x' y' z')], n⟩
  unfold t_Arrival___eq__
  rw [dSeq]
  simp only [oIsi, clD, dIte, dTB, dBin, dBinF, dPen, isPen, dC, dVar, dNil, dCons, dSet, dAsg, dRet, dNext, dAnd, dOr, dNot, dAndV, dOrV, dNotV, dBu, oLen, oInt, oAbs, oI, oAdd, oIx, dIx, dNeg, gPen, gN, gC, gT, gZ, dLst, dTup, dPar, dSl, dNone, dPart, oSl, dFld, dCall, dIf, dDrop, fnN, List.getElem?_cons_zero, List.getElem?_cons_succ, List.set_cons_zero, List.set_cons_succ, true_and, if_true, if_false, Bool.false_eq_true, List.length_cons, List.length_nil, Option.some.injEq, Int.reduceEq, ↓reduceIte, Nat.reduceAdd, Nat.reduceLeDiff, and_true, Nat.zero_le]
  refine tyD_imp (kn_Arrival_Arrival T) fun t ht => ⟨true, ht, ?_⟩
  simp only [Bool.not_true, Bool.false_eq_true, if_false]
  unfold u_Arrival___eq___1
  simp only [oEq, lk_Arrival_moment, lk_Arrival_name, lk_Arrival_length, T.na_Arrival_moment, T.na_Arrival_name, T.na_Arrival_length, dIte, dTB, dBin, dBinF, dPen, isPen, dC, dVar, dNil, dCons, dSet, dAsg, dRet, dNext, dAnd, dOr, dNot, dAndV, dOrV, dNotV, dBu, oLen, oInt, oAbs, oI, oAdd, oIx, dIx, dNeg, gPen, gN, gC, gT, gZ, dLst, dTup, dPar, dSl, dNone, dPart, oSl, dFld, dCall, dIf, dDrop, fnN, List.getElem?_cons_zero, List.getElem?_cons_succ, List.set_cons_zero, List.set_cons_succ, true_and, if_true, if_false, Bool.false_eq_true, List.length_cons, List.length_nil, Option.some.injEq, Int.reduceEq, ↓reduceIte, Nat.reduceAdd, Nat.reduceLeDiff, and_true, Nat.zero_le]
  exact ⟨⟨h1, h2⟩, p⟩
theorem eqT_no {x y : D} (h : tyD c y (fun t => PySem.W.kitOne c.K t (.ref A.c_Turn) = some false)) (p : P (.bl false) n) : sp_Turn___eq__ c A [x, y] n P R := by
  refine ⟨rfl, ?_⟩
  show t_Turn___eq__ c A _ ⟨[.d x, .d y], n⟩
  unfold t_Turn___eq__
  rw [dSeq]
  simp only [oIsi, clD, dIte, dTB, dBin, dBinF, dPen, isPen, dC, dVar, dNil, dCons, dSet, dAsg, dRet, dNext, dAnd, dOr, dNot, dAndV, dOrV, dNotV, dBu, oLen, oInt, oAbs, oI, oAdd, oIx, dIx, dNeg, gPen, gN, gC, gT, gZ, dLst, dTup, dPar, dSl, dNone, dPart, oSl, dFld, dCall, dIf, dDrop, fnN, List.getElem?_cons_zero, List.getElem?_cons_succ, List.set_cons_zero, List.set_cons_succ, true_and, if_true, if_false, Bool.false_eq_true, List.length_cons, List.length_nil, Option.some.injEq, Int.reduceEq, ↓reduceIte, Nat.reduceAdd, Nat.reduceLeDiff, and_true, Nat.zero_le]
  exact tyD_imp h fun t ht => ⟨false, ht, by simpa using p⟩
theorem eqS_no {x y : D} (h : tyD c y (fun t => PySem.W.kitOne c.K t (.ref A.c_Sent) = some false)) (p : P (.bl false) n) : sp_Sent___eq__ c A [x, y] n P R := by
  refine ⟨rfl, ?_⟩
  show t_Sent___eq__ c A _ ⟨[.d x, .d y], n⟩
  unfold t_Sent___eq__
  rw [dSeq]
  simp only [oIsi, clD, dIte, dTB, dBin, dBinF, dPen, isPen, dC, dVar, dNil, dCons, dSet, dAsg, dRet, dNext, dAnd, dOr, dNot, dAndV, dOrV, dNotV, dBu, oLen, oInt, oAbs, oI, oAdd, oIx, dIx, dNeg, gPen, gN, gC, gT, gZ, dLst, dTup, dPar, dSl, dNone, dPart, oSl, dFld, dCall, dIf, dDrop, fnN, List.getElem?_cons_zero, List.getElem?_cons_succ, List.set_cons_zero, List.set_cons_succ, true_and, if_true, if_false, Bool.false_eq_true, List.length_cons, List.length_nil, Option.some.injEq, Int.reduceEq, ↓reduceIte, Nat.reduceAdd, Nat.reduceLeDiff, and_true, Nat.zero_le]
  exact tyD_imp h fun t ht => ⟨false, ht, by simpa using p⟩
theorem two {a b : D} (h1 : DL.plain a 39 = true) (h2 : DL.plain b 39 = true) : DL.plain (.tup [a, b]) 40 = true := by simp [DL.plain, plainL, h1, h2]
theorem three {a b d : D} (h1 : DL.plain a 39 = true) (h2 : DL.plain b 39 = true) (h3 : DL.plain d 39 = true) : DL.plain (.tup [a, b, d]) 40 = true := by simp [DL.plain, plainL, h1, h2, h3]
theorem eqT_yes (T : Txt c A) {a1 a2 a3 a4 a5 a6 b1 b2 b3 b4 b5 b6 : D} (hp : ∀ d ∈ [a1, a2, a3, a4, a5, a6, b1, b2, b3, b4, b5, b6], DL.plain d 39 = true) (p : P (.bl (eqL [a1, a2, a3, a4, a5, a6] [b1, b2, b3, b4, b5, b6])) n) : sp_Turn___eq__ c A [o_Turn A a1 a2 a3 a4 a5 a6, o_Turn A b1 b2 b3 b4 b5 b6] n P R := by
  simp only [List.mem_cons, List.not_mem_nil, or_false, forall_eq_or_imp, forall_eq] at hp
  obtain ⟨p1, p2, p3, p4, p5, p6, q1, q2, q3, q4, q5, q6⟩ := hp
  simp only [eqL, Bool.and_true] at p
  refine ⟨rfl, ?_⟩
  show t_Turn___eq__ c A _ ⟨[.d (o_Turn A a1 a2 a3 a4 a5 a6), .d (o_Turn A b1 b2 b3 b4 b5 b6)], n⟩
  unfold t_Turn___eq__
  rw [dSeq]
  simp only [oIsi, clD, dIte, dTB, dBin, dBinF, dPen, isPen, dC, dVar, dNil, dCons, dSet, dAsg, dRet, dNext, dAnd, dOr, dNot, dAndV, dOrV, dNotV, dBu, oLen, oInt, oAbs, oI, oAdd, oIx, dIx, dNeg, gPen, gN, gC, gT, gZ, dLst, dTup, dPar, dSl, dNone, dPart, oSl, dFld, dCall, dIf, dDrop, fnN, List.getElem?_cons_zero, List.getElem?_cons_succ, List.set_cons_zero, List.set_cons_succ, true_and, if_true, if_false, Bool.false_eq_true, List.length_cons, List.length_nil, Option.some.injEq, Int.reduceEq, ↓reduceIte, Nat.reduceAdd, Nat.reduceLeDiff, and_true, Nat.zero_le]
  refine tyD_imp (kn_Turn_Turn T) fun t ht => ⟨true, ht, ?_⟩
  simp only [oNe, Bool.not_true, Bool.false_eq_true, if_false, lk_Turn_name, lk_Turn_moment, lk_Turn_credit, lk_Turn_lengths, lk_Turn_rest, lk_Turn_is_left, T.na_Turn_name, T.na_Turn_moment, T.na_Turn_credit, T.na_Turn_lengths, T.na_Turn_rest, T.na_Turn_is_left, dIte, dTB, dBin, dBinF, dPen, isPen, dC, dVar, dNil, dCons, dSet, dAsg, dRet, dNext, dAnd, dOr, dNot, dAndV, dOrV, dNotV, dBu, oLen, oInt, oAbs, oI, oAdd, oIx, dIx, dNeg, gPen, gN, gC, gT, gZ, dLst, dTup, dPar, dSl, dNone, dPart, oSl, dFld, dCall, dIf, dDrop, fnN, List.getElem?_cons_zero, List.getElem?_cons_succ, List.set_cons_zero, List.set_cons_succ, true_and, if_true, if_false, Bool.false_eq_true, List.length_cons, List.length_nil, Option.some.injEq, Int.reduceEq, ↓reduceIte, Nat.reduceAdd, Nat.reduceLeDiff, and_true, Nat.zero_le]
  refine ⟨⟨two p1 p2, two q1 q2⟩, ?_⟩
  simp only [eqD, eqL, Bool.and_true]
  cases e1 : eqD a1 b1 <;> cases e2 : eqD a2 b2 <;> simp only [e1, e2, Bool.and_true, Bool.and_false, Bool.true_and, Bool.false_and, Bool.not_true, Bool.not_false, if_true, if_false, Bool.false_eq_true] at p ⊢ <;> try exact p
  unfold u_Turn___eq___1
  rw [dSeq]
  simp only [oNe, lk_Turn_name, lk_Turn_moment, lk_Turn_credit, lk_Turn_lengths, lk_Turn_rest, lk_Turn_is_left, T.na_Turn_name, T.na_Turn_moment, T.na_Turn_credit, T.na_Turn_lengths, T.na_Turn_rest, T.na_Turn_is_left, dIte, dTB, dBin, dBinF, dPen, isPen, dC, dVar, dNil, dCons, dSet, dAsg, dRet, dNext, dAnd, dOr, dNot, dAndV, dOrV, dNotV, dBu, oLen, oInt, oAbs, oI, oAdd, oIx, dIx, dNeg, gPen, gN, gC, gT, gZ, dLst, dTup, dPar, dSl, dNone, dPart, oSl, dFld, dCall, dIf, dDrop, fnN, List.getElem?_cons_zero, List.getElem?_cons_succ, List.set_cons_zero, List.set_cons_succ, true_and, if_true, if_false, Bool.false_eq_true, List.length_cons, List.length_nil, Option.some.injEq, Int.reduceEq, ↓reduceIte, Nat.reduceAdd, Nat.reduceLeDiff, and_true, Nat.zero_le]
  refine ⟨⟨two p3 p4, two q3 q4⟩, ?_⟩
  simp only [eqD, eqL, Bool.and_true]
  cases e3 : eqD a3 b3 <;> cases e4 : eqD a4 b4 <;> simp only [e3, e4, Bool.and_true, Bool.and_false, Bool.true_and, Bool.false_and, Bool.not_true, Bool.not_false, if_true, if_false, Bool.false_eq_true] at p ⊢ <;> try exact p
  unfold u_Turn___eq___2
  simp only [oEq, lk_Turn_name, lk_Turn_moment, lk_Turn_credit, lk_Turn_lengths, lk_Turn_rest, lk_Turn_is_left, T.na_Turn_name, T.na_Turn_moment, T.na_Turn_credit, T.na_Turn_lengths, T.na_Turn_rest, T.na_Turn_is_left, dIte, dTB, dBin, dBinF, dPen, isPen, dC, dVar, dNil, dCons, dSet, dAsg, dRet, dNext, dAnd, dOr, dNot, dAndV, dOrV, dNotV, dBu, oLen, oInt, oAbs, oI, oAdd, oIx, dIx, dNeg, gPen, gN, gC, gT, gZ, dLst, dTup, dPar, dSl, dNone, dPart, oSl, dFld, dCall, dIf, dDrop, fnN, List.getElem?_cons_zero, List.getElem?_cons_succ, List.set_cons_zero, List.set_cons_succ, true_and, if_true, if_false, Bool.false_eq_true, List.length_cons, List.length_nil, Option.some.injEq, Int.reduceEq, ↓reduceIte, Nat.reduceAdd, Nat.reduceLeDiff, and_true, Nat.zero_le]
  refine ⟨⟨two p5 p6, two q5 q6⟩, ?_⟩
  simpa only [eqD, eqL, Bool.and_true] using p
theorem eqS_yes (T : Txt c A) {a1 a2 a3 a4 a5 a6 a7 b1 b2 b3 b4 b5 b6 b7 : D} (hp : ∀ d ∈ [a1, a2, a3, a4, a5, a6, a7, b1, b2, b3, b4, b5, b6, b7], DL.plain d 39 = true) (p : P (.bl (eqL [a1, a2, a3, a4, a5, a6, a7] [b1, b2, b3, b4, b5, b6, b7])) n) : sp_Sent___eq__ c A [o_Sent A a1 a2 a3 a4 a5 a6 a7, o_Sent A b1 b2 b3 b4 b5 b6 b7] n P R := by
  simp only [List.mem_cons, List.not_mem_nil, or_false, forall_eq_or_imp, forall_eq] at hp
  obtain ⟨p1, p2, p3, p4, p5, p6, p7, q1, q2, q3, q4, q5, q6, q7⟩ := hp
  simp only [eqL, Bool.and_true] at p
  refine ⟨rfl, ?_⟩
  show t_Sent___eq__ c A _ ⟨[.d (o_Sent A a1 a2 a3 a4 a5 a6 a7), .d (o_Sent A b1 b2 b3 b4 b5 b6 b7)], n⟩
  unfold t_Sent___eq__
  rw [dSeq]
  simp only [oIsi, clD, dIte, dTB, dBin, dBinF, dPen, isPen, dC, dVar, dNil, dCons, dSet, dAsg, dRet, dNext, dAnd, dOr, dNot, dAndV, dOrV, dNotV, dBu, oLen, oInt, oAbs, oI, oAdd, oIx, dIx, dNeg, gPen, gN, gC, gT, gZ, dLst, dTup, dPar, dSl, dNone, dPart, oSl, dFld, dCall, dIf, dDrop, fnN, List.getElem?_cons_zero, List.getElem?_cons_succ, List.set_cons_zero, List.set_cons_succ, true_and, if_true, if_false, Bool.false_eq_true, List.length_cons, List.length_nil, Option.some.injEq, Int.reduceEq, ↓reduceIte, Nat.reduceAdd, Nat.reduceLeDiff, and_true, Nat.zero_le]
  refine tyD_imp (kn_Sent_Sent T) fun t ht => ⟨true, ht, ?_⟩
  simp only [oNe, Bool.not_true, Bool.false_eq_true, if_false, lk_Sent_name, lk_Sent_number, lk_Sent_length, lk_Sent_came, lk_Sent_ended, lk_Sent_turn, lk_Sent_bits, T.na_Sent_name, T.na_Sent_number, T.na_Sent_length, T.na_Sent_came, T.na_Sent_ended, T.na_Sent_turn, T.na_Sent_bits, dIte, dTB, dBin, dBinF, dPen, isPen, dC, dVar, dNil, dCons, dSet, dAsg, dRet, dNext, dAnd, dOr, dNot, dAndV, dOrV, dNotV, dBu, oLen, oInt, oAbs, oI, oAdd, oIx, dIx, dNeg, gPen, gN, gC, gT, gZ, dLst, dTup, dPar, dSl, dNone, dPart, oSl, dFld, dCall, dIf, dDrop, fnN, List.getElem?_cons_zero, List.getElem?_cons_succ, List.set_cons_zero, List.set_cons_succ, true_and, if_true, if_false, Bool.false_eq_true, List.length_cons, List.length_nil, Option.some.injEq, Int.reduceEq, ↓reduceIte, Nat.reduceAdd, Nat.reduceLeDiff, and_true, Nat.zero_le]
  refine ⟨⟨two p1 p2, two q1 q2⟩, ?_⟩
  simp only [eqD, eqL, Bool.and_true]
  cases e1 : eqD a1 b1 <;> cases e2 : eqD a2 b2 <;> simp only [e1, e2, Bool.and_true, Bool.and_false, Bool.true_and, Bool.false_and, Bool.not_true, Bool.not_false, if_true, if_false, Bool.false_eq_true] at p ⊢ <;> try exact p
  unfold u_Sent___eq___1
  rw [dSeq]
  simp only [oNe, lk_Sent_name, lk_Sent_number, lk_Sent_length, lk_Sent_came, lk_Sent_ended, lk_Sent_turn, lk_Sent_bits, T.na_Sent_name, T.na_Sent_number, T.na_Sent_length, T.na_Sent_came, T.na_Sent_ended, T.na_Sent_turn, T.na_Sent_bits, dIte, dTB, dBin, dBinF, dPen, isPen, dC, dVar, dNil, dCons, dSet, dAsg, dRet, dNext, dAnd, dOr, dNot, dAndV, dOrV, dNotV, dBu, oLen, oInt, oAbs, oI, oAdd, oIx, dIx, dNeg, gPen, gN, gC, gT, gZ, dLst, dTup, dPar, dSl, dNone, dPart, oSl, dFld, dCall, dIf, dDrop, fnN, List.getElem?_cons_zero, List.getElem?_cons_succ, List.set_cons_zero, List.set_cons_succ, true_and, if_true, if_false, Bool.false_eq_true, List.length_cons, List.length_nil, Option.some.injEq, Int.reduceEq, ↓reduceIte, Nat.reduceAdd, Nat.reduceLeDiff, and_true, Nat.zero_le]
  refine ⟨⟨three p3 p4 p5, three q3 q4 q5⟩, ?_⟩
  simp only [eqD, eqL, Bool.and_true]
  cases e3 : eqD a3 b3 <;> cases e4 : eqD a4 b4 <;> cases e5 : eqD a5 b5 <;> simp only [e3, e4, e5, Bool.and_true, Bool.and_false, Bool.true_and, Bool.false_and, Bool.not_true, Bool.not_false, if_true, if_false, Bool.false_eq_true] at p ⊢ <;> try exact p
  unfold u_Sent___eq___2
  simp only [oEq, lk_Sent_name, lk_Sent_number, lk_Sent_length, lk_Sent_came, lk_Sent_ended, lk_Sent_turn, lk_Sent_bits, T.na_Sent_name, T.na_Sent_number, T.na_Sent_length, T.na_Sent_came, T.na_Sent_ended, T.na_Sent_turn, T.na_Sent_bits, dIte, dTB, dBin, dBinF, dPen, isPen, dC, dVar, dNil, dCons, dSet, dAsg, dRet, dNext, dAnd, dOr, dNot, dAndV, dOrV, dNotV, dBu, oLen, oInt, oAbs, oI, oAdd, oIx, dIx, dNeg, gPen, gN, gC, gT, gZ, dLst, dTup, dPar, dSl, dNone, dPart, oSl, dFld, dCall, dIf, dDrop, fnN, List.getElem?_cons_zero, List.getElem?_cons_succ, List.set_cons_zero, List.set_cons_succ, true_and, if_true, if_false, Bool.false_eq_true, List.length_cons, List.length_nil, Option.some.injEq, Int.reduceEq, ↓reduceIte, Nat.reduceAdd, Nat.reduceLeDiff, and_true, Nat.zero_le]
  refine ⟨⟨two p6 p7, two q6 q7⟩, ?_⟩
  simpa only [eqD, eqL, Bool.and_true] using p
end
end K23

namespace K23
open PySem L2 DL
section
variable {c : Wd} {A : Ad} {n : Nat} {P : D → Nat → Prop} {R : Er → Nat → Prop}
theorem pick_rd {xs : List D} (hx : xs ≠ []) (hl : xs.length < 1000000) (hn : 0 < n) (h : ∀ x ∈ xs, P x (n - 1)) : cs_law_pick_2 c A [.pen, .lst xs] [] n P R := by
  refine ⟨rfl, rfl, ?_⟩
  show t_law_pick c A _ ⟨[.d .pen, .d (.lst xs)], n⟩
  unfold t_law_pick
  simp only [cs_law_draw_2, sDraw, dIte, dTB, dBin, dBinF, dPen, isPen, dC, dVar, dNil, dCons, dSet, dAsg, dRet, dNext, dAnd, dOr, dNot, dAndV, dOrV, dNotV, dBu, oLen, oInt, oAbs, oI, oAdd, oIx, dIx, dNeg, gPen, gN, gC, gT, gZ, dLst, dTup, dPar, dSl, dNone, dPart, oSl, dFld, dCall, dIf, dDrop, fnN, List.getElem?_cons_zero, List.getElem?_cons_succ, List.set_cons_zero, List.set_cons_succ, true_and, if_true, if_false, Bool.false_eq_true, List.length_cons, List.length_nil, Option.some.injEq, Int.reduceEq, ↓reduceIte, Nat.reduceAdd, Nat.reduceLeDiff, and_true, Nat.zero_le]
  have h0 : 0 < xs.length := List.length_pos_iff.mpr hx
  refine ⟨xs.length, rfl, by omega, by omega, hn, fun z h1 h2 => ?_⟩
  obtain ⟨j, rfl⟩ : ∃ j : Nat, z = (j : Int) := ⟨z.toNat, by omega⟩
  have hj : j < xs.length := by omega
  exact ⟨xs[j], atI_nat (by simp [hj]), h _ (List.getElem_mem hj)⟩
def its : List D := [.non, .int 0, .int 7, .int (-3), .str ("a" : Str), .str ("" : Str), .tup [], .tup [.int 1, .int 2], .lst [.int 1], .dct [], .dct [(.inr ("a" : Str), .int 1)], .int (10 ^ 40), .str ("line" : Str), .tup [.int 3], .lst [.int 3]]
theorem col_rd {cl : List Sl} (h0 : cl[0]? = some (.d .pen)) (h2 : cl[2]? = some (.d (.lst its))) (h3 : cl.length = 4) (PP : List D → Nat → Prop) : ∀ (l : List D) (acc : List D) (n : Nat), l.length ≤ n → acc.length + l.length ≤ 1000 → (∀ d ∈ acc, d ∈ its) →
    (∀ ds, ds.length = acc.length + l.length → (∀ d ∈ ds, d ∈ its) → PP ds (n - l.length)) →
    dCol (gN 3) dYes (dCall (fun ds zs n P R => zs = [] ∧ (cs_law_pick_2 c A) ds [] n P R) (dCons (dVar 0) (dCons (dVar 2) (dNil))) dNil) cl PP l acc n
  | [], acc, n, hn, hl, ha, h => by
    simp only [dCol]
    simpa using h acc (by simp) ha
  | x :: l, acc, n, hn, hl, ha, h => by
    simp only [dCol, gN, dYes, if_true]
    have e0 : (cl.set 3 (.d x))[0]? = some (.d .pen) := by rw [List.getElem?_set_ne (by decide)]; exact h0
    have e2 : (cl.set 3 (.d x))[2]? = some (.d (.lst its)) := by rw [List.getElem?_set_ne (by decide)]; exact h2
    simp only [e0, e2, dIte, dTB, dBin, dBinF, dPen, isPen, dC, dVar, dNil, dCons, dSet, dAsg, dRet, dNext, dAnd, dOr, dNot, dAndV, dOrV, dNotV, dBu, oLen, oInt, oAbs, oI, oAdd, oIx, dIx, dNeg, gPen, gN, gC, gT, gZ, dLst, dTup, dPar, dSl, dNone, dPart, oSl, dFld, dCall, dIf, dDrop, fnN, List.getElem?_cons_zero, List.getElem?_cons_succ, List.set_cons_zero, List.set_cons_succ, true_and, if_true, if_false, Bool.false_eq_true, List.length_cons, List.length_nil, Option.some.injEq, Int.reduceEq, ↓reduceIte, Nat.reduceAdd, Nat.reduceLeDiff, and_true, Nat.zero_le]
    simp only [List.length_cons] at hn hl
    refine pick_rd (by decide) (by decide) (by omega) fun y hy => ⟨by omega, ?_⟩
    refine col_rd h0 h2 h3 PP l (acc ++ [y]) (n - 1) (by omega) (by simp; omega) (fun d hd => ?_) fun ds e1 e2 => ?_
    · rcases List.mem_append.mp hd with q | q
      · exact ha d q
      · simp at q; subst q; exact hy
    · have := h ds (by simp at e1 ⊢; omega) e2
      simp only [List.length_cons] at this
      rwa [show n - 1 - l.length = n - (l.length + 1) by omega]
theorem parts_rd {k : Nat} (hk : k ≤ 100) (hn : k ≤ n) (h : ∀ ds, ds.length = k → (∀ d ∈ ds, d ∈ its) → P (.lst ds) (n - k)) : cs_law_parts_2 c A [.pen, .int (k : Int)] [] n P R := by
  refine ⟨rfl, rfl, ?_⟩
  show t_law_parts c A _ ⟨[.d .pen, .d (.int k), .un, .un], n⟩
  unfold t_law_parts
  rw [dSeq]
  simp only [dIte, dTB, dBin, dBinF, dPen, isPen, dC, dVar, dNil, dCons, dSet, dAsg, dRet, dNext, dAnd, dOr, dNot, dAndV, dOrV, dNotV, dBu, oLen, oInt, oAbs, oI, oAdd, oIx, dIx, dNeg, gPen, gN, gC, gT, gZ, dLst, dTup, dPar, dSl, dNone, dPart, oSl, dFld, dCall, dIf, dDrop, fnN, List.getElem?_cons_zero, List.getElem?_cons_succ, List.set_cons_zero, List.set_cons_succ, true_and, if_true, if_false, Bool.false_eq_true, List.length_cons, List.length_nil, Option.some.injEq, Int.reduceEq, ↓reduceIte, Nat.reduceAdd, Nat.reduceLeDiff, and_true, Nat.zero_le]
  refine ⟨cpow_of (by decide) (by decide) (by decide) (by decide), ?_⟩
  unfold u_law_parts_1
  simp only [dLC, dRng1, dIte, dTB, dBin, dBinF, dPen, isPen, dC, dVar, dNil, dCons, dSet, dAsg, dRet, dNext, dAnd, dOr, dNot, dAndV, dOrV, dNotV, dBu, oLen, oInt, oAbs, oI, oAdd, oIx, dIx, dNeg, gPen, gN, gC, gT, gZ, dLst, dTup, dPar, dSl, dNone, dPart, oSl, dFld, dCall, dIf, dDrop, fnN, List.getElem?_cons_zero, List.getElem?_cons_succ, List.set_cons_zero, List.set_cons_succ, true_and, if_true, if_false, Bool.false_eq_true, List.length_cons, List.length_nil, Option.some.injEq, Int.reduceEq, ↓reduceIte, Nat.reduceAdd, Nat.reduceLeDiff, and_true, Nat.zero_le]
  refine ⟨⟨by omega, by omega⟩, ?_⟩
  refine col_rd rfl rfl rfl _ _ [] n (by simpa using hn) (by simp; omega) (fun d hd => by cases hd) fun ds e1 e2 => ?_
  have e1' : ds.length = k := by simpa using e1
  simpa using h ds e1' e2
end
end K23

namespace K23
open PySem L2 DL
theorem cutD_to {α : Type} (ds : List α) {j : Nat} (h : j ≤ ds.length) : cutD ds none (some (j : Int)) = ds.take j := by
  unfold cutD HT.sIx
  simp only
  have e : ¬ ((j : Int) < 0) := by omega
  simp [e, Nat.min_eq_left h]
theorem cutD_from {α : Type} (ds : List α) {j : Nat} (h : j ≤ ds.length) : cutD ds (some (j : Int)) none = ds.drop j := by
  unfold cutD HT.sIx
  have e : ¬ ((j : Int) < 0) := by omega
  simp [e, Nat.min_eq_left h]
  exact List.take_of_length_le (by simp)
section
variable {c : Wd} {A : Ad} {n : Nat} {P : D → Nat → Prop} {R : Er → Nat → Prop}
def oth : List D := [.str ("other" : Str), .tup [.str ("other" : Str)], .int 11]
theorem other_rd {ds : List D} (h0 : ds ≠ []) (hl : ds.length ≤ 100) (hn : 2 ≤ n) (h : ∀ j x, j < ds.length → x ∈ oth → P (.lst (ds.take j ++ [x] ++ ds.drop (j + 1))) (n - 2)) : cs_law_other_2 c A [.pen, .lst ds] [] n P R := by
  refine ⟨rfl, rfl, ?_⟩
  show t_law_other c A _ ⟨[.d .pen, .d (.lst ds), .un], n⟩
  unfold t_law_other
  rw [dSeq]
  simp only [cs_law_draw_2, sDraw, dIte, dTB, dBin, dBinF, dPen, isPen, dC, dVar, dNil, dCons, dSet, dAsg, dRet, dNext, dAnd, dOr, dNot, dAndV, dOrV, dNotV, dBu, oLen, oInt, oAbs, oI, oAdd, oIx, dIx, dNeg, gPen, gN, gC, gT, gZ, dLst, dTup, dPar, dSl, dNone, dPart, oSl, dFld, dCall, dIf, dDrop, fnN, List.getElem?_cons_zero, List.getElem?_cons_succ, List.set_cons_zero, List.set_cons_succ, true_and, if_true, if_false, Bool.false_eq_true, List.length_cons, List.length_nil, Option.some.injEq, Int.reduceEq, ↓reduceIte, Nat.reduceAdd, Nat.reduceLeDiff, and_true, Nat.zero_le]
  have hp : 0 < ds.length := List.length_pos_iff.mpr h0
  refine ⟨ds.length, rfl, by omega, by omega, by omega, fun z h1 h2 => ?_⟩
  obtain ⟨j, rfl⟩ : ∃ j : Nat, z = (j : Int) := ⟨z.toNat, by omega⟩
  have hj : j < ds.length := by omega
  unfold u_law_other_1
  simp only [dIte, dTB, dBin, dBinF, dPen, isPen, dC, dVar, dNil, dCons, dSet, dAsg, dRet, dNext, dAnd, dOr, dNot, dAndV, dOrV, dNotV, dBu, oLen, oInt, oAbs, oI, oAdd, oIx, dIx, dNeg, gPen, gN, gC, gT, gZ, dLst, dTup, dPar, dSl, dNone, dPart, oSl, dFld, dCall, dIf, dDrop, fnN, List.getElem?_cons_zero, List.getElem?_cons_succ, List.set_cons_zero, List.set_cons_succ, true_and, if_true, if_false, Bool.false_eq_true, List.length_cons, List.length_nil, Option.some.injEq, Int.reduceEq, ↓reduceIte, Nat.reduceAdd, Nat.reduceLeDiff, and_true, Nat.zero_le]
  refine pick_rd (by decide) (by decide) (by omega) fun x hx => ?_
  have e1 := cutD_to ds (Nat.le_of_lt hj)
  have e2 : cutD ds (some ((j : Int) + 1)) none = ds.drop (j + 1) := by
    have := cutD_from ds (j := j + 1) (by omega)
    simpa using this
  simp only [e1, e2]
  refine ⟨by simp; omega, by simp; omega, ?_⟩
  have := h j x hj hx
  rwa [show n - 1 - 1 = n - 2 by omega]
end
end K23

namespace K23
open PySem L2 DL
theorem textFrom_le {B : Nat} : ∀ (ts : List Str) (k : Nat) (acc : Str), (∀ t ∈ ts, t.length ≤ B) → (textFrom k acc ts).length ≤ acc.length + ts.length * (B + 2)
  | [], k, acc, _ => by simp [textFrom]
  | t :: r, k, acc, h => by
    have ih := textFrom_le r (k + 1) (acc ++ (if k > 0 then ", " else "" : String) ++ t) (fun x hx => h x (List.mem_cons_of_mem _ hx))
    have h1 := h t (List.mem_cons_self ..)
    have h2 : (Str.ofString (if k > 0 then ", " else "" : String)).length ≤ 2 := by split <;> decide
    rw [strLen_append, strLen_append] at ih
    unfold textFrom
    rw [List.length_cons, Nat.succ_mul]
    omega
theorem its_ok : ∀ d ∈ its, DL.plain d 39 = true ∧ (toPy d).showable = true ∧ (toPy d).depth ≤ 1 ∧ (toPy d).shown.length ≤ 100 := by decide +kernel
theorem shown_all {B : Nat} {Q : D → Prop} : ∀ (ds : List D), (∀ d ∈ ds, (toPy d).shown.length ≤ B) → ∀ t ∈ PyData.shownAll (toPyL ds), t.length ≤ B
  | [], _, t, h => by simp [toPyL, PyData.shownAll] at h
  | d :: r, hd, t, h => by
    simp only [toPyL, PyData.shownAll, List.mem_cons] at h
    rcases h with rfl | h
    · exact hd d (List.mem_cons_self ..)
    · exact shown_all (Q := Q) r (fun x hx => hd x (List.mem_cons_of_mem _ hx)) t h
theorem shown_len : ∀ (ds : List D), (PyData.shownAll (toPyL ds)).length = ds.length
  | [] => by simp [toPyL, PyData.shownAll]
  | d :: r => by simp [toPyL, PyData.shownAll, shown_len r]
theorem plainL_of : ∀ (ds : List D) (n : Nat), (∀ d ∈ ds, DL.plain d n = true) → plainL ds n = true
  | [], _, _ => rfl
  | d :: r, n, h => by
    simp only [plainL, Bool.and_eq_true]
    exact ⟨h d (List.mem_cons_self ..), plainL_of r n fun x hx => h x (List.mem_cons_of_mem _ hx)⟩
theorem showL_of : ∀ (ds : List D), (∀ d ∈ ds, (toPy d).showable = true) → PyData.showableAll (toPyL ds) = true
  | [], _ => by simp [toPyL, PyData.showableAll]
  | d :: r, h => by
    simp only [toPyL, PyData.showableAll, Bool.and_eq_true]
    exact ⟨h d (List.mem_cons_self ..), showL_of r fun x hx => h x (List.mem_cons_of_mem _ hx)⟩
theorem depL_of {B : Nat} : ∀ (ds : List D), (∀ d ∈ ds, (toPy d).depth ≤ B) → PyData.depthAll (toPyL ds) ≤ B
  | [], _ => by simp [toPyL, PyData.depthAll]
  | d :: r, h => by
    simp only [toPyL, PyData.depthAll]
    have h1 := h d (List.mem_cons_self ..)
    have h2 := depL_of r fun x hx => h x (List.mem_cons_of_mem _ hx)
    omega
theorem shw_its {ds : List D} (hl : ds.length ≤ 20) (h : ∀ d ∈ ds, d ∈ its) : shw (.lst ds) := by
  refine ⟨?_, ?_, ?_, ?_⟩
  · simp only [DL.plain]; exact plainL_of ds 39 fun d hd => (its_ok d (h d hd)).1
  · simp only [toPy, PyData.showable]; exact showL_of ds fun d hd => (its_ok d (h d hd)).2.1
  · simp only [toPy, PyData.depth]
    have := depL_of (B := 1) ds fun d hd => (its_ok d (h d hd)).2.2.1
    omega
  · simp only [toPy, PyData.shown, listText]
    rw [strLen_append]
    have h1 := textFrom_le (B := 100) (PyData.shownAll (toPyL ds)) 0 "[" (shown_all (Q := fun _ => True) ds fun d hd => (its_ok d (h d hd)).2.2.2)
    rw [shown_len] at h1
    have h2 : (Str.ofString "]").length = 1 := by decide
    have h3 : (Str.ofString "[").length = 1 := by decide
    rw [h3] at h1
    rw [h2]
    have h4 : ds.length * (100 + 2) ≤ 20 * (100 + 2) := Nat.mul_le_mul_right _ hl
    omega
/-- another part is another one -/
theorem its_oth : ∀ d ∈ its, ∀ x ∈ oth, eqD d x = false := by decide +kernel
theorem eqL_self {ds : List D} (h : ∀ d ∈ ds, d ∈ its) : eqL ds ds = true := by
  have p : DL.plain (.lst ds) 40 = true := by simp only [DL.plain]; exact plainL_of ds 39 fun d hd => (its_ok d (h d hd)).1
  have := eqD_refl 40 (.lst ds) p
  simpa only [eqD] using this
theorem eqL_other : ∀ {ds : List D} {j : Nat} {x : D}, (∀ d ∈ ds, d ∈ its) → j < ds.length → x ∈ oth → eqL ds (ds.take j ++ [x] ++ ds.drop (j + 1)) = false
  | [], j, x, _, hj, _ => by simp at hj
  | d :: r, 0, x, h, hj, hx => by
    simp [eqL, its_oth d (h d (List.mem_cons_self ..)) x hx]
  | d :: r, j + 1, x, h, hj, hx => by
    have ih := eqL_other (ds := r) (j := j) (x := x) (fun y hy => h y (List.mem_cons_of_mem _ hy)) (by simpa using hj) hx
    simp only [List.take_succ_cons, List.cons_append, List.drop_succ_cons, eqL]
    rw [show eqL r (r.take j ++ [x] ++ r.drop (j + 1)) = false from ih, Bool.and_false]
theorem oth_plain : ∀ x ∈ oth, DL.plain x 39 = true := by decide +kernel
end K23

namespace K23
open PySem L2 DL
section
variable {c : Wd} {A : Ad} {n : Nat} {P : D → Nat → Prop} {R : Er → Nat → Prop}
theorem arrival_rd (T : Txt c A) (hn : 5 ≤ n) (h : P (.bl true) (n - 5)) : cs_law_arrival_right_1 c A [.pen] [] n P R := by
  refine ⟨rfl, rfl, ?_⟩
  show t_law_arrival_right c A _ ⟨[.d .pen, .un, .un, .un, .un], n⟩
  unfold t_law_arrival_right
  rw [dSeq]
  simp only [dIte, dTB, dBin, dBinF, dPen, isPen, dC, dVar, dNil, dCons, dSet, dAsg, dRet, dNext, dAnd, dOr, dNot, dAndV, dOrV, dNotV, dBu, oLen, oInt, oAbs, oI, oAdd, oIx, dIx, dNeg, gPen, gN, gC, gT, gZ, dLst, dTup, dPar, dSl, dNone, dPart, oSl, dFld, dCall, dIf, dDrop, fnN, List.getElem?_cons_zero, List.getElem?_cons_succ, List.set_cons_zero, List.set_cons_succ, true_and, if_true, if_false, Bool.false_eq_true, List.length_cons, List.length_nil, Option.some.injEq, Int.reduceEq, ↓reduceIte, Nat.reduceAdd, Nat.reduceLeDiff, and_true, Nat.zero_le]
  refine parts_rd (k := 3) (by decide) (by omega) fun ds e1 e2 => ?_
  obtain ⟨x, y, z, rfl⟩ : ∃ x y z, ds = [x, y, z] := match ds, e1 with | [x, y, z], _ => ⟨x, y, z, rfl⟩
  unfold u_law_arrival_right_1
  rw [dSeq]
  simp only [dIte, dTB, dBin, dBinF, dPen, isPen, dC, dVar, dNil, dCons, dSet, dAsg, dRet, dNext, dAnd, dOr, dNot, dAndV, dOrV, dNotV, dBu, oLen, oInt, oAbs, oI, oAdd, oIx, dIx, dNeg, gPen, gN, gC, gT, gZ, dLst, dTup, dPar, dSl, dNone, dPart, oSl, dFld, dCall, dIf, dDrop, fnN, List.getElem?_cons_zero, List.getElem?_cons_succ, List.set_cons_zero, List.set_cons_succ, true_and, if_true, if_false, Bool.false_eq_true, List.length_cons, List.length_nil, Option.some.injEq, Int.reduceEq, ↓reduceIte, Nat.reduceAdd, Nat.reduceLeDiff, and_true, Nat.zero_le]
  refine ⟨x, rfl, y, rfl, z, rfl, mkc_Arrival___init___3 T ?_⟩
  refine ⟨z, rfl, x, rfl, y, rfl, mkc_Arrival___init___0_length_moment_name T ?_⟩
  unfold u_law_arrival_right_2
  rw [dSeq]
  simp only [dIte, dTB, dBin, dBinF, dPen, isPen, dC, dVar, dNil, dCons, dSet, dAsg, dRet, dNext, dAnd, dOr, dNot, dAndV, dOrV, dNotV, dBu, oLen, oInt, oAbs, oI, oAdd, oIx, dIx, dNeg, gPen, gN, gC, gT, gZ, dLst, dTup, dPar, dSl, dNone, dPart, oSl, dFld, dCall, dIf, dDrop, fnN, List.getElem?_cons_zero, List.getElem?_cons_succ, List.set_cons_zero, List.set_cons_succ, true_and, if_true, if_false, Bool.false_eq_true, List.length_cons, List.length_nil, Option.some.injEq, Int.reduceEq, ↓reduceIte, Nat.reduceAdd, Nat.reduceLeDiff, and_true, Nat.zero_le]
  refine other_rd (by simp) (by simp) (by omega) fun j w hj hw => ?_
  have ne := eqL_other e2 hj hw
  obtain ⟨a, b, d, e3⟩ : ∃ a b d, [x, y, z].take j ++ [w] ++ [x, y, z].drop (j + 1) = [a, b, d] := by
    match j, hj with
    | 0, _ => exact ⟨_, _, _, rfl⟩
    | 1, _ => exact ⟨_, _, _, rfl⟩
    | 2, _ => exact ⟨_, _, _, rfl⟩
  have pl : ∀ q ∈ [a, b, d], DL.plain q 39 = true := fun q hq => by
    rw [← e3] at hq
    rcases List.mem_append.mp hq with hq | hq
    · rcases List.mem_append.mp hq with hq | hq
      · exact (its_ok q (e2 q (List.mem_of_mem_take hq))).1
      · simp at hq; subst hq; exact oth_plain q hw
    · exact (its_ok q (e2 q (List.mem_of_mem_drop hq))).1
  rw [e3] at ne ⊢
  unfold u_law_arrival_right_3
  rw [dSeq]
  simp only [oRepr, oNe, lk_Arrival_moment, lk_Arrival_name, lk_Arrival_length, T.na_Arrival_moment, T.na_Arrival_name, T.na_Arrival_length, dIte, dTB, dBin, dBinF, dPen, isPen, dC, dVar, dNil, dCons, dSet, dAsg, dRet, dNext, dAnd, dOr, dNot, dAndV, dOrV, dNotV, dBu, oLen, oInt, oAbs, oI, oAdd, oIx, dIx, dNeg, gPen, gN, gC, gT, gZ, dLst, dTup, dPar, dSl, dNone, dPart, oSl, dFld, dCall, dIf, dDrop, fnN, List.getElem?_cons_zero, List.getElem?_cons_succ, List.set_cons_zero, List.set_cons_succ, true_and, if_true, if_false, Bool.false_eq_true, List.length_cons, List.length_nil, Option.some.injEq, Int.reduceEq, ↓reduceIte, Nat.reduceAdd, Nat.reduceLeDiff, and_true, Nat.zero_le]
  have hs := shw_its (ds := [x, y, z]) (by simp) e2
  refine ⟨hs, hs, ?_⟩
  have er : eqD (.str (toPy (.lst [x, y, z])).shown) (.str (toPy (.lst [x, y, z])).shown) = true := by simp [eqD]
  rw [er]
  simp only [Bool.not_true, Bool.false_eq_true, if_false]
  have px : ∀ q ∈ [x, y, z], DL.plain q 39 = true := fun q hq => (its_ok q (e2 q hq)).1
  have t1 : DL.plain (.tup [x, y, z]) 40 = true := by simp only [DL.plain]; exact plainL_of _ 39 px
  have t2 : DL.plain (.tup [a, b, d]) 40 = true := by simp only [DL.plain]; exact plainL_of _ 39 pl
  refine ⟨rfl, np_Arrival_Arrival T, eqA_yes T t1 t1 ⟨rfl, _, rfl, ?_⟩⟩
  rw [eqL_self e2]
  simp only [Bool.not_true, Bool.false_eq_true, if_false, if_true]
  unfold u_law_arrival_right_4
  simp only [dIte, dTB, dBin, dBinF, dPen, isPen, dC, dVar, dNil, dCons, dSet, dAsg, dRet, dNext, dAnd, dOr, dNot, dAndV, dOrV, dNotV, dBu, oLen, oInt, oAbs, oI, oAdd, oIx, dIx, dNeg, gPen, gN, gC, gT, gZ, dLst, dTup, dPar, dSl, dNone, dPart, oSl, dFld, dCall, dIf, dDrop, fnN, List.getElem?_cons_zero, List.getElem?_cons_succ, List.set_cons_zero, List.set_cons_succ, true_and, if_true, if_false, Bool.false_eq_true, List.length_cons, List.length_nil, Option.some.injEq, Int.reduceEq, ↓reduceIte, Nat.reduceAdd, Nat.reduceLeDiff, and_true, Nat.zero_le]
  refine ⟨a, rfl, b, rfl, d, rfl, mkc_Arrival___init___3 T ?_⟩
  refine ⟨rfl, np_Arrival_Arrival T, eqA_yes T t1 t2 ⟨rfl, _, rfl, ?_⟩⟩
  rw [ne]
  simp only [oTuple, Bool.not_false, if_true, dIte, dTB, dBin, dBinF, dPen, isPen, dC, dVar, dNil, dCons, dSet, dAsg, dRet, dNext, dAnd, dOr, dNot, dAndV, dOrV, dNotV, dBu, oLen, oInt, oAbs, oI, oAdd, oIx, dIx, dNeg, gPen, gN, gC, gT, gZ, dLst, dTup, dPar, dSl, dNone, dPart, oSl, dFld, dCall, dIf, dDrop, fnN, List.getElem?_cons_zero, List.getElem?_cons_succ, List.set_cons_zero, List.set_cons_succ, true_and, if_true, if_false, Bool.false_eq_true, List.length_cons, List.length_nil, Option.some.injEq, Int.reduceEq, ↓reduceIte, Nat.reduceAdd, Nat.reduceLeDiff, and_true, Nat.zero_le]
  refine ⟨rfl, np_Arrival T t1, eqA_no (kn_Arrival T t1) ⟨rfl, false, rfl, ?_⟩⟩
  simp only [Bool.false_eq_true, if_false, Bool.not_false]
  rwa [show n - 3 - 2 = n - 5 by omega]
end
end K23

namespace K23
open PySem L2 DL
section
variable {c : Wd} {A : Ad} {n : Nat} {P : D → Nat → Prop} {R : Er → Nat → Prop}
theorem pl_more {ds es : List D} {j : Nat} {w : D} (h : ∀ d ∈ ds, d ∈ its) (hw : w ∈ oth) (e : ds.take j ++ [w] ++ ds.drop (j + 1) = es) : ∀ q ∈ es, DL.plain q 39 = true := fun q hq => by
  rw [← e] at hq
  rcases List.mem_append.mp hq with hq | hq
  · rcases List.mem_append.mp hq with hq | hq
    · exact (its_ok q (h q (List.mem_of_mem_take hq))).1
    · simp at hq; subst hq; exact oth_plain q hw
  · exact (its_ok q (h q (List.mem_of_mem_drop hq))).1
theorem len_more {ds : List D} {j : Nat} {w : D} (hj : j < ds.length) : (ds.take j ++ [w] ++ ds.drop (j + 1)).length = ds.length := by
  simp
  omega
theorem both {ds es : List D} (h1 : ∀ q ∈ ds, DL.plain q 39 = true) (h2 : ∀ q ∈ es, DL.plain q 39 = true) : ∀ q ∈ ds ++ es, DL.plain q 39 = true := fun q hq => (List.mem_append.mp hq).elim (h1 q) (h2 q)
theorem turn_rd (T : Txt c A) (hn : 8 ≤ n) (h : P (.bl true) (n - 8)) : cs_law_turn_right_1 c A [.pen] [] n P R := by
  refine ⟨rfl, rfl, ?_⟩
  show t_law_turn_right c A _ ⟨[.d .pen, .un, .un, .un, .un], n⟩
  unfold t_law_turn_right
  rw [dSeq]
  simp only [dIte, dTB, dBin, dBinF, dPen, isPen, dC, dVar, dNil, dCons, dSet, dAsg, dRet, dNext, dAnd, dOr, dNot, dAndV, dOrV, dNotV, dBu, oLen, oInt, oAbs, oI, oAdd, oIx, dIx, dNeg, gPen, gN, gC, gT, gZ, dLst, dTup, dPar, dSl, dNone, dPart, oSl, dFld, dCall, dIf, dDrop, fnN, List.getElem?_cons_zero, List.getElem?_cons_succ, List.set_cons_zero, List.set_cons_succ, true_and, if_true, if_false, Bool.false_eq_true, List.length_cons, List.length_nil, Option.some.injEq, Int.reduceEq, ↓reduceIte, Nat.reduceAdd, Nat.reduceLeDiff, and_true, Nat.zero_le]
  refine parts_rd (k := 6) (by decide) (by omega) fun ds e1 e2 => ?_
  obtain ⟨x1, x2, x3, x4, x5, x6, rfl⟩ : ∃ x1 x2 x3 x4 x5 x6, ds = [x1, x2, x3, x4, x5, x6] := match ds, e1 with | [_, _, _, _, _, _], _ => ⟨_, _, _, _, _, _, rfl⟩
  unfold u_law_turn_right_1
  rw [dSeq]
  simp only [dIte, dTB, dBin, dBinF, dPen, isPen, dC, dVar, dNil, dCons, dSet, dAsg, dRet, dNext, dAnd, dOr, dNot, dAndV, dOrV, dNotV, dBu, oLen, oInt, oAbs, oI, oAdd, oIx, dIx, dNeg, gPen, gN, gC, gT, gZ, dLst, dTup, dPar, dSl, dNone, dPart, oSl, dFld, dCall, dIf, dDrop, fnN, List.getElem?_cons_zero, List.getElem?_cons_succ, List.set_cons_zero, List.set_cons_succ, true_and, if_true, if_false, Bool.false_eq_true, List.length_cons, List.length_nil, Option.some.injEq, Int.reduceEq, ↓reduceIte, Nat.reduceAdd, Nat.reduceLeDiff, and_true, Nat.zero_le]
  refine ⟨x1, rfl, x2, rfl, x3, rfl, x4, rfl, x5, rfl, x6, rfl, mkc_Turn___init___6 T ?_⟩
  unfold u_law_turn_right_2
  rw [dSeq]
  simp only [dIte, dTB, dBin, dBinF, dPen, isPen, dC, dVar, dNil, dCons, dSet, dAsg, dRet, dNext, dAnd, dOr, dNot, dAndV, dOrV, dNotV, dBu, oLen, oInt, oAbs, oI, oAdd, oIx, dIx, dNeg, gPen, gN, gC, gT, gZ, dLst, dTup, dPar, dSl, dNone, dPart, oSl, dFld, dCall, dIf, dDrop, fnN, List.getElem?_cons_zero, List.getElem?_cons_succ, List.set_cons_zero, List.set_cons_succ, true_and, if_true, if_false, Bool.false_eq_true, List.length_cons, List.length_nil, Option.some.injEq, Int.reduceEq, ↓reduceIte, Nat.reduceAdd, Nat.reduceLeDiff, and_true, Nat.zero_le]
  refine ⟨x6, rfl, x5, rfl, x4, rfl, x3, rfl, x2, rfl, x1, rfl, mkc_Turn___init___0_is_left_rest_lengths_credit_moment_name T ?_⟩
  unfold u_law_turn_right_3
  rw [dSeq]
  simp only [dIte, dTB, dBin, dBinF, dPen, isPen, dC, dVar, dNil, dCons, dSet, dAsg, dRet, dNext, dAnd, dOr, dNot, dAndV, dOrV, dNotV, dBu, oLen, oInt, oAbs, oI, oAdd, oIx, dIx, dNeg, gPen, gN, gC, gT, gZ, dLst, dTup, dPar, dSl, dNone, dPart, oSl, dFld, dCall, dIf, dDrop, fnN, List.getElem?_cons_zero, List.getElem?_cons_succ, List.set_cons_zero, List.set_cons_succ, true_and, if_true, if_false, Bool.false_eq_true, List.length_cons, List.length_nil, Option.some.injEq, Int.reduceEq, ↓reduceIte, Nat.reduceAdd, Nat.reduceLeDiff, and_true, Nat.zero_le]
  refine other_rd (by simp) (by simp) (by omega) fun j w hj hw => ?_
  have ne := eqL_other e2 hj hw
  have lm := len_more (w := w) hj
  have pm := pl_more (j := j) e2 hw rfl
  generalize [x1, x2, x3, x4, x5, x6].take j ++ [w] ++ [x1, x2, x3, x4, x5, x6].drop (j + 1) = es at ne lm pm ⊢
  obtain ⟨y1, y2, y3, y4, y5, y6, rfl⟩ : ∃ y1 y2 y3 y4 y5 y6, es = [y1, y2, y3, y4, y5, y6] := match es, lm with | [_, _, _, _, _, _], _ => ⟨_, _, _, _, _, _, rfl⟩
  unfold u_law_turn_right_4
  rw [dSeq]
  simp only [oRepr, oNe, lk_Turn_name, lk_Turn_moment, lk_Turn_credit, lk_Turn_lengths, lk_Turn_rest, lk_Turn_is_left, T.na_Turn_name, T.na_Turn_moment, T.na_Turn_credit, T.na_Turn_lengths, T.na_Turn_rest, T.na_Turn_is_left, dIte, dTB, dBin, dBinF, dPen, isPen, dC, dVar, dNil, dCons, dSet, dAsg, dRet, dNext, dAnd, dOr, dNot, dAndV, dOrV, dNotV, dBu, oLen, oInt, oAbs, oI, oAdd, oIx, dIx, dNeg, gPen, gN, gC, gT, gZ, dLst, dTup, dPar, dSl, dNone, dPart, oSl, dFld, dCall, dIf, dDrop, fnN, List.getElem?_cons_zero, List.getElem?_cons_succ, List.set_cons_zero, List.set_cons_succ, true_and, if_true, if_false, Bool.false_eq_true, List.length_cons, List.length_nil, Option.some.injEq, Int.reduceEq, ↓reduceIte, Nat.reduceAdd, Nat.reduceLeDiff, and_true, Nat.zero_le]
  have hs := shw_its (ds := [x1, x2, x3, x4, x5, x6]) (by simp) e2
  refine ⟨hs, hs, ?_⟩
  have er : eqD (.str (toPy (.lst [x1, x2, x3, x4, x5, x6])).shown) (.str (toPy (.lst [x1, x2, x3, x4, x5, x6])).shown) = true := by simp [eqD]
  rw [er]
  simp only [Bool.not_true, Bool.false_eq_true, if_false]
  have px : ∀ q ∈ [x1, x2, x3, x4, x5, x6], DL.plain q 39 = true := fun q hq => (its_ok q (e2 q hq)).1
  have t1 : DL.plain (.lst [x1, x2, x3, x4, x5, x6]) 40 = true := by simp only [DL.plain]; exact plainL_of _ 39 px
  refine ⟨rfl, np_Turn_Turn T, eqT_yes T (both px px) ⟨rfl, _, rfl, ?_⟩⟩
  rw [eqL_self e2]
  simp only [Bool.not_true, Bool.false_eq_true, if_false, if_true]
  unfold u_law_turn_right_5
  simp only [dIte, dTB, dBin, dBinF, dPen, isPen, dC, dVar, dNil, dCons, dSet, dAsg, dRet, dNext, dAnd, dOr, dNot, dAndV, dOrV, dNotV, dBu, oLen, oInt, oAbs, oI, oAdd, oIx, dIx, dNeg, gPen, gN, gC, gT, gZ, dLst, dTup, dPar, dSl, dNone, dPart, oSl, dFld, dCall, dIf, dDrop, fnN, List.getElem?_cons_zero, List.getElem?_cons_succ, List.set_cons_zero, List.set_cons_succ, true_and, if_true, if_false, Bool.false_eq_true, List.length_cons, List.length_nil, Option.some.injEq, Int.reduceEq, ↓reduceIte, Nat.reduceAdd, Nat.reduceLeDiff, and_true, Nat.zero_le]
  refine ⟨y1, rfl, y2, rfl, y3, rfl, y4, rfl, y5, rfl, y6, rfl, mkc_Turn___init___6 T ?_⟩
  refine ⟨rfl, np_Turn_Turn T, eqT_yes T (both px pm) ⟨rfl, _, rfl, ?_⟩⟩
  rw [ne]
  simp only [Bool.not_false, if_true, dIte, dTB, dBin, dBinF, dPen, isPen, dC, dVar, dNil, dCons, dSet, dAsg, dRet, dNext, dAnd, dOr, dNot, dAndV, dOrV, dNotV, dBu, oLen, oInt, oAbs, oI, oAdd, oIx, dIx, dNeg, gPen, gN, gC, gT, gZ, dLst, dTup, dPar, dSl, dNone, dPart, oSl, dFld, dCall, dIf, dDrop, fnN, List.getElem?_cons_zero, List.getElem?_cons_succ, List.set_cons_zero, List.set_cons_succ, true_and, if_true, if_false, Bool.false_eq_true, List.length_cons, List.length_nil, Option.some.injEq, Int.reduceEq, ↓reduceIte, Nat.reduceAdd, Nat.reduceLeDiff, and_true, Nat.zero_le]
  refine ⟨rfl, np_Turn T t1, eqT_no (kn_Turn T t1) ⟨rfl, false, rfl, ?_⟩⟩
  simp only [Bool.false_eq_true, if_false, Bool.not_false]
  rwa [show n - 6 - 2 = n - 8 by omega]
theorem sent_rd (T : Txt c A) (hn : 9 ≤ n) (h : P (.bl true) (n - 9)) : cs_law_sent_right_1 c A [.pen] [] n P R := by
  refine ⟨rfl, rfl, ?_⟩
  show t_law_sent_right c A _ ⟨[.d .pen, .un, .un, .un, .un], n⟩
  unfold t_law_sent_right
  rw [dSeq]
  simp only [dIte, dTB, dBin, dBinF, dPen, isPen, dC, dVar, dNil, dCons, dSet, dAsg, dRet, dNext, dAnd, dOr, dNot, dAndV, dOrV, dNotV, dBu, oLen, oInt, oAbs, oI, oAdd, oIx, dIx, dNeg, gPen, gN, gC, gT, gZ, dLst, dTup, dPar, dSl, dNone, dPart, oSl, dFld, dCall, dIf, dDrop, fnN, List.getElem?_cons_zero, List.getElem?_cons_succ, List.set_cons_zero, List.set_cons_succ, true_and, if_true, if_false, Bool.false_eq_true, List.length_cons, List.length_nil, Option.some.injEq, Int.reduceEq, ↓reduceIte, Nat.reduceAdd, Nat.reduceLeDiff, and_true, Nat.zero_le]
  refine parts_rd (k := 7) (by decide) (by omega) fun ds e1 e2 => ?_
  obtain ⟨x1, x2, x3, x4, x5, x6, x7, rfl⟩ : ∃ x1 x2 x3 x4 x5 x6 x7, ds = [x1, x2, x3, x4, x5, x6, x7] := match ds, e1 with | [_, _, _, _, _, _, _], _ => ⟨_, _, _, _, _, _, _, rfl⟩
  unfold u_law_sent_right_1
  rw [dSeq]
  simp only [dIte, dTB, dBin, dBinF, dPen, isPen, dC, dVar, dNil, dCons, dSet, dAsg, dRet, dNext, dAnd, dOr, dNot, dAndV, dOrV, dNotV, dBu, oLen, oInt, oAbs, oI, oAdd, oIx, dIx, dNeg, gPen, gN, gC, gT, gZ, dLst, dTup, dPar, dSl, dNone, dPart, oSl, dFld, dCall, dIf, dDrop, fnN, List.getElem?_cons_zero, List.getElem?_cons_succ, List.set_cons_zero, List.set_cons_succ, true_and, if_true, if_false, Bool.false_eq_true, List.length_cons, List.length_nil, Option.some.injEq, Int.reduceEq, ↓reduceIte, Nat.reduceAdd, Nat.reduceLeDiff, and_true, Nat.zero_le]
  refine ⟨x1, rfl, x2, rfl, x3, rfl, x4, rfl, x5, rfl, x6, rfl, x7, rfl, mkc_Sent___init___7 T ?_⟩
  unfold u_law_sent_right_2
  rw [dSeq]
  simp only [dIte, dTB, dBin, dBinF, dPen, isPen, dC, dVar, dNil, dCons, dSet, dAsg, dRet, dNext, dAnd, dOr, dNot, dAndV, dOrV, dNotV, dBu, oLen, oInt, oAbs, oI, oAdd, oIx, dIx, dNeg, gPen, gN, gC, gT, gZ, dLst, dTup, dPar, dSl, dNone, dPart, oSl, dFld, dCall, dIf, dDrop, fnN, List.getElem?_cons_zero, List.getElem?_cons_succ, List.set_cons_zero, List.set_cons_succ, true_and, if_true, if_false, Bool.false_eq_true, List.length_cons, List.length_nil, Option.some.injEq, Int.reduceEq, ↓reduceIte, Nat.reduceAdd, Nat.reduceLeDiff, and_true, Nat.zero_le]
  refine ⟨x7, rfl, x6, rfl, x5, rfl, x4, rfl, x1, rfl, x2, rfl, x3, rfl, mkc_Sent___init___0_bits_turn_ended_came_name_number_length T ?_⟩
  unfold u_law_sent_right_3
  rw [dSeq]
  simp only [dIte, dTB, dBin, dBinF, dPen, isPen, dC, dVar, dNil, dCons, dSet, dAsg, dRet, dNext, dAnd, dOr, dNot, dAndV, dOrV, dNotV, dBu, oLen, oInt, oAbs, oI, oAdd, oIx, dIx, dNeg, gPen, gN, gC, gT, gZ, dLst, dTup, dPar, dSl, dNone, dPart, oSl, dFld, dCall, dIf, dDrop, fnN, List.getElem?_cons_zero, List.getElem?_cons_succ, List.set_cons_zero, List.set_cons_succ, true_and, if_true, if_false, Bool.false_eq_true, List.length_cons, List.length_nil, Option.some.injEq, Int.reduceEq, ↓reduceIte, Nat.reduceAdd, Nat.reduceLeDiff, and_true, Nat.zero_le]
  refine other_rd (by simp) (by simp) (by omega) fun j w hj hw => ?_
  have ne := eqL_other e2 hj hw
  have lm := len_more (w := w) hj
  have pm := pl_more (j := j) e2 hw rfl
  generalize [x1, x2, x3, x4, x5, x6, x7].take j ++ [w] ++ [x1, x2, x3, x4, x5, x6, x7].drop (j + 1) = es at ne lm pm ⊢
  obtain ⟨y1, y2, y3, y4, y5, y6, y7, rfl⟩ : ∃ y1 y2 y3 y4 y5 y6 y7, es = [y1, y2, y3, y4, y5, y6, y7] := match es, lm with | [_, _, _, _, _, _, _], _ => ⟨_, _, _, _, _, _, _, rfl⟩
  unfold u_law_sent_right_4
  rw [dSeq]
  simp only [oRepr, oNe, lk_Sent_name, lk_Sent_number, lk_Sent_length, lk_Sent_came, lk_Sent_ended, lk_Sent_turn, lk_Sent_bits, T.na_Sent_name, T.na_Sent_number, T.na_Sent_length, T.na_Sent_came, T.na_Sent_ended, T.na_Sent_turn, T.na_Sent_bits, dIte, dTB, dBin, dBinF, dPen, isPen, dC, dVar, dNil, dCons, dSet, dAsg, dRet, dNext, dAnd, dOr, dNot, dAndV, dOrV, dNotV, dBu, oLen, oInt, oAbs, oI, oAdd, oIx, dIx, dNeg, gPen, gN, gC, gT, gZ, dLst, dTup, dPar, dSl, dNone, dPart, oSl, dFld, dCall, dIf, dDrop, fnN, List.getElem?_cons_zero, List.getElem?_cons_succ, List.set_cons_zero, List.set_cons_succ, true_and, if_true, if_false, Bool.false_eq_true, List.length_cons, List.length_nil, Option.some.injEq, Int.reduceEq, ↓reduceIte, Nat.reduceAdd, Nat.reduceLeDiff, and_true, Nat.zero_le]
  have hs := shw_its (ds := [x1, x2, x3, x4, x5, x6, x7]) (by simp) e2
  refine ⟨hs, hs, ?_⟩
  have er : eqD (.str (toPy (.lst [x1, x2, x3, x4, x5, x6, x7])).shown) (.str (toPy (.lst [x1, x2, x3, x4, x5, x6, x7])).shown) = true := by simp [eqD]
  rw [er]
  simp only [Bool.not_true, Bool.false_eq_true, if_false]
  have px : ∀ q ∈ [x1, x2, x3, x4, x5, x6, x7], DL.plain q 39 = true := fun q hq => (its_ok q (e2 q hq)).1
  have t1 : DL.plain (.lst [x1, x2, x3, x4, x5, x6, x7]) 40 = true := by simp only [DL.plain]; exact plainL_of _ 39 px
  have t2 : DL.plain (.tup [x1, x2, x3, x4, x5, x6, x7]) 40 = true := by simp only [DL.plain]; exact plainL_of _ 39 px
  unfold u_law_sent_right_5
  rw [dSeq]
  simp only [dIte, dTB, dBin, dBinF, dPen, isPen, dC, dVar, dNil, dCons, dSet, dAsg, dRet, dNext, dAnd, dOr, dNot, dAndV, dOrV, dNotV, dBu, oLen, oInt, oAbs, oI, oAdd, oIx, dIx, dNeg, gPen, gN, gC, gT, gZ, dLst, dTup, dPar, dSl, dNone, dPart, oSl, dFld, dCall, dIf, dDrop, fnN, List.getElem?_cons_zero, List.getElem?_cons_succ, List.set_cons_zero, List.set_cons_succ, true_and, if_true, if_false, Bool.false_eq_true, List.length_cons, List.length_nil, Option.some.injEq, Int.reduceEq, ↓reduceIte, Nat.reduceAdd, Nat.reduceLeDiff, and_true, Nat.zero_le]
  refine ⟨rfl, np_Sent_Sent T, eqS_yes T (both px px) ⟨rfl, _, rfl, ?_⟩⟩
  rw [eqL_self e2]
  simp only [Bool.not_true, Bool.false_eq_true, if_false, if_true]
  refine ⟨y1, rfl, y2, rfl, y3, rfl, y4, rfl, y5, rfl, y6, rfl, y7, rfl, mkc_Sent___init___7 T ?_⟩
  refine ⟨rfl, np_Sent_Sent T, eqS_yes T (both px pm) ⟨rfl, _, rfl, ?_⟩⟩
  rw [ne]
  simp only [Bool.false_eq_true, if_false]
  unfold u_law_sent_right_6
  simp only [oTuple, oInO, inS, dIte, dTB, dBin, dBinF, dPen, isPen, dC, dVar, dNil, dCons, dSet, dAsg, dRet, dNext, dAnd, dOr, dNot, dAndV, dOrV, dNotV, dBu, oLen, oInt, oAbs, oI, oAdd, oIx, dIx, dNeg, gPen, gN, gC, gT, gZ, dLst, dTup, dPar, dSl, dNone, dPart, oSl, dFld, dCall, dIf, dDrop, fnN, List.getElem?_cons_zero, List.getElem?_cons_succ, List.set_cons_zero, List.set_cons_succ, true_and, if_true, if_false, Bool.false_eq_true, List.length_cons, List.length_nil, Option.some.injEq, Int.reduceEq, ↓reduceIte, Nat.reduceAdd, Nat.reduceLeDiff, and_true, Nat.zero_le]
  have no : ∀ {y : D} {Q : D → Nat → Prop} {m : Nat}, DL.plain y 40 = true → Q (.bl false) m → sp_Sent___eq__ c A [o_Sent A x1 x2 x3 x4 x5 x6 x7, y] m Q (fun _ _ => False) := fun py q => eqS_no (kn_Sent T py) q
  have p1 : DL.plain x1 40 = true := plain_up 39 40 x1 (by decide) (px x1 (by simp))
  refine ⟨x1, rfl, rfl, no rfl ⟨rfl, false, rfl, ?_⟩⟩
  simp only [Bool.false_eq_true, if_false]
  refine ⟨t1, no t1 ⟨rfl, false, rfl, ?_⟩⟩
  simp only [Bool.false_eq_true, if_false]
  refine ⟨t2, no t2 ⟨rfl, false, rfl, ?_⟩⟩
  simp only [Bool.false_eq_true, if_false]
  refine ⟨p1, no p1 ⟨rfl, false, rfl, ?_⟩⟩
  simp only [Bool.false_eq_true, if_false, Bool.not_false]
  rwa [show n - 7 - 2 = n - 9 by omega]
end
end K23

namespace K23
open PySem L2 DL
section
variable {c : Wd} {A : Ad}
theorem laps (T : Txt c A) (NX : S → Prop) : ∀ (l : List D) (s2 : Sl) (n : Nat), 22 * l.length ≤ n → (∀ s m, NX ⟨[.un, .d .pen, s], m⟩) →
    dLoop (gN 2) (dIte (dOr (dNot (dTB (dCall (fun ds zs n P R => zs = [] ∧ (cs_law_arrival_right_1 c A) ds [] n P R) (dCons (dVar 1) (dNil)) dNil))) (dOr (dNot (dTB (dCall (fun ds zs n P R => zs = [] ∧ (cs_law_turn_right_1 c A) ds [] n P R) (dCons (dVar 1) (dNil)) dNil))) (dNot (dTB (dCall (fun ds zs n P R => zs = [] ∧ (cs_law_sent_right_1 c A) ds [] n P R) (dCons (dVar 1) (dNil)) dNil))))) (dRet (dC (.bl false))) (dNext))
      { lawN with nx := NX } l ⟨[.un, .d .pen, s2], n⟩
  | [], s2, n, hn, h => by simp only [dLoop]; exact h s2 n
  | x :: l, s2, n, hn, h => by
    simp only [List.length_cons] at hn
    simp only [dLoop, dIte, dTB, dBin, dBinF, dPen, isPen, dC, dVar, dNil, dCons, dSet, dAsg, dRet, dNext, dAnd, dOr, dNot, dAndV, dOrV, dNotV, dBu, oLen, oInt, oAbs, oI, oAdd, oIx, dIx, dNeg, gPen, gN, gC, gT, gZ, dLst, dTup, dPar, dSl, dNone, dPart, oSl, dFld, dCall, dIf, dDrop, fnN, List.getElem?_cons_zero, List.getElem?_cons_succ, List.set_cons_zero, List.set_cons_succ, true_and, if_true, if_false, Bool.false_eq_true, List.length_cons, List.length_nil, Option.some.injEq, Int.reduceEq, ↓reduceIte, Nat.reduceAdd, Nat.reduceLeDiff, and_true, Nat.zero_le]
    refine arrival_rd T (by omega) ?_
    simp only [Bool.not_true, Bool.false_eq_true, if_false]
    refine turn_rd T (by omega) ?_
    simp only [Bool.not_true, Bool.false_eq_true, if_false]
    refine sent_rd T (by omega) ?_
    simp only [Bool.not_true, Bool.false_eq_true, if_false]
    exact laps T NX l (.d x) _ (by omega) h
theorem law_plain (T : Txt c A) (_ : c.cs.length ≤ 63) : t_law c A lawN ⟨.un :: .d .pen :: List.replicate 1 .un, 1000000⟩ := by
  show t_law c A lawN ⟨[.un, .d .pen, .un], 1000000⟩
  unfold t_law
  rw [dSeq]
  simp only [dFor, dRng1, dIte, dTB, dBin, dBinF, dPen, isPen, dC, dVar, dNil, dCons, dSet, dAsg, dRet, dNext, dAnd, dOr, dNot, dAndV, dOrV, dNotV, dBu, oLen, oInt, oAbs, oI, oAdd, oIx, dIx, dNeg, gPen, gN, gC, gT, gZ, dLst, dTup, dPar, dSl, dNone, dPart, oSl, dFld, dCall, dIf, dDrop, fnN, List.getElem?_cons_zero, List.getElem?_cons_succ, List.set_cons_zero, List.set_cons_succ, true_and, if_true, if_false, Bool.false_eq_true, List.length_cons, List.length_nil, Option.some.injEq, Int.reduceEq, ↓reduceIte, Nat.reduceAdd, Nat.reduceLeDiff, and_true, Nat.zero_le]
  refine ⟨⟨by decide, by decide⟩, ?_⟩
  refine laps T _ _ .un 1000000 (by decide) fun s m => ?_
  unfold u_law_1
  rw [dSeq]
  simp only [dIte, dTB, dBin, dBinF, dPen, isPen, dC, dVar, dNil, dCons, dSet, dAsg, dRet, dNext, dAnd, dOr, dNot, dAndV, dOrV, dNotV, dBu, oLen, oInt, oAbs, oI, oAdd, oIx, dIx, dNeg, gPen, gN, gC, gT, gZ, dLst, dTup, dPar, dSl, dNone, dPart, oSl, dFld, dCall, dIf, dDrop, fnN, List.getElem?_cons_zero, List.getElem?_cons_succ, List.set_cons_zero, List.set_cons_succ, true_and, if_true, if_false, Bool.false_eq_true, List.length_cons, List.length_nil, Option.some.injEq, Int.reduceEq, ↓reduceIte, Nat.reduceAdd, Nat.reduceLeDiff, and_true, Nat.zero_le]
  refine mkc_Arrival___init___3 T (mkc_Arrival___init___3 T ⟨rfl, np_Arrival_Arrival T, eqA_yes T rfl rfl ⟨rfl, _, rfl, ?_⟩⟩)
  rw [show eqL [D.int 0, .str ("a" : Str), .tup [.int 1]] [D.int 0, .str ("a" : Str), .lst [.int 1]] = false from by decide +kernel]
  simp only [Bool.false_eq_true, if_false]
  refine mkc_Arrival___init___3 T (mkc_Turn___init___6 T ⟨rfl, np_Arrival_Turn T, eqA_no (kn_Arrival_Turn T) ⟨rfl, _, rfl, ?_⟩⟩)
  simp only [Bool.false_eq_true, if_false]
  unfold u_law_2
  simp only [dIte, dTB, dBin, dBinF, dPen, isPen, dC, dVar, dNil, dCons, dSet, dAsg, dRet, dNext, dAnd, dOr, dNot, dAndV, dOrV, dNotV, dBu, oLen, oInt, oAbs, oI, oAdd, oIx, dIx, dNeg, gPen, gN, gC, gT, gZ, dLst, dTup, dPar, dSl, dNone, dPart, oSl, dFld, dCall, dIf, dDrop, fnN, List.getElem?_cons_zero, List.getElem?_cons_succ, List.set_cons_zero, List.set_cons_succ, true_and, if_true, if_false, Bool.false_eq_true, List.length_cons, List.length_nil, Option.some.injEq, Int.reduceEq, ↓reduceIte, Nat.reduceAdd, Nat.reduceLeDiff, and_true, Nat.zero_le]
  refine mkc_Turn___init___6 T (mkc_Sent___init___7 T ⟨rfl, np_Turn_Sent T, eqT_no (kn_Turn_Sent T) ⟨rfl, _, rfl, ?_⟩⟩)
  simp only [Bool.not_false, if_true]
  refine mkc_Arrival___init___3 T (mkc_Arrival___init___3 T ⟨rfl, np_Arrival_Arrival T, eqA_yes T rfl rfl ⟨rfl, _, rfl, ?_⟩⟩)
  rfl
end
end K23

namespace K23
open PySem L2 DL
theorem law_fn {P : Program} {w : World} {K : PySem.W.Frag} {mg : Str → Option Value} {base : Heap} {A : Ad} {fd : FuncData} (F : Fun K "law" "law" s_law A.f_law fd) (T : ∀ p cs, Txt (lawWd P w K mg base p cs) A) : FnG (lawWd P w K mg base 0 []) 5 A.f_law fd ["_law_script"] (spLaw K) := by
  obtain ⟨fdP, FP⟩ := (T 0 []).F_law_pen
  have GP : FnG (lawWd P w K mg base 0 []) 1 A.f_law_pen fdP ["_law_script"] (spPen K) := pen_ok (c := lawWd P w K mg base 0 []) (fun_d FP) ⟨rfl, rfl, rfl, by decide +kernel, rfl, by decide +kernel, by decide +kernel⟩ (.inl rfl) rfl (T 0 []).no_list
  exact law_ok (N := N_law) (n := 1) (t := fun c => t_law c A) (fun_d F) sc_law rfl rfl rfl (.inl rfl) (by first | exact .inl rfl | exact .inr rfl) rfl GP FP.kp (T 0 []).mg_law_pen (kbn_0 FP fun _ _ _ _ _ _ us hl => match us, hl with | [_], _ => rfl) (by decide) (fun env h => rfl)
    (fun X cf W hc B => by
      obtain ⟨p, cs, e⟩ := hc
      exact dd_law (by rw [e]; exact T p cs) X cf W rfl B)
    (fun p ns hn => law_plain (T p ns) hn)
theorem done {l : PySem.W.OpenLaw} {w : World} {K : PySem.W.Frag} {h : Heap} {mg : Str → Option Value} {fa : Addr} {a_Arrival___init__ a_Arrival___eq__ a_Turn___init__ a_Turn___eq__ a_Sent___init__ a_Sent___eq__ a_law_pen a_law_draw a_law_pick a_law_parts a_law_other a_law_arrival_right a_law_turn_right a_law_sent_right a_law b_Arrival b_Turn b_Sent : Addr} (X : K.In h) (G : h.Ns mainGlobals mg) (hfa : mg "law" = some (.ref fa))
    {oc_Arrival___init__ kV_Arrival___init__ dc_Arrival___init__ pm_Arrival___init__ cd_Arrival___init__ ct_Arrival___init__ : Value} {od_Arrival___init__ an_Arrival___init__ : Option Addr} {sl_Arrival___init__ : Array (Option Value)}
    {oc_Arrival___eq__ kV_Arrival___eq__ dc_Arrival___eq__ pm_Arrival___eq__ cd_Arrival___eq__ ct_Arrival___eq__ : Value} {od_Arrival___eq__ an_Arrival___eq__ : Option Addr} {sl_Arrival___eq__ : Array (Option Value)}
    {oc_Turn___init__ kV_Turn___init__ dc_Turn___init__ pm_Turn___init__ cd_Turn___init__ ct_Turn___init__ : Value} {od_Turn___init__ an_Turn___init__ : Option Addr} {sl_Turn___init__ : Array (Option Value)}
    {oc_Turn___eq__ kV_Turn___eq__ dc_Turn___eq__ pm_Turn___eq__ cd_Turn___eq__ ct_Turn___eq__ : Value} {od_Turn___eq__ an_Turn___eq__ : Option Addr} {sl_Turn___eq__ : Array (Option Value)}
    {oc_Sent___init__ kV_Sent___init__ dc_Sent___init__ pm_Sent___init__ cd_Sent___init__ ct_Sent___init__ : Value} {od_Sent___init__ an_Sent___init__ : Option Addr} {sl_Sent___init__ : Array (Option Value)}
    {oc_Sent___eq__ kV_Sent___eq__ dc_Sent___eq__ pm_Sent___eq__ cd_Sent___eq__ ct_Sent___eq__ : Value} {od_Sent___eq__ an_Sent___eq__ : Option Addr} {sl_Sent___eq__ : Array (Option Value)}
    {oc_law_pen kV_law_pen dc_law_pen pm_law_pen cd_law_pen ct_law_pen : Value} {od_law_pen an_law_pen : Option Addr} {sl_law_pen : Array (Option Value)}
    {oc_law_draw kV_law_draw dc_law_draw pm_law_draw cd_law_draw ct_law_draw : Value} {od_law_draw an_law_draw : Option Addr} {sl_law_draw : Array (Option Value)}
    {oc_law_pick kV_law_pick dc_law_pick pm_law_pick cd_law_pick ct_law_pick : Value} {od_law_pick an_law_pick : Option Addr} {sl_law_pick : Array (Option Value)}
    {oc_law_parts kV_law_parts dc_law_parts pm_law_parts cd_law_parts ct_law_parts : Value} {od_law_parts an_law_parts : Option Addr} {sl_law_parts : Array (Option Value)}
    {oc_law_other kV_law_other dc_law_other pm_law_other cd_law_other ct_law_other : Value} {od_law_other an_law_other : Option Addr} {sl_law_other : Array (Option Value)}
    {oc_law_arrival_right kV_law_arrival_right dc_law_arrival_right pm_law_arrival_right cd_law_arrival_right ct_law_arrival_right : Value} {od_law_arrival_right an_law_arrival_right : Option Addr} {sl_law_arrival_right : Array (Option Value)}
    {oc_law_turn_right kV_law_turn_right dc_law_turn_right pm_law_turn_right cd_law_turn_right ct_law_turn_right : Value} {od_law_turn_right an_law_turn_right : Option Addr} {sl_law_turn_right : Array (Option Value)}
    {oc_law_sent_right kV_law_sent_right dc_law_sent_right pm_law_sent_right cd_law_sent_right ct_law_sent_right : Value} {od_law_sent_right an_law_sent_right : Option Addr} {sl_law_sent_right : Array (Option Value)}
    {oc_law kV_law dc_law pm_law cd_law ct_law : Value} {od_law an_law : Option Addr} {sl_law : Array (Option Value)}
    (h_g_Arrival : PySem.W.nsIn K mainGlobals "Arrival" = some (some (.ref b_Arrival)))
    (h_g_Turn : PySem.W.nsIn K mainGlobals "Turn" = some (some (.ref b_Turn)))
    (h_g_Sent : PySem.W.nsIn K mainGlobals "Sent" = some (some (.ref b_Sent)))
    (h_cg : PySem.W.specialIn K (.builtin "object.__class__") "__get__" = some (some (.builtin "getset_descriptor.__get__")))
    (h_ct : PySem.W.takesIn K (.builtin "object.__class__") = some true)
    (h_no_abs : PySem.W.nsIn K mainGlobals "abs" = some none)
    (h_no_int : PySem.W.nsIn K mainGlobals "int" = some none)
    (h_no_isinstance : PySem.W.nsIn K mainGlobals "isinstance" = some none)
    (h_no_len : PySem.W.nsIn K mainGlobals "len" = some none)
    (h_no_list : PySem.W.nsIn K mainGlobals "list" = some none)
    (h_no_range : PySem.W.nsIn K mainGlobals "range" = some none)
    (h_no_repr : PySem.W.nsIn K mainGlobals "repr" = some none)
    (h_no_tuple : PySem.W.nsIn K mainGlobals "tuple" = some none)
    (h_a_Arrival___init__ : PySem.W.findIn K (.ref b_Arrival) "__init__" = some (some (.ref a_Arrival___init__)))
    (h_i_Arrival___init__ : PySem.W.isFn K (.ref a_Arrival___init__) = true)
    (h_l_Arrival___init__ : K.lookup a_Arrival___init__ = some ⟨oc_Arrival___init__, od_Arrival___init__, .func (PySem.W.fnOf "__init__" "Arrival.__init__" (defArgs s_Arrival___init__) (defBody s_Arrival___init__) (defScope s_Arrival___init__) .none kV_Arrival___init__ dc_Arrival___init__ pm_Arrival___init__ an_Arrival___init__ cd_Arrival___init__ ct_Arrival___init__), sl_Arrival___init__⟩)
    (h_c_Arrival___init__ : PySem.W.codeIn K cd_Arrival___init__ "Arrival.__init__" = true)
    (h_k_Arrival___init__ : PySem.W.keepIn K (.ref a_Arrival___init__) = true)
    (h_a_Arrival___eq__ : PySem.W.findIn K (.ref b_Arrival) "__eq__" = some (some (.ref a_Arrival___eq__)))
    (h_i_Arrival___eq__ : PySem.W.isFn K (.ref a_Arrival___eq__) = true)
    (h_l_Arrival___eq__ : K.lookup a_Arrival___eq__ = some ⟨oc_Arrival___eq__, od_Arrival___eq__, .func (PySem.W.fnOf "__eq__" "Arrival.__eq__" (defArgs s_Arrival___eq__) (defBody s_Arrival___eq__) (defScope s_Arrival___eq__) .none kV_Arrival___eq__ dc_Arrival___eq__ pm_Arrival___eq__ an_Arrival___eq__ cd_Arrival___eq__ ct_Arrival___eq__), sl_Arrival___eq__⟩)
    (h_c_Arrival___eq__ : PySem.W.codeIn K cd_Arrival___eq__ "Arrival.__eq__" = true)
    (h_k_Arrival___eq__ : PySem.W.keepIn K (.ref a_Arrival___eq__) = true)
    (h_a_Turn___init__ : PySem.W.findIn K (.ref b_Turn) "__init__" = some (some (.ref a_Turn___init__)))
    (h_i_Turn___init__ : PySem.W.isFn K (.ref a_Turn___init__) = true)
    (h_l_Turn___init__ : K.lookup a_Turn___init__ = some ⟨oc_Turn___init__, od_Turn___init__, .func (PySem.W.fnOf "__init__" "Turn.__init__" (defArgs s_Turn___init__) (defBody s_Turn___init__) (defScope s_Turn___init__) .none kV_Turn___init__ dc_Turn___init__ pm_Turn___init__ an_Turn___init__ cd_Turn___init__ ct_Turn___init__), sl_Turn___init__⟩)
    (h_c_Turn___init__ : PySem.W.codeIn K cd_Turn___init__ "Turn.__init__" = true)
    (h_k_Turn___init__ : PySem.W.keepIn K (.ref a_Turn___init__) = true)
    (h_a_Turn___eq__ : PySem.W.findIn K (.ref b_Turn) "__eq__" = some (some (.ref a_Turn___eq__)))
    (h_i_Turn___eq__ : PySem.W.isFn K (.ref a_Turn___eq__) = true)
    (h_l_Turn___eq__ : K.lookup a_Turn___eq__ = some ⟨oc_Turn___eq__, od_Turn___eq__, .func (PySem.W.fnOf "__eq__" "Turn.__eq__" (defArgs s_Turn___eq__) (defBody s_Turn___eq__) (defScope s_Turn___eq__) .none kV_Turn___eq__ dc_Turn___eq__ pm_Turn___eq__ an_Turn___eq__ cd_Turn___eq__ ct_Turn___eq__), sl_Turn___eq__⟩)
    (h_c_Turn___eq__ : PySem.W.codeIn K cd_Turn___eq__ "Turn.__eq__" = true)
    (h_k_Turn___eq__ : PySem.W.keepIn K (.ref a_Turn___eq__) = true)
    (h_a_Sent___init__ : PySem.W.findIn K (.ref b_Sent) "__init__" = some (some (.ref a_Sent___init__)))
    (h_i_Sent___init__ : PySem.W.isFn K (.ref a_Sent___init__) = true)
    (h_l_Sent___init__ : K.lookup a_Sent___init__ = some ⟨oc_Sent___init__, od_Sent___init__, .func (PySem.W.fnOf "__init__" "Sent.__init__" (defArgs s_Sent___init__) (defBody s_Sent___init__) (defScope s_Sent___init__) .none kV_Sent___init__ dc_Sent___init__ pm_Sent___init__ an_Sent___init__ cd_Sent___init__ ct_Sent___init__), sl_Sent___init__⟩)
    (h_c_Sent___init__ : PySem.W.codeIn K cd_Sent___init__ "Sent.__init__" = true)
    (h_k_Sent___init__ : PySem.W.keepIn K (.ref a_Sent___init__) = true)
    (h_a_Sent___eq__ : PySem.W.findIn K (.ref b_Sent) "__eq__" = some (some (.ref a_Sent___eq__)))
    (h_i_Sent___eq__ : PySem.W.isFn K (.ref a_Sent___eq__) = true)
    (h_l_Sent___eq__ : K.lookup a_Sent___eq__ = some ⟨oc_Sent___eq__, od_Sent___eq__, .func (PySem.W.fnOf "__eq__" "Sent.__eq__" (defArgs s_Sent___eq__) (defBody s_Sent___eq__) (defScope s_Sent___eq__) .none kV_Sent___eq__ dc_Sent___eq__ pm_Sent___eq__ an_Sent___eq__ cd_Sent___eq__ ct_Sent___eq__), sl_Sent___eq__⟩)
    (h_c_Sent___eq__ : PySem.W.codeIn K cd_Sent___eq__ "Sent.__eq__" = true)
    (h_k_Sent___eq__ : PySem.W.keepIn K (.ref a_Sent___eq__) = true)
    (h_a_law_pen : PySem.W.nsIn K mainGlobals "_law_pen" = some (some (.ref a_law_pen)))
    (h_l_law_pen : K.lookup a_law_pen = some ⟨oc_law_pen, od_law_pen, .func (PySem.W.fnOf "_law_pen" "_law_pen" (defArgs s_law_pen) (defBody s_law_pen) (defScope s_law_pen) .none kV_law_pen dc_law_pen pm_law_pen an_law_pen cd_law_pen ct_law_pen), sl_law_pen⟩)
    (h_c_law_pen : PySem.W.codeIn K cd_law_pen "_law_pen" = true)
    (h_k_law_pen : PySem.W.keepIn K (.ref a_law_pen) = true)
    (h_a_law_draw : PySem.W.nsIn K mainGlobals "_law_draw" = some (some (.ref a_law_draw)))
    (h_l_law_draw : K.lookup a_law_draw = some ⟨oc_law_draw, od_law_draw, .func (PySem.W.fnOf "_law_draw" "_law_draw" (defArgs s_law_draw) (defBody s_law_draw) (defScope s_law_draw) .none kV_law_draw dc_law_draw pm_law_draw an_law_draw cd_law_draw ct_law_draw), sl_law_draw⟩)
    (h_c_law_draw : PySem.W.codeIn K cd_law_draw "_law_draw" = true)
    (h_k_law_draw : PySem.W.keepIn K (.ref a_law_draw) = true)
    (h_a_law_pick : PySem.W.nsIn K mainGlobals "_law_pick" = some (some (.ref a_law_pick)))
    (h_l_law_pick : K.lookup a_law_pick = some ⟨oc_law_pick, od_law_pick, .func (PySem.W.fnOf "_law_pick" "_law_pick" (defArgs s_law_pick) (defBody s_law_pick) (defScope s_law_pick) .none kV_law_pick dc_law_pick pm_law_pick an_law_pick cd_law_pick ct_law_pick), sl_law_pick⟩)
    (h_c_law_pick : PySem.W.codeIn K cd_law_pick "_law_pick" = true)
    (h_k_law_pick : PySem.W.keepIn K (.ref a_law_pick) = true)
    (h_a_law_parts : PySem.W.nsIn K mainGlobals "_law_parts" = some (some (.ref a_law_parts)))
    (h_l_law_parts : K.lookup a_law_parts = some ⟨oc_law_parts, od_law_parts, .func (PySem.W.fnOf "_law_parts" "_law_parts" (defArgs s_law_parts) (defBody s_law_parts) (defScope s_law_parts) .none kV_law_parts dc_law_parts pm_law_parts an_law_parts cd_law_parts ct_law_parts), sl_law_parts⟩)
    (h_c_law_parts : PySem.W.codeIn K cd_law_parts "_law_parts" = true)
    (h_k_law_parts : PySem.W.keepIn K (.ref a_law_parts) = true)
    (h_a_law_other : PySem.W.nsIn K mainGlobals "_law_other" = some (some (.ref a_law_other)))
    (h_l_law_other : K.lookup a_law_other = some ⟨oc_law_other, od_law_other, .func (PySem.W.fnOf "_law_other" "_law_other" (defArgs s_law_other) (defBody s_law_other) (defScope s_law_other) .none kV_law_other dc_law_other pm_law_other an_law_other cd_law_other ct_law_other), sl_law_other⟩)
    (h_c_law_other : PySem.W.codeIn K cd_law_other "_law_other" = true)
    (h_k_law_other : PySem.W.keepIn K (.ref a_law_other) = true)
    (h_a_law_arrival_right : PySem.W.nsIn K mainGlobals "_law_arrival_right" = some (some (.ref a_law_arrival_right)))
    (h_l_law_arrival_right : K.lookup a_law_arrival_right = some ⟨oc_law_arrival_right, od_law_arrival_right, .func (PySem.W.fnOf "_law_arrival_right" "_law_arrival_right" (defArgs s_law_arrival_right) (defBody s_law_arrival_right) (defScope s_law_arrival_right) .none kV_law_arrival_right dc_law_arrival_right pm_law_arrival_right an_law_arrival_right cd_law_arrival_right ct_law_arrival_right), sl_law_arrival_right⟩)
    (h_c_law_arrival_right : PySem.W.codeIn K cd_law_arrival_right "_law_arrival_right" = true)
    (h_k_law_arrival_right : PySem.W.keepIn K (.ref a_law_arrival_right) = true)
    (h_a_law_turn_right : PySem.W.nsIn K mainGlobals "_law_turn_right" = some (some (.ref a_law_turn_right)))
    (h_l_law_turn_right : K.lookup a_law_turn_right = some ⟨oc_law_turn_right, od_law_turn_right, .func (PySem.W.fnOf "_law_turn_right" "_law_turn_right" (defArgs s_law_turn_right) (defBody s_law_turn_right) (defScope s_law_turn_right) .none kV_law_turn_right dc_law_turn_right pm_law_turn_right an_law_turn_right cd_law_turn_right ct_law_turn_right), sl_law_turn_right⟩)
    (h_c_law_turn_right : PySem.W.codeIn K cd_law_turn_right "_law_turn_right" = true)
    (h_k_law_turn_right : PySem.W.keepIn K (.ref a_law_turn_right) = true)
    (h_a_law_sent_right : PySem.W.nsIn K mainGlobals "_law_sent_right" = some (some (.ref a_law_sent_right)))
    (h_l_law_sent_right : K.lookup a_law_sent_right = some ⟨oc_law_sent_right, od_law_sent_right, .func (PySem.W.fnOf "_law_sent_right" "_law_sent_right" (defArgs s_law_sent_right) (defBody s_law_sent_right) (defScope s_law_sent_right) .none kV_law_sent_right dc_law_sent_right pm_law_sent_right an_law_sent_right cd_law_sent_right ct_law_sent_right), sl_law_sent_right⟩)
    (h_c_law_sent_right : PySem.W.codeIn K cd_law_sent_right "_law_sent_right" = true)
    (h_k_law_sent_right : PySem.W.keepIn K (.ref a_law_sent_right) = true)
    (h_a_law : PySem.W.nsIn K mainGlobals "law" = some (some (.ref a_law)))
    (h_l_law : K.lookup a_law = some ⟨oc_law, od_law, .func (PySem.W.fnOf "law" "law" (defArgs s_law) (defBody s_law) (defScope s_law) .none kV_law dc_law pm_law an_law cd_law ct_law), sl_law⟩)
    (h_c_law : PySem.W.codeIn K cd_law "law" = true)
    (h_k_law : PySem.W.keepIn K (.ref a_law) = true)
    (h_mk_Arrival : PySem.W.makesIn K b_Arrival = true)
    (h_kc_Arrival : PySem.W.keepIn K (.ref b_Arrival) = true)
    (h_pg_Arrival : PySem.W.plainGet K b_Arrival Str.empty = true)
    (h_hd_Arrival : PySem.W.hasDictIn K b_Arrival = true)
    (h_po_Arrival : PySem.W.plainOver K b_Arrival = true)
    (h_sa_Arrival : PySem.W.findIn K (.ref b_Arrival) "__setattr__" = some (some (.builtin "object.__setattr__")))
    (h_cc_Arrival : PySem.W.findIn K (.ref b_Arrival) "__class__" = some (some (.builtin "object.__class__")))
    (h_ob_Arrival : PySem.W.mroIn K b_Arrival (.type "object") = some true)
    (h_ne_Arrival : PySem.W.findIn K (.ref b_Arrival) "__ne__" = some (some (.builtin "object.__ne__")))
    (h_bt_Arrival_NoneType : PySem.W.mroIn K b_Arrival (.type "NoneType") = some false)
    (h_bt_Arrival_bool : PySem.W.mroIn K b_Arrival (.type "bool") = some false)
    (h_bt_Arrival_int : PySem.W.mroIn K b_Arrival (.type "int") = some false)
    (h_bt_Arrival_str : PySem.W.mroIn K b_Arrival (.type "str") = some false)
    (h_bt_Arrival_list : PySem.W.mroIn K b_Arrival (.type "list") = some false)
    (h_bt_Arrival_tuple : PySem.W.mroIn K b_Arrival (.type "tuple") = some false)
    (h_bt_Arrival_dict : PySem.W.mroIn K b_Arrival (.type "dict") = some false)
    (h_na_Arrival_moment : PySem.W.findIn K (.ref b_Arrival) "moment" = some none)
    (h_na_Arrival_name : PySem.W.findIn K (.ref b_Arrival) "name" = some none)
    (h_na_Arrival_length : PySem.W.findIn K (.ref b_Arrival) "length" = some none)
    (h_kb_Arrival_NoneType : PySem.W.kitOne K (.type "NoneType") (.ref b_Arrival) = some false)
    (h_nf_Arrival_NoneType : PySem.W.notFirst K b_Arrival (.type "NoneType") = true)
    (h_kb_Arrival_bool : PySem.W.kitOne K (.type "bool") (.ref b_Arrival) = some false)
    (h_nf_Arrival_bool : PySem.W.notFirst K b_Arrival (.type "bool") = true)
    (h_kb_Arrival_int : PySem.W.kitOne K (.type "int") (.ref b_Arrival) = some false)
    (h_nf_Arrival_int : PySem.W.notFirst K b_Arrival (.type "int") = true)
    (h_kb_Arrival_str : PySem.W.kitOne K (.type "str") (.ref b_Arrival) = some false)
    (h_nf_Arrival_str : PySem.W.notFirst K b_Arrival (.type "str") = true)
    (h_kb_Arrival_list : PySem.W.kitOne K (.type "list") (.ref b_Arrival) = some false)
    (h_nf_Arrival_list : PySem.W.notFirst K b_Arrival (.type "list") = true)
    (h_kb_Arrival_tuple : PySem.W.kitOne K (.type "tuple") (.ref b_Arrival) = some false)
    (h_nf_Arrival_tuple : PySem.W.notFirst K b_Arrival (.type "tuple") = true)
    (h_kb_Arrival_dict : PySem.W.kitOne K (.type "dict") (.ref b_Arrival) = some false)
    (h_nf_Arrival_dict : PySem.W.notFirst K b_Arrival (.type "dict") = true)
    (h_kc_Arrival_Arrival : PySem.W.kitOne K (.ref b_Arrival) (.ref b_Arrival) = some true)
    (h_nf_Arrival_c_Arrival : PySem.W.notFirst K b_Arrival (.ref b_Arrival) = true)
    (h_kc_Arrival_Turn : PySem.W.kitOne K (.ref b_Turn) (.ref b_Arrival) = some false)
    (h_nf_Arrival_c_Turn : PySem.W.notFirst K b_Arrival (.ref b_Turn) = true)
    (h_kc_Arrival_Sent : PySem.W.kitOne K (.ref b_Sent) (.ref b_Arrival) = some false)
    (h_nf_Arrival_c_Sent : PySem.W.notFirst K b_Arrival (.ref b_Sent) = true)
    (h_mk_Turn : PySem.W.makesIn K b_Turn = true)
    (h_kc_Turn : PySem.W.keepIn K (.ref b_Turn) = true)
    (h_pg_Turn : PySem.W.plainGet K b_Turn Str.empty = true)
    (h_hd_Turn : PySem.W.hasDictIn K b_Turn = true)
    (h_po_Turn : PySem.W.plainOver K b_Turn = true)
    (h_sa_Turn : PySem.W.findIn K (.ref b_Turn) "__setattr__" = some (some (.builtin "object.__setattr__")))
    (h_cc_Turn : PySem.W.findIn K (.ref b_Turn) "__class__" = some (some (.builtin "object.__class__")))
    (h_ob_Turn : PySem.W.mroIn K b_Turn (.type "object") = some true)
    (h_ne_Turn : PySem.W.findIn K (.ref b_Turn) "__ne__" = some (some (.builtin "object.__ne__")))
    (h_bt_Turn_NoneType : PySem.W.mroIn K b_Turn (.type "NoneType") = some false)
    (h_bt_Turn_bool : PySem.W.mroIn K b_Turn (.type "bool") = some false)
    (h_bt_Turn_int : PySem.W.mroIn K b_Turn (.type "int") = some false)
    (h_bt_Turn_str : PySem.W.mroIn K b_Turn (.type "str") = some false)
    (h_bt_Turn_list : PySem.W.mroIn K b_Turn (.type "list") = some false)
    (h_bt_Turn_tuple : PySem.W.mroIn K b_Turn (.type "tuple") = some false)
    (h_bt_Turn_dict : PySem.W.mroIn K b_Turn (.type "dict") = some false)
    (h_na_Turn_name : PySem.W.findIn K (.ref b_Turn) "name" = some none)
    (h_na_Turn_moment : PySem.W.findIn K (.ref b_Turn) "moment" = some none)
    (h_na_Turn_credit : PySem.W.findIn K (.ref b_Turn) "credit" = some none)
    (h_na_Turn_lengths : PySem.W.findIn K (.ref b_Turn) "lengths" = some none)
    (h_na_Turn_rest : PySem.W.findIn K (.ref b_Turn) "rest" = some none)
    (h_na_Turn_is_left : PySem.W.findIn K (.ref b_Turn) "is_left" = some none)
    (h_kb_Turn_NoneType : PySem.W.kitOne K (.type "NoneType") (.ref b_Turn) = some false)
    (h_nf_Turn_NoneType : PySem.W.notFirst K b_Turn (.type "NoneType") = true)
    (h_kb_Turn_bool : PySem.W.kitOne K (.type "bool") (.ref b_Turn) = some false)
    (h_nf_Turn_bool : PySem.W.notFirst K b_Turn (.type "bool") = true)
    (h_kb_Turn_int : PySem.W.kitOne K (.type "int") (.ref b_Turn) = some false)
    (h_nf_Turn_int : PySem.W.notFirst K b_Turn (.type "int") = true)
    (h_kb_Turn_str : PySem.W.kitOne K (.type "str") (.ref b_Turn) = some false)
    (h_nf_Turn_str : PySem.W.notFirst K b_Turn (.type "str") = true)
    (h_kb_Turn_list : PySem.W.kitOne K (.type "list") (.ref b_Turn) = some false)
    (h_nf_Turn_list : PySem.W.notFirst K b_Turn (.type "list") = true)
    (h_kb_Turn_tuple : PySem.W.kitOne K (.type "tuple") (.ref b_Turn) = some false)
    (h_nf_Turn_tuple : PySem.W.notFirst K b_Turn (.type "tuple") = true)
    (h_kb_Turn_dict : PySem.W.kitOne K (.type "dict") (.ref b_Turn) = some false)
    (h_nf_Turn_dict : PySem.W.notFirst K b_Turn (.type "dict") = true)
    (h_kc_Turn_Arrival : PySem.W.kitOne K (.ref b_Arrival) (.ref b_Turn) = some false)
    (h_nf_Turn_c_Arrival : PySem.W.notFirst K b_Turn (.ref b_Arrival) = true)
    (h_kc_Turn_Turn : PySem.W.kitOne K (.ref b_Turn) (.ref b_Turn) = some true)
    (h_nf_Turn_c_Turn : PySem.W.notFirst K b_Turn (.ref b_Turn) = true)
    (h_kc_Turn_Sent : PySem.W.kitOne K (.ref b_Sent) (.ref b_Turn) = some false)
    (h_nf_Turn_c_Sent : PySem.W.notFirst K b_Turn (.ref b_Sent) = true)
    (h_mk_Sent : PySem.W.makesIn K b_Sent = true)
    (h_kc_Sent : PySem.W.keepIn K (.ref b_Sent) = true)
    (h_pg_Sent : PySem.W.plainGet K b_Sent Str.empty = true)
    (h_hd_Sent : PySem.W.hasDictIn K b_Sent = true)
    (h_po_Sent : PySem.W.plainOver K b_Sent = true)
    (h_sa_Sent : PySem.W.findIn K (.ref b_Sent) "__setattr__" = some (some (.builtin "object.__setattr__")))
    (h_cc_Sent : PySem.W.findIn K (.ref b_Sent) "__class__" = some (some (.builtin "object.__class__")))
    (h_ob_Sent : PySem.W.mroIn K b_Sent (.type "object") = some true)
    (h_ne_Sent : PySem.W.findIn K (.ref b_Sent) "__ne__" = some (some (.builtin "object.__ne__")))
    (h_bt_Sent_NoneType : PySem.W.mroIn K b_Sent (.type "NoneType") = some false)
    (h_bt_Sent_bool : PySem.W.mroIn K b_Sent (.type "bool") = some false)
    (h_bt_Sent_int : PySem.W.mroIn K b_Sent (.type "int") = some false)
    (h_bt_Sent_str : PySem.W.mroIn K b_Sent (.type "str") = some false)
    (h_bt_Sent_list : PySem.W.mroIn K b_Sent (.type "list") = some false)
    (h_bt_Sent_tuple : PySem.W.mroIn K b_Sent (.type "tuple") = some false)
    (h_bt_Sent_dict : PySem.W.mroIn K b_Sent (.type "dict") = some false)
    (h_na_Sent_name : PySem.W.findIn K (.ref b_Sent) "name" = some none)
    (h_na_Sent_number : PySem.W.findIn K (.ref b_Sent) "number" = some none)
    (h_na_Sent_length : PySem.W.findIn K (.ref b_Sent) "length" = some none)
    (h_na_Sent_came : PySem.W.findIn K (.ref b_Sent) "came" = some none)
    (h_na_Sent_ended : PySem.W.findIn K (.ref b_Sent) "ended" = some none)
    (h_na_Sent_turn : PySem.W.findIn K (.ref b_Sent) "turn" = some none)
    (h_na_Sent_bits : PySem.W.findIn K (.ref b_Sent) "bits" = some none)
    (h_kb_Sent_NoneType : PySem.W.kitOne K (.type "NoneType") (.ref b_Sent) = some false)
    (h_nf_Sent_NoneType : PySem.W.notFirst K b_Sent (.type "NoneType") = true)
    (h_kb_Sent_bool : PySem.W.kitOne K (.type "bool") (.ref b_Sent) = some false)
    (h_nf_Sent_bool : PySem.W.notFirst K b_Sent (.type "bool") = true)
    (h_kb_Sent_int : PySem.W.kitOne K (.type "int") (.ref b_Sent) = some false)
    (h_nf_Sent_int : PySem.W.notFirst K b_Sent (.type "int") = true)
    (h_kb_Sent_str : PySem.W.kitOne K (.type "str") (.ref b_Sent) = some false)
    (h_nf_Sent_str : PySem.W.notFirst K b_Sent (.type "str") = true)
    (h_kb_Sent_list : PySem.W.kitOne K (.type "list") (.ref b_Sent) = some false)
    (h_nf_Sent_list : PySem.W.notFirst K b_Sent (.type "list") = true)
    (h_kb_Sent_tuple : PySem.W.kitOne K (.type "tuple") (.ref b_Sent) = some false)
    (h_nf_Sent_tuple : PySem.W.notFirst K b_Sent (.type "tuple") = true)
    (h_kb_Sent_dict : PySem.W.kitOne K (.type "dict") (.ref b_Sent) = some false)
    (h_nf_Sent_dict : PySem.W.notFirst K b_Sent (.type "dict") = true)
    (h_kc_Sent_Arrival : PySem.W.kitOne K (.ref b_Arrival) (.ref b_Sent) = some false)
    (h_nf_Sent_c_Arrival : PySem.W.notFirst K b_Sent (.ref b_Arrival) = true)
    (h_kc_Sent_Turn : PySem.W.kitOne K (.ref b_Turn) (.ref b_Sent) = some false)
    (h_nf_Sent_c_Turn : PySem.W.notFirst K b_Sent (.ref b_Turn) = true)
    (h_kc_Sent_Sent : PySem.W.kitOne K (.ref b_Sent) (.ref b_Sent) = some true)
    (h_nf_Sent_c_Sent : PySem.W.notFirst K b_Sent (.ref b_Sent) = true) :
    ∃ fd : FuncData, (∀ (s : Shared) (u : Value), BindsTo s fd ⟨[u], []⟩ [("_law_script", u)]) ∧ ∀ base : Heap, K.In base → base.Ns mainGlobals mg → FnG (lawWd l.prog w K mg base 0 []) 5 fa fd ["_law_script"] (spLaw K) := by
  have e : a_law = fa := by
    have e := (PySem.W.mg_of X G h_a_law).symm.trans hfa
    cases e
    rfl
  subst e
  exact ⟨_, fun s v => .of_eq rfl, fun base _ _ => law_fn (A := ⟨a_Arrival___init__, a_Arrival___eq__, a_Turn___init__, a_Turn___eq__, a_Sent___init__, a_Sent___eq__, a_law_pen, a_law_draw, a_law_pick, a_law_parts, a_law_other, a_law_arrival_right, a_law_turn_right, a_law_sent_right, a_law, b_Arrival, b_Turn, b_Sent⟩) (fun_mk (st := s_law) h_l_law h_c_law h_k_law) fun p cs => txt X G h_g_Arrival h_g_Turn h_g_Sent h_cg h_ct h_no_abs h_no_int h_no_isinstance h_no_len h_no_list h_no_range h_no_repr h_no_tuple h_a_Arrival___init__ h_i_Arrival___init__ h_l_Arrival___init__ h_c_Arrival___init__ h_k_Arrival___init__ h_a_Arrival___eq__ h_i_Arrival___eq__ h_l_Arrival___eq__ h_c_Arrival___eq__ h_k_Arrival___eq__ h_a_Turn___init__ h_i_Turn___init__ h_l_Turn___init__ h_c_Turn___init__ h_k_Turn___init__ h_a_Turn___eq__ h_i_Turn___eq__ h_l_Turn___eq__ h_c_Turn___eq__ h_k_Turn___eq__ h_a_Sent___init__ h_i_Sent___init__ h_l_Sent___init__ h_c_Sent___init__ h_k_Sent___init__ h_a_Sent___eq__ h_i_Sent___eq__ h_l_Sent___eq__ h_c_Sent___eq__ h_k_Sent___eq__ h_a_law_pen h_l_law_pen h_c_law_pen h_k_law_pen h_a_law_draw h_l_law_draw h_c_law_draw h_k_law_draw h_a_law_pick h_l_law_pick h_c_law_pick h_k_law_pick h_a_law_parts h_l_law_parts h_c_law_parts h_k_law_parts h_a_law_other h_l_law_other h_c_law_other h_k_law_other h_a_law_arrival_right h_l_law_arrival_right h_c_law_arrival_right h_k_law_arrival_right h_a_law_turn_right h_l_law_turn_right h_c_law_turn_right h_k_law_turn_right h_a_law_sent_right h_l_law_sent_right h_c_law_sent_right h_k_law_sent_right h_a_law h_l_law h_c_law h_k_law h_mk_Arrival h_kc_Arrival h_pg_Arrival h_hd_Arrival h_po_Arrival h_sa_Arrival h_cc_Arrival h_ob_Arrival h_ne_Arrival h_bt_Arrival_NoneType h_bt_Arrival_bool h_bt_Arrival_int h_bt_Arrival_str h_bt_Arrival_list h_bt_Arrival_tuple h_bt_Arrival_dict h_na_Arrival_moment h_na_Arrival_name h_na_Arrival_length h_kb_Arrival_NoneType h_nf_Arrival_NoneType h_kb_Arrival_bool h_nf_Arrival_bool h_kb_Arrival_int h_nf_Arrival_int h_kb_Arrival_str h_nf_Arrival_str h_kb_Arrival_list h_nf_Arrival_list h_kb_Arrival_tuple h_nf_Arrival_tuple h_kb_Arrival_dict h_nf_Arrival_dict h_kc_Arrival_Arrival h_nf_Arrival_c_Arrival h_kc_Arrival_Turn h_nf_Arrival_c_Turn h_kc_Arrival_Sent h_nf_Arrival_c_Sent h_mk_Turn h_kc_Turn h_pg_Turn h_hd_Turn h_po_Turn h_sa_Turn h_cc_Turn h_ob_Turn h_ne_Turn h_bt_Turn_NoneType h_bt_Turn_bool h_bt_Turn_int h_bt_Turn_str h_bt_Turn_list h_bt_Turn_tuple h_bt_Turn_dict h_na_Turn_name h_na_Turn_moment h_na_Turn_credit h_na_Turn_lengths h_na_Turn_rest h_na_Turn_is_left h_kb_Turn_NoneType h_nf_Turn_NoneType h_kb_Turn_bool h_nf_Turn_bool h_kb_Turn_int h_nf_Turn_int h_kb_Turn_str h_nf_Turn_str h_kb_Turn_list h_nf_Turn_list h_kb_Turn_tuple h_nf_Turn_tuple h_kb_Turn_dict h_nf_Turn_dict h_kc_Turn_Arrival h_nf_Turn_c_Arrival h_kc_Turn_Turn h_nf_Turn_c_Turn h_kc_Turn_Sent h_nf_Turn_c_Sent h_mk_Sent h_kc_Sent h_pg_Sent h_hd_Sent h_po_Sent h_sa_Sent h_cc_Sent h_ob_Sent h_ne_Sent h_bt_Sent_NoneType h_bt_Sent_bool h_bt_Sent_int h_bt_Sent_str h_bt_Sent_list h_bt_Sent_tuple h_bt_Sent_dict h_na_Sent_name h_na_Sent_number h_na_Sent_length h_na_Sent_came h_na_Sent_ended h_na_Sent_turn h_na_Sent_bits h_kb_Sent_NoneType h_nf_Sent_NoneType h_kb_Sent_bool h_nf_Sent_bool h_kb_Sent_int h_nf_Sent_int h_kb_Sent_str h_nf_Sent_str h_kb_Sent_list h_nf_Sent_list h_kb_Sent_tuple h_nf_Sent_tuple h_kb_Sent_dict h_nf_Sent_dict h_kc_Sent_Arrival h_nf_Sent_c_Arrival h_kc_Sent_Turn h_nf_Sent_c_Turn h_kc_Sent_Sent h_nf_Sent_c_Sent⟩
end K23
set_option maxRecDepth 100000 in
set_option maxHeartbeats 0 in
theorem PySem.Challenge.cw_creditturns_k23_papers_of_plays_compared_holds : PySem.Challenge.rw_creditturns_k23_papers_of_plays_compared.Holds := by
  w_on; o_law; k_head; (case hw => w_witness2)
  k_fill
  refine DL.lawWalk (l := PySem.Challenge.rw_creditturns_k23_papers_of_plays_compared) (k := 5) (x := "_law_script") rfl rfl ⟨rfl, by decide, by decide⟩ (fun w h Y => PySem.W.kIn_of Y) ?F
  case F =>
    intro w mg fa h KX G hmg
    refine' K23.done KX G hmg ?h_g_Arrival ?h_g_Turn ?h_g_Sent ?h_cg ?h_ct ?h_no_abs ?h_no_int ?h_no_isinstance ?h_no_len ?h_no_list ?h_no_range ?h_no_repr ?h_no_tuple ?h_a_Arrival___init__ ?h_i_Arrival___init__ ?h_l_Arrival___init__ ?h_c_Arrival___init__ ?h_k_Arrival___init__ ?h_a_Arrival___eq__ ?h_i_Arrival___eq__ ?h_l_Arrival___eq__ ?h_c_Arrival___eq__ ?h_k_Arrival___eq__ ?h_a_Turn___init__ ?h_i_Turn___init__ ?h_l_Turn___init__ ?h_c_Turn___init__ ?h_k_Turn___init__ ?h_a_Turn___eq__ ?h_i_Turn___eq__ ?h_l_Turn___eq__ ?h_c_Turn___eq__ ?h_k_Turn___eq__ ?h_a_Sent___init__ ?h_i_Sent___init__ ?h_l_Sent___init__ ?h_c_Sent___init__ ?h_k_Sent___init__ ?h_a_Sent___eq__ ?h_i_Sent___eq__ ?h_l_Sent___eq__ ?h_c_Sent___eq__ ?h_k_Sent___eq__ ?h_a_law_pen ?h_l_law_pen ?h_c_law_pen ?h_k_law_pen ?h_a_law_draw ?h_l_law_draw ?h_c_law_draw ?h_k_law_draw ?h_a_law_pick ?h_l_law_pick ?h_c_law_pick ?h_k_law_pick ?h_a_law_parts ?h_l_law_parts ?h_c_law_parts ?h_k_law_parts ?h_a_law_other ?h_l_law_other ?h_c_law_other ?h_k_law_other ?h_a_law_arrival_right ?h_l_law_arrival_right ?h_c_law_arrival_right ?h_k_law_arrival_right ?h_a_law_turn_right ?h_l_law_turn_right ?h_c_law_turn_right ?h_k_law_turn_right ?h_a_law_sent_right ?h_l_law_sent_right ?h_c_law_sent_right ?h_k_law_sent_right ?h_a_law ?h_l_law ?h_c_law ?h_k_law ?h_mk_Arrival ?h_kc_Arrival ?h_pg_Arrival ?h_hd_Arrival ?h_po_Arrival ?h_sa_Arrival ?h_cc_Arrival ?h_ob_Arrival ?h_ne_Arrival ?h_bt_Arrival_NoneType ?h_bt_Arrival_bool ?h_bt_Arrival_int ?h_bt_Arrival_str ?h_bt_Arrival_list ?h_bt_Arrival_tuple ?h_bt_Arrival_dict ?h_na_Arrival_moment ?h_na_Arrival_name ?h_na_Arrival_length ?h_kb_Arrival_NoneType ?h_nf_Arrival_NoneType ?h_kb_Arrival_bool ?h_nf_Arrival_bool ?h_kb_Arrival_int ?h_nf_Arrival_int ?h_kb_Arrival_str ?h_nf_Arrival_str ?h_kb_Arrival_list ?h_nf_Arrival_list ?h_kb_Arrival_tuple ?h_nf_Arrival_tuple ?h_kb_Arrival_dict ?h_nf_Arrival_dict ?h_kc_Arrival_Arrival ?h_nf_Arrival_c_Arrival ?h_kc_Arrival_Turn ?h_nf_Arrival_c_Turn ?h_kc_Arrival_Sent ?h_nf_Arrival_c_Sent ?h_mk_Turn ?h_kc_Turn ?h_pg_Turn ?h_hd_Turn ?h_po_Turn ?h_sa_Turn ?h_cc_Turn ?h_ob_Turn ?h_ne_Turn ?h_bt_Turn_NoneType ?h_bt_Turn_bool ?h_bt_Turn_int ?h_bt_Turn_str ?h_bt_Turn_list ?h_bt_Turn_tuple ?h_bt_Turn_dict ?h_na_Turn_name ?h_na_Turn_moment ?h_na_Turn_credit ?h_na_Turn_lengths ?h_na_Turn_rest ?h_na_Turn_is_left ?h_kb_Turn_NoneType ?h_nf_Turn_NoneType ?h_kb_Turn_bool ?h_nf_Turn_bool ?h_kb_Turn_int ?h_nf_Turn_int ?h_kb_Turn_str ?h_nf_Turn_str ?h_kb_Turn_list ?h_nf_Turn_list ?h_kb_Turn_tuple ?h_nf_Turn_tuple ?h_kb_Turn_dict ?h_nf_Turn_dict ?h_kc_Turn_Arrival ?h_nf_Turn_c_Arrival ?h_kc_Turn_Turn ?h_nf_Turn_c_Turn ?h_kc_Turn_Sent ?h_nf_Turn_c_Sent ?h_mk_Sent ?h_kc_Sent ?h_pg_Sent ?h_hd_Sent ?h_po_Sent ?h_sa_Sent ?h_cc_Sent ?h_ob_Sent ?h_ne_Sent ?h_bt_Sent_NoneType ?h_bt_Sent_bool ?h_bt_Sent_int ?h_bt_Sent_str ?h_bt_Sent_list ?h_bt_Sent_tuple ?h_bt_Sent_dict ?h_na_Sent_name ?h_na_Sent_number ?h_na_Sent_length ?h_na_Sent_came ?h_na_Sent_ended ?h_na_Sent_turn ?h_na_Sent_bits ?h_kb_Sent_NoneType ?h_nf_Sent_NoneType ?h_kb_Sent_bool ?h_nf_Sent_bool ?h_kb_Sent_int ?h_nf_Sent_int ?h_kb_Sent_str ?h_nf_Sent_str ?h_kb_Sent_list ?h_nf_Sent_list ?h_kb_Sent_tuple ?h_nf_Sent_tuple ?h_kb_Sent_dict ?h_nf_Sent_dict ?h_kc_Sent_Arrival ?h_nf_Sent_c_Arrival ?h_kc_Sent_Turn ?h_nf_Sent_c_Turn ?h_kc_Sent_Sent ?h_nf_Sent_c_Sent
    (case h_g_Arrival => k_is)
    (case h_g_Turn => k_is)
    (case h_g_Sent => k_is)
    (case h_cg => k_is)
    (case h_ct => k_is)
    (case h_no_abs => k_is)
    (case h_no_int => k_is)
    (case h_no_isinstance => k_is)
    (case h_no_len => k_is)
    (case h_no_list => k_is)
    (case h_no_range => k_is)
    (case h_no_repr => k_is)
    (case h_no_tuple => k_is)
    (case h_a_Arrival___init__ => k_is)
    (case h_i_Arrival___init__ => k_is)
    (case h_l_Arrival___init__ => k_is)
    (case h_c_Arrival___init__ => k_is)
    (case h_k_Arrival___init__ => k_is)
    (case h_a_Arrival___eq__ => k_is)
    (case h_i_Arrival___eq__ => k_is)
    (case h_l_Arrival___eq__ => k_is)
    (case h_c_Arrival___eq__ => k_is)
    (case h_k_Arrival___eq__ => k_is)
    (case h_a_Turn___init__ => k_is)
    (case h_i_Turn___init__ => k_is)
    (case h_l_Turn___init__ => k_is)
    (case h_c_Turn___init__ => k_is)
    (case h_k_Turn___init__ => k_is)
    (case h_a_Turn___eq__ => k_is)
    (case h_i_Turn___eq__ => k_is)
    (case h_l_Turn___eq__ => k_is)
    (case h_c_Turn___eq__ => k_is)
    (case h_k_Turn___eq__ => k_is)
    (case h_a_Sent___init__ => k_is)
    (case h_i_Sent___init__ => k_is)
    (case h_l_Sent___init__ => k_is)
    (case h_c_Sent___init__ => k_is)
    (case h_k_Sent___init__ => k_is)
    (case h_a_Sent___eq__ => k_is)
    (case h_i_Sent___eq__ => k_is)
    (case h_l_Sent___eq__ => k_is)
    (case h_c_Sent___eq__ => k_is)
    (case h_k_Sent___eq__ => k_is)
    (case h_a_law_pen => k_is)
    (case h_l_law_pen => k_is)
    (case h_c_law_pen => k_is)
    (case h_k_law_pen => k_is)
    (case h_a_law_draw => k_is)
    (case h_l_law_draw => k_is)
    (case h_c_law_draw => k_is)
    (case h_k_law_draw => k_is)
    (case h_a_law_pick => k_is)
    (case h_l_law_pick => k_is)
    (case h_c_law_pick => k_is)
    (case h_k_law_pick => k_is)
    (case h_a_law_parts => k_is)
    (case h_l_law_parts => k_is)
    (case h_c_law_parts => k_is)
    (case h_k_law_parts => k_is)
    (case h_a_law_other => k_is)
    (case h_l_law_other => k_is)
    (case h_c_law_other => k_is)
    (case h_k_law_other => k_is)
    (case h_a_law_arrival_right => k_is)
    (case h_l_law_arrival_right => k_is)
    (case h_c_law_arrival_right => k_is)
    (case h_k_law_arrival_right => k_is)
    (case h_a_law_turn_right => k_is)
    (case h_l_law_turn_right => k_is)
    (case h_c_law_turn_right => k_is)
    (case h_k_law_turn_right => k_is)
    (case h_a_law_sent_right => k_is)
    (case h_l_law_sent_right => k_is)
    (case h_c_law_sent_right => k_is)
    (case h_k_law_sent_right => k_is)
    (case h_a_law => k_is)
    (case h_l_law => k_is)
    (case h_c_law => k_is)
    (case h_k_law => k_is)
    (case h_mk_Arrival => k_is)
    (case h_kc_Arrival => k_is)
    (case h_pg_Arrival => k_is)
    (case h_hd_Arrival => k_is)
    (case h_po_Arrival => k_is)
    (case h_sa_Arrival => k_is)
    (case h_cc_Arrival => k_is)
    (case h_ob_Arrival => k_is)
    (case h_ne_Arrival => k_is)
    (case h_bt_Arrival_NoneType => k_is)
    (case h_bt_Arrival_bool => k_is)
    (case h_bt_Arrival_int => k_is)
    (case h_bt_Arrival_str => k_is)
    (case h_bt_Arrival_list => k_is)
    (case h_bt_Arrival_tuple => k_is)
    (case h_bt_Arrival_dict => k_is)
    (case h_na_Arrival_moment => k_is)
    (case h_na_Arrival_name => k_is)
    (case h_na_Arrival_length => k_is)
    (case h_kb_Arrival_NoneType => kit_is)
    (case h_nf_Arrival_NoneType => k_is)
    (case h_kb_Arrival_bool => kit_is)
    (case h_nf_Arrival_bool => k_is)
    (case h_kb_Arrival_int => kit_is)
    (case h_nf_Arrival_int => k_is)
    (case h_kb_Arrival_str => kit_is)
    (case h_nf_Arrival_str => k_is)
    (case h_kb_Arrival_list => kit_is)
    (case h_nf_Arrival_list => k_is)
    (case h_kb_Arrival_tuple => kit_is)
    (case h_nf_Arrival_tuple => k_is)
    (case h_kb_Arrival_dict => kit_is)
    (case h_nf_Arrival_dict => k_is)
    (case h_kc_Arrival_Arrival => kit_is)
    (case h_nf_Arrival_c_Arrival => k_is)
    (case h_kc_Arrival_Turn => kit_is)
    (case h_nf_Arrival_c_Turn => k_is)
    (case h_kc_Arrival_Sent => kit_is)
    (case h_nf_Arrival_c_Sent => k_is)
    (case h_mk_Turn => k_is)
    (case h_kc_Turn => k_is)
    (case h_pg_Turn => k_is)
    (case h_hd_Turn => k_is)
    (case h_po_Turn => k_is)
    (case h_sa_Turn => k_is)
    (case h_cc_Turn => k_is)
    (case h_ob_Turn => k_is)
    (case h_ne_Turn => k_is)
    (case h_bt_Turn_NoneType => k_is)
    (case h_bt_Turn_bool => k_is)
    (case h_bt_Turn_int => k_is)
    (case h_bt_Turn_str => k_is)
    (case h_bt_Turn_list => k_is)
    (case h_bt_Turn_tuple => k_is)
    (case h_bt_Turn_dict => k_is)
    (case h_na_Turn_name => k_is)
    (case h_na_Turn_moment => k_is)
    (case h_na_Turn_credit => k_is)
    (case h_na_Turn_lengths => k_is)
    (case h_na_Turn_rest => k_is)
    (case h_na_Turn_is_left => k_is)
    (case h_kb_Turn_NoneType => kit_is)
    (case h_nf_Turn_NoneType => k_is)
    (case h_kb_Turn_bool => kit_is)
    (case h_nf_Turn_bool => k_is)
    (case h_kb_Turn_int => kit_is)
    (case h_nf_Turn_int => k_is)
    (case h_kb_Turn_str => kit_is)
    (case h_nf_Turn_str => k_is)
    (case h_kb_Turn_list => kit_is)
    (case h_nf_Turn_list => k_is)
    (case h_kb_Turn_tuple => kit_is)
    (case h_nf_Turn_tuple => k_is)
    (case h_kb_Turn_dict => kit_is)
    (case h_nf_Turn_dict => k_is)
    (case h_kc_Turn_Arrival => kit_is)
    (case h_nf_Turn_c_Arrival => k_is)
    (case h_kc_Turn_Turn => kit_is)
    (case h_nf_Turn_c_Turn => k_is)
    (case h_kc_Turn_Sent => kit_is)
    (case h_nf_Turn_c_Sent => k_is)
    (case h_mk_Sent => k_is)
    (case h_kc_Sent => k_is)
    (case h_pg_Sent => k_is)
    (case h_hd_Sent => k_is)
    (case h_po_Sent => k_is)
    (case h_sa_Sent => k_is)
    (case h_cc_Sent => k_is)
    (case h_ob_Sent => k_is)
    (case h_ne_Sent => k_is)
    (case h_bt_Sent_NoneType => k_is)
    (case h_bt_Sent_bool => k_is)
    (case h_bt_Sent_int => k_is)
    (case h_bt_Sent_str => k_is)
    (case h_bt_Sent_list => k_is)
    (case h_bt_Sent_tuple => k_is)
    (case h_bt_Sent_dict => k_is)
    (case h_na_Sent_name => k_is)
    (case h_na_Sent_number => k_is)
    (case h_na_Sent_length => k_is)
    (case h_na_Sent_came => k_is)
    (case h_na_Sent_ended => k_is)
    (case h_na_Sent_turn => k_is)
    (case h_na_Sent_bits => k_is)
    (case h_kb_Sent_NoneType => kit_is)
    (case h_nf_Sent_NoneType => k_is)
    (case h_kb_Sent_bool => kit_is)
    (case h_nf_Sent_bool => k_is)
    (case h_kb_Sent_int => kit_is)
    (case h_nf_Sent_int => k_is)
    (case h_kb_Sent_str => kit_is)
    (case h_nf_Sent_str => k_is)
    (case h_kb_Sent_list => kit_is)
    (case h_nf_Sent_list => k_is)
    (case h_kb_Sent_tuple => kit_is)
    (case h_nf_Sent_tuple => k_is)
    (case h_kb_Sent_dict => kit_is)
    (case h_nf_Sent_dict => k_is)
    (case h_kc_Sent_Arrival => kit_is)
    (case h_nf_Sent_c_Arrival => k_is)
    (case h_kc_Sent_Turn => kit_is)
    (case h_nf_Sent_c_Turn => k_is)
    (case h_kc_Sent_Sent => kit_is)
    (case h_nf_Sent_c_Sent => k_is)

